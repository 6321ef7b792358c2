import PyProof.Rows.All
import Wide.All
import OpenK.AllK
import Wide.FinOn
import KE.KStateDown
import Lean
import HandS.Base
import HandS.Call
import HandS.Ends
import HandS.List
import HandS.Comp
import HandS.Iter
import HandS.Dict
import HandS.Text
import HandS.Exc
import HandS.More
import HandS.Words
import HandS.WordsExc
import HandS.WordsList
import HandS.WordsDict
import HandS.Defaults
import HandS.IsInst
import HandS.Wide
import HandS.WideBits
import HandS.Walk
import HandS.Zip
import HandS.FStr
import HandS.Codes
import HandS.TryOnly
import HandS.ExcOwn
import HandS.Steps
import HandS.Slots
import HandS.SlotsOwn
import HandS.MakeKwOnly
import HandS.Style
import HandS.Star
import HandS.ClsMeth
import HandS.ListEq
import HandS.ExcInit
import HandS.ExcField
import HandS.ExcSuper
import HandS.Lambda
import HandS.EndTab
import HandS.HeadWalk
import HandS.HeadHook4
import HandS.HotCalls
import HandS.TryMany
import KE.KExcSuper
import KE.KSuper
import KE.KNestM
import KE.KExcInit
import HandS.Property
import HandS.WideMore
import HandS.Head0
import HandS.Head1
import HandS.Head2
import HandS.HeadEnd
import HandS.HeadHook1
import HandS.HeadHook2
import PySem.Challenge.RW_powerwish_k72_bounds_of_periods_and_of_p
set_option Elab.async false
set_option linter.all false
set_option maxRecDepth 100000
set_option maxHeartbeats 4000000
/-! ### the hook: facts, and Bools of one's own -/
namespace PW
open PySem PySem.Spec PyProof.Rows L2
def fdOf (K : PySem.W.Frag) (a : Addr) : FuncData := match K.lookup a with
  | some ⟨_, _, .func fd, _⟩ => fd
  | _ => default
theorem funD_of {K : PySem.W.Frag} {x qual : Str} {params : Arguments} {body : List Stmt} {scope : Scope} {dvs : List V} {kws : List (Str × V)} {f : Addr} (h : ∃ fd, FunD K x qual params body scope dvs kws f fd) :
    FunD K x qual params body scope dvs kws f (fdOf K f) := by
  obtain ⟨fd, F⟩ := h
  obtain ⟨oc, od, dV, kV, doc, pm, an, cdv, ct, osl, e, lk, _⟩ := F.ex
  have e2 : fdOf K f = fd := by
    unfold fdOf
    rw [lk]
  rw [e2]
  exact F
/-- a def reached by a path of one's own (a staticmethod's), without defaults -/
structure DefA where
  at_ : PySem.W.Frag → Addr
  name : Str
  qual : Str
  params : Arguments
  body : List Stmt
  scope : Scope
def fnWA (K : PySem.W.Frag) (d : DefA) : He.FnW := match K.lookup (d.at_ K) with
  | some ⟨_, _, .func fd, _⟩ => some (fd.name, fd.qualname, fd.params, fd.body, fd.scope, fd.globals, fd.closure, fd.builtins)
  | _ => none
def DefA.val (d : DefA) : He.FnW := some (d.name, d.qual, d.params, .stmts d.body, d.scope, mainGlobals, [], builtinsNs)
def DefA.ok (K : PySem.W.Frag) (d : DefA) : Bool := PySem.W.keepIn K (.ref (d.at_ K)) && (match K.lookup (d.at_ K) with
  | some ⟨_, _, .func fd, _⟩ => PySem.W.codeIn K fd.code d.qual && (He.dflB K fd.defaults [] && He.kwdB K fd.kwdefaults [])
  | _ => false)
theorem DefA.funD {K : PySem.W.Frag} {d : DefA} (e : fnWA K d = d.val) (c : d.ok K = true) : ∃ fd, FunD K d.name d.qual d.params d.body d.scope [] [] (d.at_ K) fd := by
  obtain ⟨kp, c2⟩ := He.ba c
  unfold fnWA at e
  cases q : K.lookup (d.at_ K) with
  | none =>
    rw [q] at c2
    cases c2
  | some o =>
    obtain ⟨oc, od, dt, osl⟩ := o
    rw [q] at c2 e
    cases dt with
    | func fd =>
      obtain ⟨n1, n2, n3, n4, n5, n6, n7, n8, n9, n10, n11, n12, n13, n14, n15⟩ := fd
      have e2 : (some (n1, n2, n3, n4, n5, n6, n7, n15) : He.FnW) = some (d.name, d.qual, d.params, .stmts d.body, d.scope, mainGlobals, [], builtinsNs) := e
      simp only [Option.some.injEq, Prod.mk.injEq] at e2
      obtain ⟨h1, h2, h3, h4, h5, h6, h7, h8⟩ := e2
      subst h1 h2 h3 h4 h5 h6 h7 h8
      have c3 : (PySem.W.codeIn K n13 d.qual && (He.dflB K n8 [] && He.kwdB K n9 [])) = true := c2
      obtain ⟨k1, k2⟩ := He.ba c3
      obtain ⟨k3, k4⟩ := He.ba k2
      exact ⟨_, ⟨oc, od, n8, n9, n10, n11, n12, n13, n14, osl, rfl, q, k1, He.dflB_ok k3, He.kwdB_ok k4⟩, kp⟩
    | _ => cases c2
/-- a staticmethod's function -/
def sgA (C m : Str) (K : PySem.W.Frag) : Addr := match PySem.W.recIn K (He.ma K (He.ga K C) m) "staticmethod" with
  | some (.ref g :: _) => g
  | _ => 0
/-- a keyword-only default that is an object -/
def kwA (p : Str × Option Str) (x : Str) (K : PySem.W.Frag) : Addr := match K.lookup (He.fAd K p) with
  | some ⟨_, _, .func fd, _⟩ => (match fd.kwdefaults with
    | .ref D => (match PySem.W.nsIn K D x with
      | some (some (.ref a)) => a
      | _ => 0)
    | _ => 0)
  | _ => 0
/-- an empty tuple at a -/
def emptyT (K : PySem.W.Frag) (a : Addr) : Bool := match K.lookup a with
  | some ⟨.type c, _, .seq its _, _⟩ => decide (c = "tuple") && decide (its.size = 0)
  | _ => false
theorem emptyT_ok {K : PySem.W.Frag} {a : Addr} (h : emptyT K a = true) (H : Hp) : SqT K H a [] := by
  unfold emptyT at h
  cases q : K.lookup a with
  | none =>
    rw [q] at h
    cases h
  | some o =>
    obtain ⟨oc, od, dt, osl⟩ := o
    rw [q] at h
    cases oc with
    | type c =>
      cases dt with
      | seq its n =>
        obtain ⟨h1, h2⟩ := He.ba (show (decide (c = "tuple") && decide (its.size = 0)) = true from h)
        have h3 : its.size = 0 := of_decide_eq_true h2
        have h4 : its = #[] := Array.eq_empty_of_size_eq_zero h3
        subst h4
        exact .inr ⟨_, #[], n, q, congrArg Value.type (of_decide_eq_true h1), rfl, Nat.zero_le _, .nil⟩
      | _ => cases h
    | _ => cases dt <;> cases h
abbrev AlM : Type := He.AlD × (List He.FnW × Bool)
def obsM (fa : List He.Fa) (fn : List He.DefD) (fs : List DefA) (ex : PySem.W.Frag → List Bool) (K : PySem.W.Frag) : AlM := (He.obsD fa fn K, (fs.map (fnWA K), (fs.all fun d => d.ok K) && (ex K).all id))
def valM (fn : List He.DefD) (fs : List DefA) : AlM := (He.valD fn, (fs.map DefA.val, true))
structure SaysM (fa : List He.Fa) (fn : List He.DefD) (fs : List DefA) (ex : PySem.W.Frag → List Bool) (K : PySem.W.Frag) : Prop where
  d : He.SaysD fa fn K
  s : ∀ d ∈ fs, ∃ fd, FunD K d.name d.qual d.params d.body d.scope [] [] (d.at_ K) fd
  b : ∀ b ∈ ex K, b = true
theorem map_mem {α β : Type} {f g : α → β} : ∀ {l : List α}, l.map f = l.map g → ∀ a ∈ l, f a = g a
  | [], _, _, h => by cases h
  | x :: r, e, a, h => by
    rw [List.map_cons, List.map_cons] at e
    injection e with e1 e2
    rcases List.mem_cons.mp h with rfl | h
    · exact e1
    · exact map_mem e2 a h
theorem exN {l : List Bool} (h : ∀ b ∈ l, b = true) (i : Nat) {b : Bool} (e : l[i]? = some b) : b = true := h b (List.mem_of_getElem? e)
def obsMG (n : Nat) (fa : List He.Fa) (fn : List He.DefD) (fs : List DefA) (ex : PySem.W.Frag → List Bool) (g : Addr → Option Obj) : AlM := obsM fa fn fs ex (He.frG g (He.asD g n ++ [cStatics]))
theorem saysM_of {fa : List He.Fa} {fn : List He.DefD} {fs : List DefA} {ex : PySem.W.Frag → List Bool} {K : PySem.W.Frag} (e : obsM fa fn fs ex K = valM fn fs) : SaysM fa fn fs ex K := by
  have e1 : He.obsD fa fn K = He.valD fn := congrArg (fun z : AlM => z.1) e
  have e2 : fs.map (fnWA K) = fs.map DefA.val := congrArg (fun z : AlM => z.2.1) e
  have e3 : ((fs.all fun d => d.ok K) && (ex K).all id) = true := congrArg (fun z : AlM => z.2.2) e
  obtain ⟨e4, e5⟩ := He.ba e3
  exact ⟨e1, fun d hd => DefA.funD (map_mem e2 d hd) (List.all_eq_true.mp e4 d hd), fun b hb => List.all_eq_true.mp e5 b hb⟩
def hookM (n : Nat) (fa : List He.Fa) (fn : List He.DefD) (fs : List DefA) (ex : PySem.W.Frag → List Bool) : PySem.W.Hook where
  α := AlM
  obs := fun s => obsMG n fa fn fs ex s.heap.get?
  val := fun _ => valM fn fs
  says := fun _ h => ∃ K : PySem.W.Frag, K.In h ∧ SaysM fa fn fs ex K
  of := fun _ _ e => ⟨_, He.frG_in, saysM_of e⟩
  keeps := fun _ _ _ ⟨K, hK, c⟩ k => ⟨K, PySem.W.Frag.In.keeps hK k, c⟩
theorem obsMG_eq {n : Nat} {fa : List He.Fa} {fn : List He.DefD} {fs : List DefA} {ex : PySem.W.Frag → List Bool} {g : Addr → Option Obj} {s : Shared} (h : ∀ a, g a = s.heap.get? a) : obsMG n fa fn fs ex g = (hookM n fa fn fs ex).obs s := by
  have e : g = s.heap.get? := funext h
  rw [e] <;> rfl
/-! ### a module's constants -/
section
variable {X : Cx} {x : Str} {pos : Pos}
theorem pe_gint {i : Int} (hg : Gl X x) (h : ∃ t, X.mg x = some (.int i t)) (hd : (x == ("__debug__" : Str)) = false := by decide) : PE X (.Name x pos) (tC (.int i)) := by
  obtain ⟨t, h⟩ := h
  exact pe_glob hg h ⟨t, rfl⟩ hd
theorem pe_gstr {z : Str} (hg : Gl X x) (h : ∃ t, X.mg x = some (.str z t)) (hd : (x == ("__debug__" : Str)) = false := by decide) : PE X (.Name x pos) (tC (.str z)) := by
  obtain ⟨t, h⟩ := h
  exact pe_glob hg h ⟨t, rfl⟩ hd
end
end PW
/-! ### readings, one step at a time -/
namespace PW
open PySem PySem.Spec PyProof.Rows L2
section
variable {σ : L2.St} {H : Hp} {Q : VK} {D : Ends} {v x y : V} {i j : Int} {n m : Nat} {ta tb tc te : L2.TE} {t u : TT} {s1 s2 : TS} {r r' : R2} {K : PySem.W.Frag} {tA tR : TA}
theorem r_var (h : σ[n]? = some (some v)) (q : Q v H) : tVar n σ H Q := ⟨v, h, q⟩
theorem r_c (q : Q v H) : tC v σ H Q := q
theorem r_op (h : ta σ H fun x H1 => tb σ H1 fun y H2 => r x y H2 Q) : tOp r ta tb σ H Q := h
theorem r_un {r : V → Hp → VK → Prop} (h : ta σ H fun x H1 => r x H1 Q) : tUn r ta σ H Q := h
theorem r_chain (h : ta σ H fun x H1 => tb σ H1 fun y H2 => r x y H2 fun z H3 => ∃ k, z = .bl k ∧ (if k = true then tc σ H3 fun w' H4 => r' y w' H4 Q else Q (.bl false) H3)) : tChain r r' ta tb tc σ H Q := h
theorem r_test {Q : Bool → Hp → Prop} (h : te σ H fun x H' => ∃ k, x = .bl k ∧ Q k H') : tTest te σ H Q := h
theorem r_b {Q : Bool → Hp → Prop} (h : te σ H fun x H' => ∃ k, x = .bl k ∧ Q k H') : tB te σ H Q := h
theorem r_bl {b : Bool} {Q : Bool → Prop} (q : Q b) : ∃ k, V.bl b = .bl k ∧ Q k := ⟨b, rfl, q⟩
theorem r_bl' {b : Bool} {Q : Bool → Hp → Prop} (q : Q b H) : ∃ k, V.bl b = .bl k ∧ Q k H := ⟨b, rfl, q⟩
theorem r_not {Q : Bool → Hp → Prop} (h : t σ H fun c H1 => Q (!c) H1) : tNot t σ H Q := h
theorem r_and {Q : Bool → Hp → Prop} (h : t σ H fun c H1 => if c = true then u σ H1 Q else Q false H1) : tAnd t u σ H Q := h
theorem r_or {Q : Bool → Hp → Prop} (h : t σ H fun c H1 => if c = true then Q true H1 else u σ H1 Q) : tOr t u σ H Q := h
theorem r_andV (h : ta σ H fun x H1 => ∃ c, x = .bl c ∧ if c = true then tb σ H1 Q else Q (.bl false) H1) : tAndV ta tb σ H Q := h
theorem r_orV (h : ta σ H fun x H1 => ∃ c, x = .bl c ∧ if c = true then Q (.bl true) H1 else tb σ H1 Q) : tOrV ta tb σ H Q := h
theorem r_notV (h : ta σ H fun x H1 => ∃ c, x = .bl c ∧ Q (.bl (!c)) H1) : tNotV ta σ H Q := h
theorem r_isN (h : ta σ H fun x H1 => Q (.bl (decide (x = .non))) H1) : tIsN ta σ H Q := h
theorem r_notN (h : ta σ H fun x H1 => Q (.bl (!decide (x = .non))) H1) : tNotN ta σ H Q := h
theorem r_ifE (h : t σ H fun c H1 => if c = true then ta σ H1 Q else tb σ H1 Q) : tIf t ta tb σ H Q := h
theorem r_ifS (h : t σ H fun b H1 => if b = true then s1 D σ H1 else s2 D σ H1) : tIfS t s1 s2 D σ H := h
theorem r_seq (h : s1 { D with nx := s2 D } σ H) : tSeq s1 s2 D σ H := h
theorem r_next (h : D.nx σ H) : tNext D σ H := h
theorem r_brk (h : D.bk σ H) : tBreak D σ H := h
theorem r_cnt (h : D.ct σ H) : tCont D σ H := h
theorem r_ret (h : te σ H D.rt) : tRet te D σ H := h
theorem r_retN (h : D.rt .non H) : tRetN D σ H := h
theorem r_drop (h : te σ H fun _ H1 => D.nx σ H1) : tDrop te D σ H := h
theorem r_asg {g : TG} (h : te σ H fun x H1 => g x σ H1 D.nx) : tAsg te g D σ H := h
theorem r_gname {Q : L2.St → Hp → Prop} (h : Q (σ.set n (some v)) H) : gName n v σ H Q := h
theorem r_gsub {to ti : L2.TE} {ts : TSet} {Q : L2.St → Hp → Prop} (h : to σ H fun o H1 => ti σ H1 fun i H2 => ts o i v H2 fun H3 => Q σ H3) : gSub to ti ts v σ H Q := h
theorem r_aug {ti : TIp} (hx : σ[n]? = some (some x)) (h : te σ H fun y H1 => ti x y H1 fun z H2 => D.nx (σ.set n (some z)) H2) : tAug n te ti D σ H := ⟨x, hx, h⟩
theorem r_ipI {g : Int → Int → Int} {Q : VK} (q : Q (.int (g i j)) H) : ipI g (.int i) (.int j) H Q := ⟨i, j, rfl, rfl, q⟩
theorem r_nil {Q : List V → Hp → Prop} (h : Q [] H) : tNil σ H Q := h
theorem r_cons {Q : List V → Hp → Prop} (h : ta σ H fun x H1 => tR σ H1 fun xs H2 => Q (x :: xs) H2) : tCons ta tR σ H Q := h
theorem r_cb {r : List V → Hp → VK → Prop} (h : tA σ H fun vs H1 => r vs H1 Q) : tCB r tA σ H Q := h
theorem r_call {sp : Sp} {dvs : List V} {E : XK} (h : tA σ H fun vs H1 => sp (vs ++ dvs) H1 Q E) : tCall sp dvs E tA σ H Q := h
theorem r_I0 {g : Int → Int → V} (q : Q (g i j) H) : rI0 g (.int i) (.int j) H Q := ⟨i, j, rfl, rfl, q⟩
theorem r_I {C : Int → Int → Prop} {g : Int → Int → V} (c : C i j) (q : Q (g i j) H) : rI C g (.int i) (.int j) H Q := ⟨i, j, rfl, rfl, c, q⟩
theorem r_U {g : Int → V} (q : Q (g i) H) : rU g (.int i) H Q := ⟨i, rfl, q⟩
theorem r_eq (h : scal x y = true) (q : Q (.bl (decide (x = y))) H) : rEq x y H Q := ⟨h, q⟩
theorem r_ne (h : scal x y = true) (q : Q (.bl (!decide (x = y))) H) : rNe x y H Q := ⟨h, q⟩
theorem r_ixL {p : Addr} {xs : List V} (h : SqL K H p xs) (a : atI xs i = some v) (q : Q v H) : rIxL K (.ref p) (.int i) H Q := ⟨p, xs, i, v, rfl, rfl, h, a, q⟩
theorem r_ixT {p : Addr} {xs : List V} (h : SqT K H p xs) (a : atI xs i = some v) (q : Q v H) : rIxT K (.ref p) (.int i) H Q := ⟨p, xs, i, v, rfl, rfl, h, a, q⟩
theorem r_setL {p : Addr} {xs : List V} {k : Nat} {Q : Hp → Prop} (h : H p = some (.lst xs)) (e : ixN xs.length i = some k) (q : Q (upd H p (.lst (xs.set k v)))) : rSetL (.ref p) (.int i) v H Q := ⟨p, xs, i, k, rfl, rfl, h, e, q⟩
theorem r_lst {l : Nat} (hl : l = l) (h : tA σ H fun xs H1 => xs.length ≤ sizeLine ∧ ∀ p, H1 p = none → Q (.ref p) (upd H1 p (.lst xs))) : tLst tA σ H Q := h
theorem r_lst1 {xs : List V} {R : Prop} (hl : xs.length ≤ 100000) (h : R) : xs.length ≤ sizeLine ∧ R := ⟨Nat.le_trans hl (by decide), h⟩
theorem r_tup (h : tA σ H fun xs H1 => xs.length ≤ sizeLine ∧ ∀ p, H1 p = none → Q (.ref p) (upd H1 p (.tup xs))) : tTup tA σ H Q := h
theorem r_ifT {A B : Prop} (h : A) : if true = true then A else B := by rw [if_pos rfl]; exact h
theorem r_ifF {A B : Prop} (h : B) : if false = true then A else B := by rw [if_neg Bool.false_ne_true]; exact h
theorem r_ifT' {c : Bool} {A B : Prop} (e : c = true) (h : A) : if c = true then A else B := by rw [if_pos e]; exact h
theorem r_ifF' {c : Bool} {A B : Prop} (e : c = false) (h : B) : if c = true then A else B := by rw [if_neg (by rw [e]; exact Bool.false_ne_true)]; exact h
theorem r_if2 {c : Bool} {A B : Prop} (h1 : c = true → A) (h2 : c = false → B) : if c = true then A else B := by
  cases c with
  | true => exact r_ifT (h1 rfl)
  | false => exact r_ifF (h2 rfl)
theorem r_int1 {Q : VK} (q : Q (.int i) H) : (∃ k, [V.int i] = [.int k] ∧ Q (.int k) H) ∨ ∃ k, [V.int i] = [.bl k] ∧ Q (.int (if k then 1 else 0)) H := .inl ⟨i, rfl, q⟩
theorem r_part {Q : Option Int → Hp → Prop} (h : te σ H fun x H1 => ∃ i, x = .int i ∧ Q (some i) H1) : tPart te σ H Q := h
theorem r_exI {R : Int → Prop} (h : R i) : ∃ k, V.int i = .int k ∧ R k := ⟨i, rfl, h⟩
theorem r_noPart {Q : Option Int → Hp → Prop} (h : Q none H) : tNoPart σ H Q := h
theorem r_sl {rs : V → Option Int → Option Int → Hp → VK → Prop} {tl th : TO} (h : te σ H fun x H1 => tl σ H1 fun l H2 => th σ H2 fun u H3 => rs x l u H3 Q) : tSl rs te tl th σ H Q := h
theorem r_slL {p : Addr} {xs : List V} {lo hi : Option Int} (h : SqL K H p xs) (q : ∀ l, H l = none → Q (.ref l) (upd H l (.lst (cutV xs lo hi)))) : rSlL K (.ref p) lo hi H Q := ⟨p, xs, rfl, h, q⟩
theorem r_slS {z : Str} {lo hi : Option Int} (h : z.length ≤ sizeLine) (q : Q (.str (cutS z lo hi)) H) : rSlS (.str z) lo hi H Q := ⟨z, rfl, h, q⟩
end
end PW
namespace PW
open PySem PySem.Spec PyProof.Rows L2
theorem cmx {i j : Int} (h1 : -(2 ^ 64) < i) (h2 : i < 2 ^ 64) (h3 : -(2 ^ 64) < j) (h4 : j < 2 ^ 64) : CMulX i j := mulx_ok (a := 64) (b := 64) (by omega) (by omega) (by decide)
theorem cdw {i j : Int} (h : 0 < j) (h2 : j < 2 ^ 64) : CDivW i j := wide_div (b := 64) h (by omega) (by decide) (by decide)
end PW
namespace PW
open PySem PySem.Spec PyProof.Rows L2
theorem cpow {i j : Int} (h : 0 ≤ j) (h2 : j ≤ 1000) (h3 : -(2 ^ 64) < i) (h4 : i < 2 ^ 64) : CPow i j := ⟨h, by omega, by omega⟩
theorem cdw2 {i j : Int} (h : 0 < j) (h2 : j.natAbs.log2 < 9000) : CDivW i j := ⟨h, h2⟩
/-! ### built-ins by named readings -/
def cInt : List V → Hp → VK → Prop := fun xs H Q => (∃ i, xs = [.int i] ∧ Q (.int i) H) ∨ ∃ k, xs = [.bl k] ∧ Q (.int (if k then 1 else 0)) H
def cLen (K : PySem.W.Frag) : List V → Hp → VK → Prop := fun xs H Q => ∃ x n, xs = [x] ∧ LenV K x H n ∧ Q (.int n) H
def cAbs : List V → Hp → VK → Prop := fun xs H Q => ∃ i, xs = [.int i] ∧ Q (.int (if i < 0 then -i else i)) H
def cMax : List V → Hp → VK → Prop := fun xs H Q => ∃ i j, xs = [.int i, .int j] ∧ Q (.int (if j > i then j else i)) H
def cMin : List V → Hp → VK → Prop := fun xs H Q => ∃ i j, xs = [.int i, .int j] ∧ Q (.int (if j < i then j else i)) H
def cList (K : PySem.W.Frag) : List V → Hp → VK → Prop := fun xs H Q => ∃ p ys, xs = [.ref p] ∧ (SqL K H p ys ∨ SqT K H p ys) ∧ ∀ l, H l = none → Q (.ref l) (upd H l (.lst ys))
def cTuple (K : PySem.W.Frag) : List V → Hp → VK → Prop := fun xs H Q => ∃ p ys, xs = [.ref p] ∧ ((SqL K H p ys ∧ ∀ l, H l = none → Q (.ref l) (upd H l (.tup ys))) ∨ (SqT K H p ys ∧ Q (.ref p) H))
def oAddS : R2 := fun x y H Q => ∃ i j, x = .str i ∧ y = .str j ∧ i.length + j.length ≤ sizeLine ∧ Q (.str (i ++ j)) H
section
variable {X : Cx}
theorem call_intN : CallR X (.type "int") cInt := call_int1
theorem call_lenN : CallR X (.builtin "len") (cLen X.K) := call_len
theorem call_absN : CallR X (.builtin "abs") cAbs := call_abs
theorem call_maxN (hc : X.calm = true) : CallR X (.builtin "max") cMax := call_max2 hc
theorem call_minN (hc : X.calm = true) : CallR X (.builtin "min") cMin := call_min2 hc
theorem call_listN : CallR X (.type "list") (cList X.K) := call_list_of
theorem call_tupleN : CallR X (.type "tuple") (cTuple X.K) := call_tuple_of
theorem op_addSN : OpR X (binaryOp .Add) oAddS := op_add_str
end
section
variable {H : Hp} {Q : VK} {i j : Int} {k : Bool} {K : PySem.W.Frag} {p : Addr} {ys : List V} {z z' : Str}
theorem r_cInt (q : Q (.int i) H) : cInt [.int i] H Q := .inl ⟨i, rfl, q⟩
theorem r_cLenS (h : z.length ≤ sizeLine) (q : Q (.int (z.length : Nat)) H) : cLen K [.str z] H Q := ⟨.str z, z.length, rfl, ⟨h, rfl⟩, q⟩
theorem r_cLenL (h : SqL K H p ys) (q : Q (.int (ys.length : Nat)) H) : cLen K [.ref p] H Q := ⟨.ref p, ys.length, rfl, .inl ⟨ys, h, rfl⟩, q⟩
theorem r_cLenT (h : SqT K H p ys) (q : Q (.int (ys.length : Nat)) H) : cLen K [.ref p] H Q := ⟨.ref p, ys.length, rfl, .inr ⟨ys, h, rfl⟩, q⟩
theorem r_cAbs (q : Q (.int (if i < 0 then -i else i)) H) : cAbs [.int i] H Q := ⟨i, rfl, q⟩
theorem r_cMax (q : Q (.int (if j > i then j else i)) H) : cMax [.int i, .int j] H Q := ⟨i, j, rfl, q⟩
theorem r_cMin (q : Q (.int (if j < i then j else i)) H) : cMin [.int i, .int j] H Q := ⟨i, j, rfl, q⟩
theorem r_cListL (h : SqL K H p ys) (q : ∀ l, H l = none → Q (.ref l) (upd H l (.lst ys))) : cList K [.ref p] H Q := ⟨p, ys, rfl, .inl h, q⟩
theorem r_cListT (h : SqT K H p ys) (q : ∀ l, H l = none → Q (.ref l) (upd H l (.lst ys))) : cList K [.ref p] H Q := ⟨p, ys, rfl, .inr h, q⟩
theorem r_cTupleL (h : SqL K H p ys) (q : ∀ l, H l = none → Q (.ref l) (upd H l (.tup ys))) : cTuple K [.ref p] H Q := ⟨p, ys, rfl, .inl ⟨h, q⟩⟩
theorem r_addS (h : z.length + z'.length ≤ sizeLine) (q : Q (.str (z ++ z')) H) : oAddS (.str z) (.str z') H Q := ⟨z, z', rfl, rfl, h, q⟩
end
end PW
namespace PW
open PySem PySem.Spec PyProof.Rows L2
section
variable {H : Hp} {Q : VK} {i : Int} {K : PySem.W.Frag} {p : Addr} {xs : List V} {v : V} {z : Str} {c : Nat}
theorem r_ixqL (h : SqL K H p xs) (a : atI xs i = some v) (q : Q v H) : rIx K (.ref p) (.int i) H Q := .inl (r_ixL h a q)
theorem r_ixqT (h : SqT K H p xs) (a : atI xs i = some v) (q : Q v H) : rIx K (.ref p) (.int i) H Q := .inr (.inl (r_ixT h a q))
theorem r_ixqS (h : z.length ≤ sizeLine) (a : atI z.cps.toList i = some c) (q : Q (.str ⟨#[c]⟩) H) : rIx K (.str z) (.int i) H Q := .inr (.inr ⟨z, i, c, rfl, rfl, h, a, q⟩)
theorem atI_mem {α : Type} {xs : List α} {i : Int} (h0 : 0 ≤ i) (h : i < (xs.length : Int)) : ∃ v, v ∈ xs ∧ atI xs i = some v := by
  have hl : i.toNat < xs.length := by omega
  have e : i = (i.toNat : Int) := by omega
  have h2 : atI xs (i.toNat : Int) = some xs[i.toNat] := atI_nat (List.getElem?_eq_getElem hl)
  exact ⟨_, List.getElem_mem hl, by rw [← e] at h2; exact h2⟩
end
end PW
namespace PW
open PySem PySem.Spec PyProof.Rows L2
/-! ### heaps that grow -/
def Ex (H H' : Hp) : Prop := ∀ a o, H a = some o → H' a = some o
theorem Ex.refl (H : Hp) : Ex H H := fun _ _ h => h
theorem Ex.trans {H H1 H2 : Hp} (a : Ex H H1) (b : Ex H1 H2) : Ex H H2 := fun c o h => b c o (a c o h)
theorem Ex.new {H : Hp} {p : Addr} {o : HO} (h : H p = none) : Ex H (L2.upd H p o) := fun a u e => by
  rw [upd_ne (ne_of_none e h)]
  exact e
theorem Ex.newT {H H1 : Hp} {p : Addr} {o : HO} (x : Ex H H1) (h : H1 p = none) : Ex H (L2.upd H1 p o) := x.trans (Ex.new h)
theorem Ex.free {H H' : Hp} {p : Addr} (e : Ex H H') (h : H' p = none) : H p = none := Same.free e h
/-- an object that H does not know may change -/
theorem Ex.mut {H H' : Hp} {p : Addr} {o : HO} (e : Ex H H') (h : H p = none) : Ex H (L2.upd H' p o) := fun a u ha => by
  rw [upd_ne (ne_of_none ha h)]
  exact e a u ha
theorem Ex.tup {K : PySem.W.Frag} {p : Addr} {H H' : Hp} {xs : List V} (e : Ex H H') (h : SqT K H p xs) : SqT K H' p xs := by
  rcases h with (h | ⟨o, h⟩) | h
  · exact .inl (.inl (e _ _ h))
  · exact .inl (.inr ⟨o, e _ _ h⟩)
  · exact .inr h
theorem Ex.lst {K : PySem.W.Frag} {p : Addr} {H H' : Hp} {xs : List V} (e : Ex H H') (h : SqL K H p xs) : SqL K H' p xs := by
  rcases h with (h | ⟨o, h⟩) | h
  · exact .inl (.inl (e _ _ h))
  · exact .inl (.inr ⟨o, e _ _ h⟩)
  · exact .inr h
/-! ### isinstance, targets, comprehensions -/
section
variable {K : PySem.W.Frag} {H : Hp} {Q : VK} {x v : V} {n m m1 m2 : String} {b b1 b2 : Bool} {tp a : Addr} {σ : L2.St} {xs r : List V} {k : Nat}
theorem r_isi (h : TyX K H x (.type n)) (e : kitB n m = some b) (q : Q (.bl b) H) : rIsi K [x, .ty m] H Q := ⟨x, .ty m, .type n, .type m, b, rfl, .ty m, h, kit_ty e, q⟩
theorem r_isiT2 (ht : H tp = some (.tup [.ty m1, .ty m2])) (h : TyX K H x (.type n)) (e1 : kitB n m1 = some b1) (e2 : kitB n m2 = some b2) (q : Q (.bl (b1 || b2)) H) : rIsiT K [x, .ref tp] H Q := by
  refine ⟨x, tp, [.ty m1, .ty m2], .type n, [.type m1, .type m2], b1 || b2, rfl, ht, .cons (.ty m1) (.cons (.ty m2) .nil), h, ?_, q⟩
  refine kitAny_cons (kit_ty e1) (fun h1 => ?_) (fun h1 => by rw [h1]; rfl)
  rw [h1, Bool.false_or]
  exact kitAny_cons (kit_ty e2) (fun h2 => by rw [h2]; exact kitAny_nil) fun h2 => h2
theorem r_gtup {t : List V → L2.St → Hp → (L2.St → Hp → Prop) → Prop} {Q : L2.St → Hp → Prop} (h : SqT K H a xs) (l : xs.length = k) (q : t xs σ H Q) : gTup K k t (.ref a) σ H Q := ⟨a, xs, rfl, h, l, q⟩
theorem r_gcons {t : TG} {u : List V → L2.St → Hp → (L2.St → Hp → Prop) → Prop} {Q : L2.St → Hp → Prop} (q : t v σ H fun σ' H' => u r σ' H' Q) : gCons t u (v :: r) σ H Q := ⟨v, r, rfl, q⟩
theorem r_gnil {Q : L2.St → Hp → Prop} (q : Q σ H) : gNil [] σ H Q := ⟨rfl, q⟩
theorem r_yes {Q : Bool → Hp → Prop} (q : Q true H) : tYes σ H Q := q
theorem r_lc {wi : TI} {g : TG} {tt : TT} {te : L2.TE} {vs : List Nat} (h : wi σ H fun J H1 => ∀ D, H1 D = none → ∃ W : Nat → Nat → Hp → Prop, (∃ m, W 0 m (upd H1 D (.lst []))) ∧ ∀ i m H, W i m H →
  (J.stop i H ∧ Q (.ref D) H) ∨ (J.go i H ∧ ∃ Nx : Hp → Prop, (∀ H', Nx H' → ∃ m', m' < m ∧ W (i + 1) m' H') ∧ ∀ x H', J.yld i H x H' → g x (wipe σ vs) H' fun σ2 H2 => wipe σ2 vs = wipe σ vs ∧ tt σ2 H2 fun b H3 =>
    if b = true then te σ2 H3 fun y H4 => ∃ acc, H4 D = some (.lst acc) ∧ acc.length < sizeLine ∧ Nx (upd H4 D (.lst (acc ++ [y]))) else Nx H3)) : tLc wi g tt te vs σ H Q := h
theorem r_all {bs : List Bool} (h : SqL K H a (bs.map V.bl)) (q : Q (.bl (bs.all id)) H) : rAll K [.ref a] H Q := ⟨a, bs, rfl, h, q⟩
theorem r_any {bs : List Bool} (h : SqL K H a (bs.map V.bl)) (q : Q (.bl (bs.any id)) H) : rAny K [.ref a] H Q := ⟨a, bs, rfl, h, q⟩
end
theorem replicate_all (n : Nat) : (List.replicate n true).all id = true := by
  induction n with
  | zero => rfl
  | succ n ih => rw [List.replicate_succ, List.all_cons, ih]; rfl
end PW
namespace PW
open PySem PySem.Spec PyProof.Rows L2
section
variable {X : Cx} {es : List Expr} {e : Expr} {k n i : Nat} {t : TG} {u : TGs} {pos : Pos} {x : Str}
theorem pg_tupX {K : PySem.W.Frag} (hK : X.K = K) (hc : X.calm = true) (hn : (assignEach es X.env).length = n) (hst : (assignEach es X.env).findIdx? (·.1) = none) (h : PGs X es u) : PG X (.Tuple es k pos) (gTup K n u) := by
  subst hK
  exact pg_tup hc h hn hst
theorem pgs_consX (hs : (assignEach (e :: es) X.env).map (·.2) = assign e X.env :: (assignEach es X.env).map (·.2)) (h1 : PG X e t) (h2 : PGs X es u) : PGs X (e :: es) (gCons t u) := pgs_cons h1 h2 hs
theorem pg_nameX (i : Nat) (hN : X.N.Nodup) (hi : X.N[i]? = some x) (hx : Loc X.env.scope x) (hf : X.fn x = true ∨ X.env.scope.names.lookup x = some .local) : PG X (.Name x pos) (gName i) := pg_name hN hi hx hf
end
end PW
namespace PW
open L2
theorem kb_NoneType_bool : kitB "NoneType" "bool" = some false := by decide +kernel
theorem kb_NoneType_int : kitB "NoneType" "int" = some false := by decide +kernel
theorem kb_NoneType_str : kitB "NoneType" "str" = some false := by decide +kernel
theorem kb_NoneType_list : kitB "NoneType" "list" = some false := by decide +kernel
theorem kb_NoneType_tuple : kitB "NoneType" "tuple" = some false := by decide +kernel
theorem kb_NoneType_dict : kitB "NoneType" "dict" = some false := by decide +kernel
theorem kb_bool_bool : kitB "bool" "bool" = some true := by decide +kernel
theorem kb_bool_int : kitB "bool" "int" = some true := by decide +kernel
theorem kb_bool_str : kitB "bool" "str" = some false := by decide +kernel
theorem kb_bool_list : kitB "bool" "list" = some false := by decide +kernel
theorem kb_bool_tuple : kitB "bool" "tuple" = some false := by decide +kernel
theorem kb_bool_dict : kitB "bool" "dict" = some false := by decide +kernel
theorem kb_int_bool : kitB "int" "bool" = some false := by decide +kernel
theorem kb_int_int : kitB "int" "int" = some true := by decide +kernel
theorem kb_int_str : kitB "int" "str" = some false := by decide +kernel
theorem kb_int_list : kitB "int" "list" = some false := by decide +kernel
theorem kb_int_tuple : kitB "int" "tuple" = some false := by decide +kernel
theorem kb_int_dict : kitB "int" "dict" = some false := by decide +kernel
theorem kb_str_bool : kitB "str" "bool" = some false := by decide +kernel
theorem kb_str_int : kitB "str" "int" = some false := by decide +kernel
theorem kb_str_str : kitB "str" "str" = some true := by decide +kernel
theorem kb_str_list : kitB "str" "list" = some false := by decide +kernel
theorem kb_str_tuple : kitB "str" "tuple" = some false := by decide +kernel
theorem kb_str_dict : kitB "str" "dict" = some false := by decide +kernel
theorem kb_list_bool : kitB "list" "bool" = some false := by decide +kernel
theorem kb_list_int : kitB "list" "int" = some false := by decide +kernel
theorem kb_list_str : kitB "list" "str" = some false := by decide +kernel
theorem kb_list_list : kitB "list" "list" = some true := by decide +kernel
theorem kb_list_tuple : kitB "list" "tuple" = some false := by decide +kernel
theorem kb_list_dict : kitB "list" "dict" = some false := by decide +kernel
theorem kb_tuple_bool : kitB "tuple" "bool" = some false := by decide +kernel
theorem kb_tuple_int : kitB "tuple" "int" = some false := by decide +kernel
theorem kb_tuple_str : kitB "tuple" "str" = some false := by decide +kernel
theorem kb_tuple_list : kitB "tuple" "list" = some false := by decide +kernel
theorem kb_tuple_tuple : kitB "tuple" "tuple" = some true := by decide +kernel
theorem kb_tuple_dict : kitB "tuple" "dict" = some false := by decide +kernel
end PW
namespace PW
open PySem PySem.Spec PyProof.Rows L2
section
variable {H : Hp} {Q : VK} {x y : V}
theorem r_eqT (h : scal x x = true) (q : Q (.bl true) H) : rEq x x H Q := ⟨h, by rw [decide_eq_true rfl]; exact q⟩
theorem r_neT (h : scal x x = true) (q : Q (.bl false) H) : rNe x x H Q := ⟨h, by rw [decide_eq_true rfl]; exact q⟩
theorem r_eqF (h : scal x y = true) (n : ¬ x = y) (q : Q (.bl false) H) : rEq x y H Q := ⟨h, by rw [decide_eq_false n]; exact q⟩
theorem r_neF (h : scal x y = true) (n : ¬ x = y) (q : Q (.bl true) H) : rNe x y H Q := ⟨h, by rw [decide_eq_false n]; exact q⟩
end
end PW
namespace PW
open PySem PySem.Spec PyProof.Rows L2
theorem walk_zipT {K : PySem.W.Frag} {a b : Addr} {xs ys : List V} {n : Nat} (hn : n = min xs.length ys.length) : Walk (RZ.ItzT K a b) n (fun H => SqT K H a xs ∧ SqT K H b ys) (YPair (fun i => xs[i]?) (fun i => ys[i]?)) := by
  subst hn
  refine ⟨fun i _ hi q => ?_, fun _ q => ⟨xs, ys, q.1, q.2, by omega⟩, fun i H v H' _ q y => ?_⟩
  · have h1 : i < xs.length := by omega
    have h2 : i < ys.length := by omega
    exact ⟨xs, ys, xs[i], ys[i], q.1, q.2, by simp [h1], by simp [h2]⟩
  · obtain ⟨T, x, z, h1, h2, h3, h4, h5⟩ := y
    exact ⟨T, x, z, h1, h2, h3, h4 xs q.1, h5 ys q.2⟩
/-- a comprehension's turns over J, the new list at D -/
def LcW (J : It) (g : TG) (tt : TT) (te : L2.TE) (vs : List Nat) (σ : L2.St) (H1 : Hp) (D : Addr) (Qd : Hp → Prop) : Prop :=
  ∃ W : Nat → Nat → Hp → Prop, (∃ m, W 0 m (upd H1 D (.lst []))) ∧ ∀ i m H, W i m H →
      (J.stop i H ∧ Qd H) ∨ (J.go i H ∧ ∃ Nx : Hp → Prop, (∀ H', Nx H' → ∃ m', m' < m ∧ W (i + 1) m' H') ∧ ∀ x H', J.yld i H x H' → g x (wipe σ vs) H' fun σ2 H2 => wipe σ2 vs = wipe σ vs ∧ tt σ2 H2 fun b H3 =>
        if b = true then te σ2 H3 fun y H4 => ∃ acc, H4 D = some (.lst acc) ∧ acc.length < sizeLine ∧ Nx (upd H4 D (.lst (acc ++ [y]))) else Nx H3)
/-- the heap without what stands at D -/
def hide (H : Hp) (D : Addr) : Hp := fun a => if a = D then none else H a
theorem hide_ne {H : Hp} {D a : Addr} (h : a ≠ D) : hide H D a = H a := by unfold hide; rw [if_neg h]
theorem hide_same {H : Hp} {D : Addr} : hide H D D = none := by unfold hide; rw [if_pos rfl]
theorem Ex.hide (H : Hp) (D : Addr) : Ex (hide H D) H := fun a o h => by
  by_cases e : a = D
  · subst e
    rw [hide_same] at h
    cases h
  · rw [hide_ne e] at h
    exact h
theorem hide_upd {H : Hp} {D : Addr} {o : HO} : hide (L2.upd H D o) D = hide H D := by
  funext a
  unfold PW.hide
  by_cases e : a = D
  · rw [if_pos e, if_pos e]
  · rw [if_neg e, if_neg e, upd_ne e]
theorem Ex.hides {H H' : Hp} (e : Ex H H') (D : Addr) : Ex (PW.hide H D) (PW.hide H' D) := fun a o h => by
  by_cases q : a = D
  · subst q
    rw [hide_same] at h
    cases h
  · rw [hide_ne q] at h ⊢
    exact e a o h
/-- .. over a walk whose place stays while the heap grows; no test; each element is told by E (of the heap without the new list) and leaves what was tracked -/
theorem lc_grow {J : It} {n : Nat} {G : Hp → Prop} {Y : Nat → Hp → V → Hp → Prop} (w : Walk J n G Y) {g : TG} {te : L2.TE} {vs : List Nat} {σ : L2.St} {H1 : Hp} {D : Addr} {Qd : Hp → Prop} {σw : L2.St} (hw : wipe σ vs = σw) (E : Nat → Hp → V → Prop) (hD : H1 D = none) (hn : n ≤ 100000)
    (hG : ∀ H, Ex H1 H → G H) (hE : ∀ i H H' v, Ex H H' → E i H v → E i H' v)
    (hs : ∀ i x H H' acc (R : VK), i < n → Ex H1 H → H D = some (.lst acc) → Y i H x H' → (∀ v H4, E i (hide H4 D) v → Ex H H4 → R v H4) → g x σw H' fun σ2 H2 => wipe σ2 vs = σw ∧ te σ2 H2 R)
    (hd : ∀ H acc, Ex H1 H → H D = some (.lst acc) → acc.length = n → (∀ i v, acc[i]? = some v → E i (hide H D) v) → Qd H) : LcW J g tYes te vs σ H1 D Qd := by
  subst hw
  refine lc_it w (fun i H => Ex H1 H ∧ ∃ acc, H D = some (.lst acc) ∧ acc.length = i ∧ ∀ j v, acc[j]? = some v → E j (hide H D) v) ?_ (fun i H _ p => hG H p.1) ?_ ?_
  · exact ⟨Ex.new hD, [], upd_same, rfl, fun j v e => by simp at e⟩
  · rintro i x H H' hi ⟨p, acc, ha, hl, hE2⟩ y
    refine hs i x H H' acc _ hi p ha y fun v H4 e x4 => ?_
    refine ⟨acc, x4 _ _ ha, Nat.lt_of_lt_of_le (show acc.length < 100001 by omega) (by decide), (p.trans x4).mut hD, acc ++ [v], upd_same, by rw [List.length_append, hl]; rfl, fun j u hj => ?_⟩
    rw [hide_upd]
    by_cases h : j < acc.length
    · rw [List.getElem?_append_left h] at hj
      exact hE j _ _ u (x4.hides D) (hE2 j u hj)
    · have hj2 : j = acc.length := by
        have h3 : j < (acc ++ [v]).length := (List.getElem?_eq_some_iff.mp hj).1
        rw [List.length_append] at h3
        have h4 : [v].length = 1 := rfl
        omega
      subst hj2
      rw [List.getElem?_append_right (Nat.le_refl _), Nat.sub_self] at hj
      injection hj with hj
      subst hj
      rw [hl]
      exact e
  · rintro H ⟨p, acc, ha, hl, hE2⟩
    exact hd H acc p ha hl hE2
/-- a list of truths -/
theorem all_true {acc : List V} (h : ∀ (i : Nat) v, acc[i]? = some v → v = .bl true) : acc = (List.replicate acc.length true).map V.bl := by
  refine List.ext_getElem? fun i => ?_
  rw [List.getElem?_map, List.getElem?_replicate]
  cases e : acc[i]? with
  | none => rw [if_neg (by have := List.getElem?_eq_none_iff.mp e; omega)]; rfl
  | some v => rw [if_pos (List.getElem?_eq_some_iff.mp e).1, h i v e]; rfl
end PW
namespace PW
open PySem PySem.Spec PyProof.Rows L2
/-! ### unlike kinds -/
def vKind : V → Nat
  | .non => 0
  | .bl _ => 1
  | .int _ => 2
  | .str _ => 3
  | .byt _ => 4
  | .flt _ => 5
  | .ref _ => 6
  | .ty _ => 7
theorem vne {x y : V} (h : (vKind x == vKind y) = false) : ¬ x = y := fun e => by
  subst e
  rw [beq_self_eq_true] at h
  cases h
theorem dec_self {α : Type} {x : α} [Decidable (x = x)] : decide (x = x) = true := decide_eq_true rfl
theorem dec_kind {x y : V} (h : (vKind x == vKind y) = false) : decide (x = y) = false := decide_eq_false (vne h)
theorem ndec_self {α : Type} {x : α} [Decidable (x = x)] : (!decide (x = x)) = false := by rw [dec_self]; rfl
theorem ndec_kind {x y : V} (h : (vKind x == vKind y) = false) : (!decide (x = y)) = true := by rw [dec_kind h]; rfl
def hoKind : HO → Nat
  | .lst _ => 0
  | .tup _ => 1
  | .dK _ => 2
  | .dT _ => 3
  | .set _ _ => 4
  | .ins _ _ _ => 5
  | .own _ => 6
  | .xd _ => 7
  | .met _ _ => 8
  | .rng _ _ => 9
  | .frz _ _ => 10
  | .tbl _ => 11
  | .ext _ => 12
theorem ne_ofK {H : Hp} {a b : Addr} {o u : HO} (h : H a = some o) (h' : H b = some u) (k : (hoKind o == hoKind u) = false) : a ≠ b := ne_of h h' fun e => by
  subst e
  rw [beq_self_eq_true] at k
  cases k
end PW
namespace PW
open PySem PySem.Spec PyProof.Rows L2
section
variable {K : PySem.W.Frag} {tA : TA} {te : L2.TE} {σ : L2.St} {H : Hp} {R : It → Hp → Prop}
theorem r_iZip (h : tA σ H fun vs H1 => ∃ a b xs ys, vs = [.ref a, .ref b] ∧ ((SqL K H1 a xs ∧ SqL K H1 b ys ∧ R (Itz K a b) H1) ∨ (SqT K H1 a xs ∧ SqT K H1 b ys ∧ R (RZ.ItzT K a b) H1))) : RZ.iZipA K tA σ H R := h
theorem r_iRng1 (h : tA σ H fun vs H1 => ∃ j : Int, vs = [.int j] ∧ -(2 ^ 62) ≤ j ∧ j < 2 ^ 62 ∧ R (Itr 0 j.toNat) H1) : iRng1 tA σ H R := h
theorem r_iRng2 (h : tA σ H fun vs H1 => ∃ i j : Int, vs = [.int i, .int j] ∧ (-(2 ^ 62) ≤ i ∧ i < 2 ^ 62 ∧ -(2 ^ 62) ≤ j ∧ j < 2 ^ 62) ∧ R (Itr i (j - i).toNat) H1) : iRng2 tA σ H R := h
theorem r_iStr (h : te σ H fun v H1 => ∃ x, v = .str x ∧ R (Its x) H1) : iStr te σ H R := h
theorem r_iList (h : te σ H fun x H1 => ∃ a, x = .ref a ∧ (∃ xs, SqL K H1 a xs) ∧ R (Itl K a) H1) : iList K te σ H R := h
theorem r_iTup (h : te σ H fun x H1 => ∃ a, x = .ref a ∧ (∃ xs, SqT K H1 a xs) ∧ R (Itt K a) H1) : iTup K te σ H R := h
theorem r_iEnum (h : tA σ H fun vs H1 => ∃ a xs, vs = [.ref a] ∧ SqL K H1 a xs ∧ R (Ite K a) H1) : iEnum K tA σ H R := h
theorem r_for {wi : TI} {g : TG} {tb : TS} {D : Ends} (h : wi σ H fun J H1 => ∃ W : Nat → Nat → L2.St → Hp → Prop, (∃ m, W 0 m σ H1) ∧ ∀ i m σ H, W i m σ H →
  (J.stop i H ∧ D.nx σ H) ∨ (J.go i H ∧ ∃ N : L2.St → Hp → Prop, (∀ σ' H', N σ' H' → ∃ m', m' < m ∧ W (i + 1) m' σ' H') ∧ ∀ x H', J.yld i H x H' → g x σ H' fun σ2 H2 => tb { D with nx := N, ct := N, bk := D.nx } σ2 H2)) : tFor wi g tb D σ H := h
end
end PW
/-! ### one step of a reading, by instances -/
namespace PW
open PySem PySem.Spec PyProof.Rows L2
class Step (g : Prop) (n : outParam Prop) : Prop where
  imp : n → g
class Get (σ : List (Option V)) (n : Nat) (v : outParam V) : Prop where
  eq : σ[n]? = some (some v)
instance {v : V} {r : List (Option V)} : Get (some v :: r) 0 v := ⟨rfl⟩
instance {x : Option V} {r : List (Option V)} {n : Nat} {v : V} [h : Get r n v] : Get (x :: r) (n + 1) v := ⟨h.eq⟩
class Put (σ : List (Option V)) (n : Nat) (v : V) (τ : outParam (List (Option V))) : Prop where
  eq : σ.set n (some v) = τ
instance {v : V} {x : Option V} {r : List (Option V)} : Put (x :: r) 0 v (some v :: r) := ⟨rfl⟩
instance {x : Option V} {r τ : List (Option V)} {n : Nat} {v : V} [h : Put r n v τ] : Put (x :: r) (n + 1) v (x :: τ) := ⟨by rw [List.set_cons_succ, h.eq]⟩
class Scal (x y : V) : Prop where
  eq : scal x y = true
instance {i j : Int} : Scal (.int i) (.int j) := ⟨rfl⟩
instance {i j : Bool} : Scal (.bl i) (.bl j) := ⟨rfl⟩
instance {i j : Str} : Scal (.str i) (.str j) := ⟨rfl⟩
section
variable {σ τ : L2.St} {H : Hp} {Q : VK} {D : Ends} {v x y : V} {i j : Int} {n m : Nat} {ta tb tc te : L2.TE} {t u : TT} {s1 s2 : TS} {r r' : R2} {K : PySem.W.Frag} {tA tR : TA}
instance [h : Get σ n v] : Step (tVar n σ H Q) (Q v H) := ⟨fun q => ⟨v, h.eq, q⟩⟩
instance : Step (tC v σ H Q) (Q v H) := ⟨id⟩
instance : Step (tOp r ta tb σ H Q) (ta σ H fun x H1 => tb σ H1 fun y H2 => r x y H2 Q) := ⟨id⟩
instance {r : V → Hp → VK → Prop} : Step (tUn r ta σ H Q) (ta σ H fun x H1 => r x H1 Q) := ⟨id⟩
instance : Step (tChain r r' ta tb tc σ H Q) (ta σ H fun x H1 => tb σ H1 fun y H2 => r x y H2 fun z H3 => ∃ k, z = .bl k ∧ (if k = true then tc σ H3 fun w' H4 => r' y w' H4 Q else Q (.bl false) H3)) := ⟨id⟩
instance {Q : Bool → Hp → Prop} : Step (tTest te σ H Q) (te σ H fun x H' => ∃ k, x = .bl k ∧ Q k H') := ⟨id⟩
instance {Q : Bool → Hp → Prop} : Step (tB te σ H Q) (te σ H fun x H' => ∃ k, x = .bl k ∧ Q k H') := ⟨id⟩
instance {b : Bool} {Q : Bool → Prop} : Step (∃ k, V.bl b = .bl k ∧ Q k) (Q b) := ⟨fun q => ⟨b, rfl, q⟩⟩
instance {Q : Int → Prop} : Step (∃ k, V.int i = .int k ∧ Q k) (Q i) := ⟨fun q => ⟨i, rfl, q⟩⟩
instance {z : Str} {Q : Str → Prop} : Step (∃ k, V.str z = .str k ∧ Q k) (Q z) := ⟨fun q => ⟨z, rfl, q⟩⟩
instance {Q : Bool → Hp → Prop} : Step (tNot t σ H Q) (t σ H fun c H1 => Q (!c) H1) := ⟨id⟩
instance {Q : Bool → Hp → Prop} : Step (tAnd t u σ H Q) (t σ H fun c H1 => if c = true then u σ H1 Q else Q false H1) := ⟨id⟩
instance {Q : Bool → Hp → Prop} : Step (tOr t u σ H Q) (t σ H fun c H1 => if c = true then Q true H1 else u σ H1 Q) := ⟨id⟩
instance : Step (tAndV ta tb σ H Q) (ta σ H fun x H1 => ∃ c, x = .bl c ∧ if c = true then tb σ H1 Q else Q (.bl false) H1) := ⟨id⟩
instance : Step (tOrV ta tb σ H Q) (ta σ H fun x H1 => ∃ c, x = .bl c ∧ if c = true then Q (.bl true) H1 else tb σ H1 Q) := ⟨id⟩
instance : Step (tNotV ta σ H Q) (ta σ H fun x H1 => ∃ c, x = .bl c ∧ Q (.bl (!c)) H1) := ⟨id⟩
instance : Step (tIsN ta σ H Q) (ta σ H fun x H1 => Q (.bl (decide (x = .non))) H1) := ⟨id⟩
instance : Step (tNotN ta σ H Q) (ta σ H fun x H1 => Q (.bl (!decide (x = .non))) H1) := ⟨id⟩
instance : Step (tIf t ta tb σ H Q) (t σ H fun c H1 => if c = true then ta σ H1 Q else tb σ H1 Q) := ⟨id⟩
instance : Step (tIfS t s1 s2 D σ H) (t σ H fun b H1 => if b = true then s1 D σ H1 else s2 D σ H1) := ⟨id⟩
instance : Step (tSeq s1 s2 D σ H) (s1 { D with nx := s2 D } σ H) := ⟨id⟩
instance : Step (tNext D σ H) (D.nx σ H) := ⟨id⟩
instance : Step (tBreak D σ H) (D.bk σ H) := ⟨id⟩
instance : Step (tCont D σ H) (D.ct σ H) := ⟨id⟩
instance : Step (tRet te D σ H) (te σ H D.rt) := ⟨id⟩
instance : Step (tRetN D σ H) (D.rt .non H) := ⟨id⟩
instance : Step (tDrop te D σ H) (te σ H fun _ H1 => D.nx σ H1) := ⟨id⟩
instance {g : TG} : Step (tAsg te g D σ H) (te σ H fun x H1 => g x σ H1 D.nx) := ⟨id⟩
instance {Q : L2.St → Hp → Prop} [h : Put σ n v τ] : Step (gName n v σ H Q) (Q τ H) := ⟨fun q => by
  show Q (σ.set n (some v)) H
  rw [h.eq]
  exact q⟩
instance {to ti : L2.TE} {ts : TSet} {Q : L2.St → Hp → Prop} : Step (gSub to ti ts v σ H Q) (to σ H fun o H1 => ti σ H1 fun i H2 => ts o i v H2 fun H3 => Q σ H3) := ⟨id⟩
instance {ti : TIp} [h : Get σ n x] : Step (tAug n te ti D σ H) (te σ H fun y H1 => ti x y H1 fun z H2 => D.nx (σ.set n (some z)) H2) := ⟨fun q => ⟨x, h.eq, q⟩⟩
instance {g : Int → Int → Int} : Step (ipI g (.int i) (.int j) H Q) (Q (.int (g i j)) H) := ⟨fun q => ⟨i, j, rfl, rfl, q⟩⟩
instance {Q : List V → Hp → Prop} : Step (tNil σ H Q) (Q [] H) := ⟨id⟩
instance {Q : List V → Hp → Prop} : Step (tCons ta tR σ H Q) (ta σ H fun x H1 => tR σ H1 fun xs H2 => Q (x :: xs) H2) := ⟨id⟩
instance {r : List V → Hp → VK → Prop} : Step (tCB r tA σ H Q) (tA σ H fun vs H1 => r vs H1 Q) := ⟨id⟩
instance {sp : Sp} {dvs : List V} {E : XK} : Step (tCall sp dvs E tA σ H Q) (tA σ H fun vs H1 => sp (vs ++ dvs) H1 Q E) := ⟨id⟩
instance {g : Int → Int → V} : Step (rI0 g (.int i) (.int j) H Q) (Q (g i j) H) := ⟨fun q => ⟨i, j, rfl, rfl, q⟩⟩
instance {g : Int → V} : Step (rU g (.int i) H Q) (Q (g i) H) := ⟨fun q => ⟨i, rfl, q⟩⟩
instance (priority := high) [s : Scal x x] : Step (rEq x x H Q) (Q (.bl true) H) := ⟨r_eqT s.eq⟩
instance (priority := high) [s : Scal x x] : Step (rNe x x H Q) (Q (.bl false) H) := ⟨r_neT s.eq⟩
instance [s : Scal x y] : Step (rEq x y H Q) (Q (.bl (decide (x = y))) H) := ⟨fun q => ⟨s.eq, q⟩⟩
instance [s : Scal x y] : Step (rNe x y H Q) (Q (.bl (!decide (x = y))) H) := ⟨fun q => ⟨s.eq, q⟩⟩
instance : Step (tLst tA σ H Q) (tA σ H fun xs H1 => xs.length ≤ sizeLine ∧ ∀ p, H1 p = none → Q (.ref p) (upd H1 p (.lst xs))) := ⟨id⟩
instance : Step (tTup tA σ H Q) (tA σ H fun xs H1 => xs.length ≤ sizeLine ∧ ∀ p, H1 p = none → Q (.ref p) (upd H1 p (.tup xs))) := ⟨id⟩
instance {A B : Prop} : Step (if true = true then A else B) A := ⟨r_ifT⟩
instance {A B : Prop} : Step (if false = true then A else B) B := ⟨r_ifF⟩
instance : Step (cInt [.int i] H Q) (Q (.int i) H) := ⟨r_cInt⟩
instance : Step (cAbs [.int i] H Q) (Q (.int (if i < 0 then -i else i)) H) := ⟨r_cAbs⟩
instance : Step (cMax [.int i, .int j] H Q) (Q (.int (if j > i then j else i)) H) := ⟨r_cMax⟩
instance : Step (cMin [.int i, .int j] H Q) (Q (.int (if j < i then j else i)) H) := ⟨r_cMin⟩
instance {Q : Option Int → Hp → Prop} : Step (tPart te σ H Q) (te σ H fun x H1 => ∃ i, x = .int i ∧ Q (some i) H1) := ⟨id⟩
instance {Q : Option Int → Hp → Prop} : Step (tNoPart σ H Q) (Q none H) := ⟨id⟩
instance {rs : V → Option Int → Option Int → Hp → VK → Prop} {tl th : TO} : Step (tSl rs te tl th σ H Q) (te σ H fun x H1 => tl σ H1 fun l H2 => th σ H2 fun u H3 => rs x l u H3 Q) := ⟨id⟩
instance {t : TG} {u : TGs} {l : List V} {Q : L2.St → Hp → Prop} : Step (gCons t u (v :: l) σ H Q) (t v σ H fun σ' H' => u l σ' H' Q) := ⟨r_gcons⟩
instance {Q : L2.St → Hp → Prop} : Step (gNil [] σ H Q) (Q σ H) := ⟨r_gnil⟩
instance {Q : Bool → Hp → Prop} : Step (tYes σ H Q) (Q true H) := ⟨id⟩
instance {wi : TI} {g : TG} {tt : TT} {vs : List Nat} : Step (tLc wi g tt te vs σ H Q) (wi σ H fun J H1 => ∀ D, H1 D = none → LcW J g tt te vs σ H1 D (fun H => Q (.ref D) H)) := ⟨id⟩
instance {R : It → Hp → Prop} : Step (RZ.iZipA K tA σ H R) (tA σ H fun vs H1 => ∃ a b xs ys, vs = [.ref a, .ref b] ∧ ((SqL K H1 a xs ∧ SqL K H1 b ys ∧ R (Itz K a b) H1) ∨ (SqT K H1 a xs ∧ SqT K H1 b ys ∧ R (RZ.ItzT K a b) H1))) := ⟨id⟩
def Rng1 (vs : List V) (H : Hp) (R : It → Hp → Prop) : Prop := ∃ j : Int, vs = [.int j] ∧ -(2 ^ 62) ≤ j ∧ j < 2 ^ 62 ∧ R (Itr 0 j.toNat) H
instance {R : It → Hp → Prop} : Step (iRng1 tA σ H R) (tA σ H fun vs H1 => Rng1 vs H1 R) := ⟨id⟩
def Rng2 (vs : List V) (H : Hp) (R : It → Hp → Prop) : Prop := ∃ i j : Int, vs = [.int i, .int j] ∧ (-(2 ^ 62) ≤ i ∧ i < 2 ^ 62 ∧ -(2 ^ 62) ≤ j ∧ j < 2 ^ 62) ∧ R (Itr i (j - i).toNat) H
instance {R : It → Hp → Prop} : Step (iRng2 tA σ H R) (tA σ H fun vs H1 => Rng2 vs H1 R) := ⟨id⟩
instance {R : It → Hp → Prop} : Step (iStr te σ H R) (te σ H fun v H1 => ∃ x, v = .str x ∧ R (Its x) H1) := ⟨id⟩
def WkL (K : PySem.W.Frag) (x : V) (H : Hp) (R : It → Hp → Prop) : Prop := ∃ a, x = .ref a ∧ (∃ xs, SqL K H a xs) ∧ R (Itl K a) H
instance {R : It → Hp → Prop} : Step (iList K te σ H R) (te σ H fun x H1 => WkL K x H1 R) := ⟨id⟩
def WkT (K : PySem.W.Frag) (x : V) (H : Hp) (R : It → Hp → Prop) : Prop := ∃ a, x = .ref a ∧ (∃ xs, SqT K H a xs) ∧ R (Itt K a) H
instance {R : It → Hp → Prop} : Step (iTup K te σ H R) (te σ H fun x H1 => WkT K x H1 R) := ⟨id⟩
def WkE (K : PySem.W.Frag) (vs : List V) (H : Hp) (R : It → Hp → Prop) : Prop := ∃ a xs, vs = [.ref a] ∧ SqL K H a xs ∧ R (Ite K a) H
instance {R : It → Hp → Prop} : Step (iEnum K tA σ H R) (tA σ H fun vs H1 => WkE K vs H1 R) := ⟨id⟩
/-- a for's turns over J -/
def ForW (J : It) (g : TG) (tb : TS) (D : Ends) (σ : L2.St) (H : Hp) : Prop := ∃ W : Nat → Nat → L2.St → Hp → Prop, (∃ m, W 0 m σ H) ∧ ∀ i m σ H, W i m σ H →
  (J.stop i H ∧ D.nx σ H) ∨ (J.go i H ∧ ∃ N : L2.St → Hp → Prop, (∀ σ' H', N σ' H' → ∃ m', m' < m ∧ W (i + 1) m' σ' H') ∧ ∀ x H', J.yld i H x H' → g x σ H' fun σ2 H2 => tb { D with nx := N, ct := N, bk := D.nx } σ2 H2)
instance {wi : TI} {g : TG} {tb : TS} : Step (tFor wi g tb D σ H) (wi σ H fun J H1 => ForW J g tb D σ H1) := ⟨id⟩
theorem rng1 {R : It → Hp → Prop} (h0 : -(2 ^ 62) ≤ j) (h1 : j < 2 ^ 62) (q : R (Itr 0 j.toNat) H) : Rng1 [.int j] H R := ⟨j, rfl, h0, h1, q⟩
theorem rng2 {R : It → Hp → Prop} (h0 : -(2 ^ 62) ≤ i) (h1 : i < 2 ^ 62) (h2 : -(2 ^ 62) ≤ j) (h3 : j < 2 ^ 62) (q : R (Itr i (j - i).toNat) H) : Rng2 [.int i, .int j] H R := ⟨i, j, rfl, ⟨h0, h1, h2, h3⟩, q⟩
theorem wkL {R : It → Hp → Prop} {a : Addr} {xs : List V} (h : SqL K H a xs) (q : R (Itl K a) H) : WkL K (.ref a) H R := ⟨a, rfl, ⟨xs, h⟩, q⟩
theorem wkT {R : It → Hp → Prop} {a : Addr} {xs : List V} (h : SqT K H a xs) (q : R (Itt K a) H) : WkT K (.ref a) H R := ⟨a, rfl, ⟨xs, h⟩, q⟩
theorem wkE {R : It → Hp → Prop} {a : Addr} {xs : List V} (h : SqL K H a xs) (q : R (Ite K a) H) : WkE K [.ref a] H R := ⟨a, xs, rfl, h, q⟩
end
end PW
namespace PW
open PySem PySem.Spec PyProof.Rows L2
section
variable {H : Hp} {Q : VK} {x : V} {c : Nat} {z : Str} {p : Addr} {xs : List V} {K : PySem.W.Frag}
instance : Step (rInS (.str ⟨#[c]⟩) (.str z) H Q) (Q (.bl (decide (c ∈ z.cps.toList))) H) := ⟨fun q => ⟨c, z, rfl, rfl, q⟩⟩
instance : Step (rNotInS (.str ⟨#[c]⟩) (.str z) H Q) (Q (.bl (!decide (c ∈ z.cps.toList))) H) := ⟨fun q => ⟨c, z, rfl, rfl, q⟩⟩
theorem r_inT (h : SqT K H p xs) (fx : flatV x = true) (fs : xs.all flatV = true) (q : Q (.bl (inV x xs)) H) : rIn K false x (.ref p) H Q := ⟨p, xs, rfl, .inr h, fx, fs, q⟩
theorem r_inL (h : SqL K H p xs) (fx : flatV x = true) (fs : xs.all flatV = true) (q : Q (.bl (inV x xs)) H) : rIn K false x (.ref p) H Q := ⟨p, xs, rfl, .inl h, fx, fs, q⟩
theorem r_ninT (h : SqT K H p xs) (fx : flatV x = true) (fs : xs.all flatV = true) (q : Q (.bl (!inV x xs)) H) : rIn K true x (.ref p) H Q := ⟨p, xs, rfl, .inr h, fx, fs, q⟩
theorem r_ninL (h : SqL K H p xs) (fx : flatV x = true) (fs : xs.all flatV = true) (q : Q (.bl (!inV x xs)) H) : rIn K true x (.ref p) H Q := ⟨p, xs, rfl, .inl h, fx, fs, q⟩
theorem acc_map {α : Type} {acc : List V} {l : List α} {f : α → V} (hl : acc.length = l.length) (h : ∀ (i : Nat) v, acc[i]? = some v → ∃ a, l[i]? = some a ∧ v = f a) : acc = l.map f := by
  refine List.ext_getElem? fun i => ?_
  rw [List.getElem?_map]
  cases e : acc[i]? with
  | none =>
    have h1 := List.getElem?_eq_none_iff.mp e
    rw [List.getElem?_eq_none_iff.mpr (show l.length ≤ i by omega)]
    rfl
  | some v =>
    obtain ⟨a, h1, h2⟩ := h i v e
    rw [h1, h2]
    rfl
end
end PW
namespace PW
open PySem PySem.Spec PyProof.Rows L2
/-! ### calls by keywords, the place of the arguments kept -/
section
variable {X : Cx} {CX : CXT} {k n : Nat} {f : Addr} {fd : FuncData} {ps ks : List Str} {sp : Sp} {E : XK} {x qual : Str} {p pos : Pos} {kws : List Keyword} {tk : TA} {g : List Value → List Value → List Value} {gV : List V → List V → List V}
theorem pe_callN0 (F : FnOk X.prog X.w X.K X.mg X.base CX k f fd ps sp) (hr : Room k X.A) (hg : Gl X x) (hm : X.mg x = some (.ref f)) (hk : PySem.W.keepIn X.K (.ref f) = true) (hb : KBn X.K fd ps 0 ks g gV) (hx : Passes CX X E)
    (hkw : PK X kws tk) (hall : (backToKw pos (keywordEach kws X.env)).all (·.1.isSome) = true := by rfl) (hks : (backToKw pos (keywordEach kws X.env)).filterMap (·.1) = ks := by rfl)
    (hdb : (x == ("__debug__" : Str)) = false := by decide) (hpl : ((backTo pos (starEach [] X.env)).any (·.1) || (backToKw pos (keywordEach kws X.env)).any (·.1.isNone)) = false := by rfl) :
    PE X (.Call (.Name x p) [] kws pos) (tCallN 0 ks.length sp gV E tNil tk) := by
  refine ⟨fun pins s σ H Q I h => ?_⟩
  refine wpAny_Call_Name_kw (ld_glob I hg hm ?_ hdb)
  refine PySem.W.callWith_KW0 (h₀ := X.base) I.ok.mod.kin hk hall ?_ hpl
  refine thn (hkw.run pos pins s σ H _ I h) fun ws s2 ⟨zs, H2, I2, rz, l1, l2, q2⟩ => ⟨I2.kIn, ?_⟩
  rw [hks]
  exact run_fnN (us := []) (vs := []) F hr hb hx I2 .nil rz rfl l2 q2
theorem kbn_app {K : PySem.W.Frag} {params : Arguments} {body : List Stmt} {scope : Scope} {kws : List (Str × V)} (F : FunD K x qual params body scope [] kws f fd) (n : Nat) (ks : List Str)
    (h : ∀ (kV doc pm : Value) (an : Option Addr) (cdv ct : Value) (us ws : List Value), us.length = n → ws.length = ks.length → bindArgs (PySem.W.fnOf x qual params body scope .none kV doc pm an cdv ct) ⟨us, ks.zip ws⟩ = pure (ps.zip (us ++ ws))) :
    KBn K fd ps n ks (fun us ws => us ++ ws) (fun vs zs => vs ++ zs) := by
  obtain ⟨oc, od, dV, kV, doc, pm, an, cdv, ct, osl, rfl, lk, hcd, hD, hK⟩ := F.ex
  rcases hD with ⟨_, rfl⟩ | ⟨e, _⟩
  · exact ⟨fun s us ws _ l1 l2 => .of_eq (h kV doc pm an cdv ct us ws l1 l2), fun r1 r2 => r1.append r2⟩
  · exact absurd rfl e
end
section
variable {σ : L2.St} {H : Hp} {Q : VK} {n m : Nat} {sp : Sp} {gV : List V → List V → List V} {E : XK} {t tk : TA}
instance : Step (tCallN n m sp gV E t tk σ H Q) (t σ H fun vs H1 => tk σ H1 fun zs H2 => vs.length = n ∧ zs.length = m ∧ sp (gV vs zs) H2 Q E) := ⟨id⟩
end
/-- a comprehension under an invariant of the heap that the new list does not touch; elements told apart from the heap -/
theorem lc_inv {J : It} {n : Nat} {G : Hp → Prop} {Y : Nat → Hp → V → Hp → Prop} (w : Walk J n G Y) {g : TG} {te : L2.TE} {vs : List Nat} {σ : L2.St} {H1 : Hp} {D : Addr} {Qd : Hp → Prop} {σw : L2.St} (hw : wipe σ vs = σw) (I : Hp → Prop) (E : Nat → V → Prop) (hD : H1 D = none) (hn : n ≤ 100000)
    (h0 : I (upd H1 D (.lst []))) (hG : ∀ H, I H → G H)
    (hs : ∀ i x H H' acc (R : VK), i < n → I H → H D = some (.lst acc) → Y i H x H' → (∀ v H4, E i v → H4 D = some (.lst acc) → I (upd H4 D (.lst (acc ++ [v]))) → R v H4) → g x σw H' fun σ2 H2 => wipe σ2 vs = σw ∧ te σ2 H2 R)
    (hd : ∀ H acc, I H → H D = some (.lst acc) → acc.length = n → (∀ i v, acc[i]? = some v → E i v) → Qd H) : LcW J g tYes te vs σ H1 D Qd := by
  subst hw
  refine lc_it w (fun i H => I H ∧ ∃ acc, H D = some (.lst acc) ∧ acc.length = i ∧ ∀ j v, acc[j]? = some v → E j v) ?_ (fun i H _ p => hG H p.1) ?_ ?_
  · exact ⟨h0, [], upd_same, rfl, fun j v e => by simp at e⟩
  · rintro i x H H' hi ⟨p, acc, ha, hl, hE2⟩ y
    refine hs i x H H' acc _ hi p ha y fun v H4 e x4 hI => ?_
    refine ⟨acc, x4, Nat.lt_of_lt_of_le (show acc.length < 100001 by omega) (by decide), hI, acc ++ [v], upd_same, by rw [List.length_append, hl]; rfl, fun j u hj => ?_⟩
    by_cases h : j < acc.length
    · rw [List.getElem?_append_left h] at hj
      exact hE2 j u hj
    · have hj2 : j = acc.length := by
        have h3 : j < (acc ++ [v]).length := (List.getElem?_eq_some_iff.mp hj).1
        rw [List.length_append] at h3
        have h4 : [v].length = 1 := rfl
        omega
      subst hj2
      rw [List.getElem?_append_right (Nat.le_refl _), Nat.sub_self] at hj
      injection hj with hj
      subst hj
      rw [hl]
      exact e
  · rintro H ⟨p, acc, ha, hl, hE2⟩
    exact hd H acc p ha hl hE2
theorem r_and3 {A B C : Prop} (a : A) (b : B) (c : C) : A ∧ B ∧ C := ⟨a, b, c⟩
end PW
namespace PW
open PySem PySem.Spec PyProof.Rows L2
section
variable {z : Str} {R : Prop} {to te : L2.TE} {σ : L2.St} {H : Hp} {Q : VK} {r : V → List V → Hp → VK → Prop}
instance : Step ((∃ a, V.str z = .str a) ∧ R) R := ⟨fun q => ⟨⟨z, rfl⟩, q⟩⟩
instance : Step (tM1 r to te σ H Q) (to σ H fun x H1 => (∃ a, x = .str a) ∧ te σ H1 fun y H2 => r x [y] H2 Q) := ⟨id⟩
instance : Step (tM0 r to σ H Q) (to σ H fun x H1 => (∃ a, x = .str a) ∧ r x [] H1 Q) := ⟨id⟩
end
theorem cutS_len (z : Str) (lo hi : Option Int) : (cutS z lo hi).length ≤ z.length := by
  show (List.toArray _).size ≤ z.cps.size
  rw [List.size_toArray, List.length_take, List.length_drop]
  have : z.cps.toList.length = z.cps.size := by simp
  omega
theorem add_len (y z : Str) : (y ++ z).length = y.length + z.length := by
  show (y.cps ++ z.cps).size = _
  rw [Array.size_append]
  rfl
/-- a list whose items are told one by one -/
theorem acc_exists {α : Type} {g : α → V} {p : α → Prop} : ∀ {acc : List V}, (∀ (i : Nat) v, acc[i]? = some v → ∃ a, v = g a ∧ p a) → ∃ l : List α, acc = l.map g ∧ l.length = acc.length ∧ ∀ a ∈ l, p a
  | [], _ => ⟨[], rfl, rfl, fun _ h => by cases h⟩
  | x :: r, h => by
    obtain ⟨a, e, pa⟩ := h 0 x rfl
    obtain ⟨l, e2, hl, pl⟩ := acc_exists (acc := r) fun i v hv => h (i + 1) v (by rw [List.getElem?_cons_succ]; exact hv)
    refine ⟨a :: l, by rw [e, e2]; rfl, by rw [List.length_cons, List.length_cons, hl], fun b hb => ?_⟩
    rcases List.mem_cons.mp hb with rfl | hb
    · exact pa
    · exact pl b hb
theorem joinL_len (S : List Nat) : ∀ ps : List (List Nat), (TL.joinL S ps).length ≤ (ps.map List.length).sum + ps.length * S.length
  | [] => Nat.zero_le _
  | [p] => by
    show p.length ≤ _
    simp
  | p :: q :: r => by
    have ih := joinL_len S (q :: r)
    show (p ++ (S ++ TL.joinL S (q :: r))).length ≤ _
    rw [List.length_append, List.length_append, List.map_cons, List.sum_cons, List.length_cons]
    have e : ((q :: r).length + 1) * S.length = (q :: r).length * S.length + S.length := Nat.succ_mul _ _
    rw [e]
    omega
theorem sum_le {k : Nat} : ∀ {l : List Str}, (∀ z ∈ l, z.length ≤ k) → (l.map (·.length)).sum ≤ l.length * k
  | [], _ => Nat.zero_le _
  | z :: r, h => by
    have h1 := h z (List.mem_cons_self ..)
    have h2 := sum_le (k := k) (l := r) fun y hy => h y (List.mem_cons_of_mem _ hy)
    rw [List.map_cons, List.sum_cons, List.length_cons, Nat.succ_mul]
    omega
end PW
namespace PW
open PySem PySem.Spec PyProof.Rows L2
theorem len_ok {n : Nat} (h : n ≤ 100000) : n ≤ sizeLine := Nat.le_trans h (by decide)
theorem log_ok {m : Int} (h0 : 0 ≤ m) (h : m < 2 ^ 64) : m.natAbs.log2 < 9000 := by
  have h2 : m.natAbs < 2 ^ 64 := by omega
  exact Nat.lt_trans (PySem.Flt.log2_lt_of (by decide) h2) (by decide)
section
variable {H : Hp} {Q : VK} {p : Addr} {xs : List V} {k : Int}
theorem r_rep (h : H p = some (.lst xs)) (h0 : 0 ≤ k) (h1 : k < 1000) (hl : xs.length ≤ 1000) (q : ∀ r, H r = none → Q (.ref r) (upd H r (.lst (List.replicate k.toNat xs).flatten))) : rRep (.ref p) (.int k) H Q := by
  refine ⟨p, k, xs, rfl, rfl, h, by omega, by omega, ?_, q⟩
  have h2 : xs.length * k.toNat ≤ 1000 * 1000 := Nat.mul_le_mul hl (by omega)
  exact Nat.le_trans h2 (by decide)
end
end PW
namespace PW
open PySem PySem.Spec PyProof.Rows L2
theorem r_seqP {s1 s2 : TS} {D : Ends} {σ : L2.St} {H : Hp} (P : L2.St → Hp → Prop) (hq : ∀ σ' H', P σ' H' → s2 D σ' H') (h : ∀ N : L2.St → Hp → Prop, (∀ σ' H', P σ' H' → N σ' H') → s1 { D with nx := N } σ H) : tSeq s1 s2 D σ H := h (s2 D) hq
end PW
namespace PW
open PySem PySem.Spec PyProof.Rows L2
theorem atI0 {α : Type} {x : α} {xs : List α} : atI (x :: xs) 0 = some x := atI_nat (j := 0) rfl
end PW
/-! ### own operators -/
namespace PW
open PySem PySem.Spec PyProof.Rows L2
/-- what x op y asks of the class at C whose def for op is at g: y another one of C, or an int -/
structure OwnB (K : PySem.W.Frag) (C : Addr) (op : Operator) (g : Addr) : Prop where
  sf : PySem.W.selfFirst K C = true
  at_ : PySem.W.findIn K (.ref C) (PySem.dunder op.info.2) = some (some (.ref g))
  fn : PySem.W.isFn K (.ref g) = true
  r : ∃ rc, PySem.W.findIn K (.ref C) (dunderR op.info.2) = some rc ∧ (rc = none ∨ ∃ h : Addr, rc = some (.ref h))
  i1 : ∃ fo, PySem.W.findIn K (.type "int") (PySem.dunder op.info.2) = some fo
  i2 : ∃ ro, PySem.W.findIn K (.type "int") (dunderR op.info.2) = some ro
theorem sub_int {K : PySem.W.Frag} {C : Addr} : PySem.W.subIn K (.type "int") (.ref C) = some false := by
  show (fastBuiltinMro "int").map (·.contains (Value.ref C)) = some false
  have e : fastBuiltinMro "int" = some [.type "int", .type "object"] := by decide +kernel
  rw [e]
  rfl
def rOwnB (C : Addr) (sp : Sp) (E : XK) : R2 := fun x y H Q => ∃ a dx fs, x = .ref a ∧ H a = some (.ins C dx fs) ∧ ((∃ i, y = .int i) ∨ ∃ b dy gs, y = .ref b ∧ H b = some (.ins C dy gs)) ∧ sp [x, y] H Q E
section
variable {X : Cx} {CX : CXT} {k : Nat} {C g : Addr} {fd : FuncData} {ps : List Str} {sp : Sp} {E : XK} {pins : List (Addr × Obj)} {σ : L2.St} {H : Hp} {s : Shared} {a dx : Addr} {fs : List (Str × V)}
theorem inst_of (I : Inv X pins σ H s) (e : H a = some (.ins C dx fs)) : ∃ od, PySem.W.InstAt s.heap a (PySem.W.instObj C dx) C (some od) := by
  obtain ⟨mA, O, _⟩ := ins_get I.hok e
  obtain ⟨od, J, _⟩ := O.look
  exact ⟨od, J⟩
theorem op_ownB {op : Operator} (O : OwnB X.K C op g) (F : FnOk X.prog X.w X.K X.mg X.base CX k g fd ps sp) (hr : Room k X.A) (hb : Binds X.K fd ps []) (hx : Passes CX X E) : OpR X (binaryOp op) (rOwnB C sp E) := by
  intro pins s σ H x y v u Q I rx ry h
  obtain ⟨a, dx, fs, rfl, ha, hy, q⟩ := h
  cases (show v = Value.ref a from rx)
  obtain ⟨od, J⟩ := inst_of I ha
  obtain ⟨m, hF⟩ := I.fr
  obtain ⟨rc, e1, e2⟩ := O.r
  obtain ⟨fo, e3⟩ := O.i1
  obtain ⟨ro, e4⟩ := O.i2
  have fin : ∀ w s', EP X pins σ Q w s' → PySem.W.CmpBack (EP X pins σ Q) w s' := fun w s' z => by
    have z' := z
    obtain ⟨z1, H', I', rz, qz⟩ := z'
    exact SlX.cmpback rz z
  rcases hy with ⟨i, rfl⟩ | ⟨b, dy, gs, rfl, hb2⟩
  · obtain ⟨t, e⟩ := (show ∃ t, u = Value.int i t from ry)
    cases e
    refine PySem.W.ksp_binT (T := "int") hF I.ok.mod.kin J rfl O.sf O.at_ O.fn e1 e2 e3 e4 sub_int ?_
    exact wpAny_mono (run_fn (us := [.ref a, .int i t]) (vs := [.ref a, .int i]) (dvs := []) (ds := []) F hr hb .nil hx I (.cons rfl (.cons ⟨t, rfl⟩ .nil)) q) fin fun _ _ e => e
  · cases (show u = Value.ref b from ry)
    obtain ⟨od', J'⟩ := inst_of I hb2
    refine PySem.W.binop_K hF I.ok.mod.kin J J'.type O.sf O.at_ O.fn ?_
    exact wpAny_mono (run_fn (us := [.ref a, .ref b]) (vs := [.ref a, .ref b]) (dvs := []) (ds := []) F hr hb .nil hx I (.cons rfl (.cons rfl .nil)) q) fin fun _ _ e => e
/-- -x -/
def rOwnU (C : Addr) (sp : Sp) (E : XK) : V → Hp → VK → Prop := fun x H Q => ∃ a dx fs, x = .ref a ∧ H a = some (.ins C dx fs) ∧ sp [x] H Q E
theorem un_own (hs : PySem.W.findIn X.K (.ref C) "__neg__" = some (some (.ref g))) (hf : PySem.W.isFn X.K (.ref g) = true) (F : FnOk X.prog X.w X.K X.mg X.base CX k g fd ps sp) (hr : Room k X.A) (hb : Binds X.K fd ps []) (hx : Passes CX X E) :
    UnR X (unaryOp .USub) (rOwnU C sp E) := by
  intro pins s σ H x v Q I rx h
  obtain ⟨a, dx, fs, rfl, ha, q⟩ := h
  cases (show v = Value.ref a from rx)
  obtain ⟨od, J⟩ := inst_of I ha
  obtain ⟨m, hF⟩ := I.fr
  refine PySem.W.ksp_neg hF I.ok.mod.kin J hs hf ?_
  exact run_fn (us := [.ref a]) (vs := [.ref a]) (dvs := []) (ds := []) F hr hb .nil hx I (.cons rfl .nil) q
/-- abs(x) -/
def cOwnAbs (C : Addr) (sp : Sp) (E : XK) : List V → Hp → VK → Prop := fun xs H Q => ∃ a dx fs, xs = [.ref a] ∧ H a = some (.ins C dx fs) ∧ sp [.ref a] H Q E
theorem call_absOwn (hs : PySem.W.findIn X.K (.ref C) "__abs__" = some (some (.ref g))) (hf : PySem.W.isFn X.K (.ref g) = true) (F : FnOk X.prog X.w X.K X.mg X.base CX k g fd ps sp) (hr : Room (k + 1) X.A) (hb : Binds X.K fd ps []) (hx : Passes CX X E) :
    CallR X (.builtin "abs") (cOwnAbs C sp E) := by
  intro pins s σ H xs us Q I r h
  obtain ⟨a, dx, fs, rfl, ha, q⟩ := h
  obtain ⟨u, rfl, ru⟩ := vals1 r
  cases (show u = Value.ref a from ru)
  obtain ⟨od, J⟩ := inst_of I ha
  refine Calls.call_function_entry kind_abs plain_abs entry_abs (args_abs _) ?_
  unfold Builtin.«abs»
  refine wpAny_bind (m := oneArg "abs" _) (wpAny_pure ?_)
  refine wpAny_bind (m := callSpecial? (.ref a) (Str.ofString "__abs__")) (PySem.W.special_fn I.kIn J hs (beq_iff_eq.mp hf) ?_)
  have hE : Env0 X.prog X.w X.K X.mg X.base X.A.in1 X.stack s H := I.env0.in1
  have r2 : Vals [V.ref a] [Value.ref a] := .cons rfl .nil
  refine wpAny_call (codeAny_mono (F.run X.A.in1 X.stack s H ⟨[.ref a], []⟩ [.ref a] [.ref a] Q E (Room.in1 hr) hE (by
    have hl : ([Value.ref a] ++ ([] : List Value)).length = ps.length := by rw [List.append_nil, ← r2.length]; exact F.len _ _ _ _ q
    have z := hb s [.ref a] I.kIn hl
    rw [List.append_nil] at z
    exact z) r2 q) fun r s' hq => ?_)
  cases r with
  | error e => exact hx pins σ H s e s' I hq
  | ok fl =>
    cases fl with
    | ret u => exact wpAny_pure ⟨_, rfl, I.after hq⟩
    | next => exact False.elim hq
    | brk => exact False.elim hq
    | cont => exact False.elim hq
end
end PW
/-! ### an int to the left: the reflected def -/
namespace PW
open PySem PySem.Spec PyProof.Rows L2
theorem gives_no {P : Int → Int → Sem Fin} {nm : String} {i : Int} {t : Tok} {a : Addr} :
    PySem.GivesAt (fun s => ∃ o, s.heap.get? a = some o ∧ ∀ j u, o.data ≠ .prim (.int j u)) (Builtin.Int.intBinary nm P false ⟨[.int i t, .ref a], []⟩) (.val .notImplemented) := by
  intro prog w A R s ⟨o, ho, hd⟩ q
  unfold Builtin.Int.intBinary
  refine wpAny_bind (m := slotArgs nm 1 _) (wpAny_pure ?_)
  refine wpAny_bind (m := Builtin.Int.intOfSelf (.int i t)) (wpAny_pure ?_)
  refine wpAny_bind (m := asInt? (.ref a)) ?_
  show wpAny _ _ (load a >>= _) _ _ s
  refine wpAny_bind (wpAny_load ho ?_)
  obtain ⟨oc, od, dt, sl⟩ := o
  cases dt with
  | prim v =>
    cases v with
    | int j u => exact absurd rfl (hd j u)
    | _ => exact wpAny_pure (wpAny_bind (wpAny_rule (wpAny_pure q)))
  | _ => exact wpAny_pure (wpAny_bind (wpAny_rule (wpAny_pure q)))

section
variable {prog : Program} {w : World} {A : Around} {E : Value → Shared → Prop} {s : Shared} {K : PySem.W.Frag} {x C f : Addr} {ox : Obj} {od : Option Obj} {i : Int} {t : Tok}
def NotPrim (o : Obj) : Prop := ∀ j u, o.data ≠ .prim (.int j u)
/-- what int op instance asks -/
structure OwnR (K : PySem.W.Frag) (C : Addr) (op : Operator) (g : Addr) : Prop where
  sf : PySem.W.selfFirst K C = true
  l : ∃ h : Addr, PySem.W.findIn K (.ref C) (PySem.dunder op.info.2) = some (some (.ref h))
  at_ : PySem.W.findIn K (.ref C) (dunderR op.info.2) = some (some (.ref g))
  fn : PySem.W.isFn K (.ref g) = true
  sub : PySem.W.subIn K (.ref C) (.type "int") = some false
  i1 : ∃ fo, PySem.W.findIn K (.type "int") (PySem.dunder op.info.2) = some fo ∧ fo.isSome = true ∧ isSeqSlot fo = false
  i2 : ∃ ro, PySem.W.findIn K (.type "int") (dunderR op.info.2) = some ro
theorem own_refl {op : Operator} {Q : Value → Shared → Prop} (O : OwnR K C op f) (X : K.In s.heap) (I : PySem.W.InstAt s.heap x ox C od)
    (decl : ∀ Q : Value → Shared → Prop, Q .notImplemented s → wpAny (model prog w) A (tryMethod (.int i t) (PySem.dunder op.info.2) (.ref x)) (fun r s' => r = none ∧ Q .notImplemented s') E s)
    (h : wpAny (model prog w) A (call (.ref f) [.ref x, .int i t]) (PySem.W.CmpBack Q) E s) : wpAny (model prog w) A (binaryOp op (.int i t) (.ref x)) Q E s := by
  obtain ⟨cd, rest, hcd, hm⟩ := PySem.W.ksp_first O.sf
  obtain ⟨g0, hl⟩ := O.l
  obtain ⟨fo, h1, hso, hsq⟩ := O.i1
  obtain ⟨ro, h2⟩ := O.i2
  have hr := O.at_
  rcases hi : op.info with ⟨sym, nm'⟩
  rw [hi] at hl hr h1 h2 decl
  dsimp only at hl hr h1 h2 decl
  have one := PySem.W.ksp_try (b := .int i t) X I hr O.fn h
  have L1 : PySem.W.Looks (model prog w) s.heap (typeOf (.int i t)) (.type "int") := PySem.W.Looks.of_pure rfl
  have L2 : PySem.W.Looks (model prog w) s.heap (typeOf (.ref x)) (.ref C) := I.type
  have L3 : PySem.W.Looks (model prog w) s.heap (fillsNumberSlot (.ref C) nm') true := PySem.W.fills_K X hcd hm hl
  have L4 : PySem.W.Looks (model prog w) s.heap (fillsNumberSlot (.type "int") nm') true := by
    have z := PySem.W.ksp_fillsT (M := model prog w) (T := "int") (nm := nm') X h1 h2
    rw [hso, hsq] at z
    exact z
  have L5 : PySem.W.Looks (model prog w) s.heap (isSubtype (.ref C) (.type "int")) false := PySem.W.looks_subIn X O.sub
  have hne : (Value.type "int" == Value.ref C) = false := Bool.eq_false_iff.mpr fun q => by cases beq_iff_eq.mp q
  have hpy : numberSlotInPython (.type "int") nm' = pure false := rfl
  simp only [binaryOp, hi]
  refine wpAny_holding (wpAny_bind ?_)
  unfold binaryOp1
  refine wpAny_bind (L1.here (wpAny_bind (L2.here (wpAny_bind (L4.here ?_)))))
  simp only [hne, Bool.false_eq_true, if_false]
  refine wpAny_bind (L3.here ?_)
  simp only [Bool.and_self, if_true]
  refine wpAny_bind (L5.here ?_)
  simp only [Bool.false_eq_true, if_false, pure_bind, Bool.not_false, Bool.and_self, if_true, hpy]
  refine wpAny_bind (wpAny_mono (decl (fun v s' => v = .notImplemented ∧ s' = s) ⟨rfl, rfl⟩) (fun r s' z => ?_) fun _ _ e => e)
  obtain ⟨rfl, _, rfl⟩ := z
  refine wpAny_bind (wpAny_mono one (fun r s' z => ?_) fun _ _ e => e)
  obtain ⟨v, rfl, q⟩ := z
  exact wpAny_bind (wpAny_rule (wpAny_pure (wpAny_pure q)))
end
end PW
namespace PW
open PySem PySem.Spec PyProof.Rows L2
section
variable {X : Cx} {CX : CXT} {k : Nat} {C g : Addr} {fd : FuncData} {ps : List Str} {sp : Sp} {E : XK} {pins : List (Addr × Obj)} {σ : L2.St} {H : Hp} {s : Shared} {a dx : Addr} {fs : List (Str × V)}
def rOwnR (C : Addr) (sp : Sp) (E : XK) : R2 := fun x y H Q => ∃ i b dy gs, x = .int i ∧ y = .ref b ∧ H b = some (.ins C dy gs) ∧ sp [.ref b, .int i] H Q E
theorem backs {X : Cx} {pins : List (Addr × Obj)} {σ : L2.St} {Q : VK} : ∀ w s', EP X pins σ Q w s' → PySem.W.CmpBack (EP X pins σ Q) w s' := fun w s' z => by
  have z' := z
  obtain ⟨z1, H', I', rz, qz⟩ := z'
  exact SlX.cmpback rz z
theorem op_ownR {op : Operator} (O : OwnR X.K C op g) (decl : ∀ (A : Around) (E : Value → Shared → Prop) (s : Shared) (i : Int) (t : Tok) (a : Addr) (o : Obj), s.heap.get? a = some o → (∀ j u, o.data ≠ .prim (.int j u)) → ∀ Q : Value → Shared → Prop, Q .notImplemented s → wpAny (model X.prog X.w) A (tryMethod (.int i t) (PySem.dunder op.info.2) (.ref a)) (fun r s' => r = none ∧ Q .notImplemented s') E s)
    (F : FnOk X.prog X.w X.K X.mg X.base CX k g fd ps sp) (hr : Room k X.A) (hb : Binds X.K fd ps []) (hx : Passes CX X E) : OpR X (binaryOp op) (rOwnR C sp E) := by
  intro pins s σ H x y v u Q I rx ry h
  obtain ⟨i, b, dy, gs, rfl, rfl, hb2, q⟩ := h
  obtain ⟨t, e⟩ := (show ∃ t, v = Value.int i t from rx)
  cases e
  cases (show u = Value.ref b from ry)
  obtain ⟨od, J⟩ := inst_of I hb2
  refine own_refl O I.kIn J (decl _ _ _ _ _ _ _ J.1 fun j u z => nomatch z) ?_
  exact wpAny_mono (run_fn (us := [.ref b, .int i t]) (vs := [.ref b, .int i]) (dvs := []) (ds := []) F hr hb .nil hx I (.cons rfl (.cons ⟨t, rfl⟩ .nil)) q) backs fun _ _ e => e
theorem decl_add {prog : Program} {w : World} (A : Around) (E : Value → Shared → Prop) (s : Shared) (i : Int) (t : Tok) (a : Addr) (o : Obj) (ho : s.heap.get? a = some o) (hd : ∀ j u, o.data ≠ .prim (.int j u)) (Q : Value → Shared → Prop) (q : Q .notImplemented s) :
    wpAny (model prog w) A (tryMethod (.int i t) (PySem.dunder Operator.Add.info.2) (.ref a)) (fun r s' => r = none ∧ Q .notImplemented s') E s := by
  have g : GivesAt (fun s => ∃ o, s.heap.get? a = some o ∧ ∀ j u, o.data ≠ .prim (.int j u)) (Builtin.«int.__add__» ⟨[.int i t, .ref a], []⟩) (.val .notImplemented) := gives_no
  have hT : s.TypeIs (.int i t) "int" := typeIs_int _ _ _
  have c : wpAny (model prog w) A (call (.builtin "int.__add__") [.int i t, .ref a]) (fun v s' => v = .notImplemented ∧ ((none : Option Value) = none ∧ Q .notImplemented s')) E s :=
    call_givesAt F.slot_int_add hT F.entry_int_add (F.args_int_add_2 _ _) g ⟨o, ho, hd⟩ (show Value.notImplemented = .notImplemented ∧ _ from ⟨rfl, rfl, q⟩)
  have e : PySem.dunder Operator.Add.info.2 = PySem.dunder "add" := congrArg PySem.dunder (show Operator.Add.info.2 = "add" from rfl)
  rw [e]
  refine wpAny_tryMethod_declines (T := "int") (id := "int.__add__") (Q := fun r s' => r = none ∧ Q .notImplemented s') ?h1 ?h2 ?h3
  case h1 => exact hT
  case h2 => exact F.slot_int_add
  case h3 => exact c
theorem decl_sub {prog : Program} {w : World} (A : Around) (E : Value → Shared → Prop) (s : Shared) (i : Int) (t : Tok) (a : Addr) (o : Obj) (ho : s.heap.get? a = some o) (hd : ∀ j u, o.data ≠ .prim (.int j u)) (Q : Value → Shared → Prop) (q : Q .notImplemented s) :
    wpAny (model prog w) A (tryMethod (.int i t) (PySem.dunder Operator.Sub.info.2) (.ref a)) (fun r s' => r = none ∧ Q .notImplemented s') E s := by
  have g : GivesAt (fun s => ∃ o, s.heap.get? a = some o ∧ ∀ j u, o.data ≠ .prim (.int j u)) (Builtin.«int.__sub__» ⟨[.int i t, .ref a], []⟩) (.val .notImplemented) := gives_no
  have hT : s.TypeIs (.int i t) "int" := typeIs_int _ _ _
  have c : wpAny (model prog w) A (call (.builtin "int.__sub__") [.int i t, .ref a]) (fun v s' => v = .notImplemented ∧ ((none : Option Value) = none ∧ Q .notImplemented s')) E s :=
    call_givesAt F.slot_int_sub hT F.entry_int_sub (F.args_int_sub_2 _ _) g ⟨o, ho, hd⟩ (show Value.notImplemented = .notImplemented ∧ _ from ⟨rfl, rfl, q⟩)
  have e : PySem.dunder Operator.Sub.info.2 = PySem.dunder "sub" := congrArg PySem.dunder (show Operator.Sub.info.2 = "sub" from rfl)
  rw [e]
  refine wpAny_tryMethod_declines (T := "int") (id := "int.__sub__") (Q := fun r s' => r = none ∧ Q .notImplemented s') ?h1 ?h2 ?h3
  case h1 => exact hT
  case h2 => exact F.slot_int_sub
  case h3 => exact c
theorem decl_mul {prog : Program} {w : World} (A : Around) (E : Value → Shared → Prop) (s : Shared) (i : Int) (t : Tok) (a : Addr) (o : Obj) (ho : s.heap.get? a = some o) (hd : ∀ j u, o.data ≠ .prim (.int j u)) (Q : Value → Shared → Prop) (q : Q .notImplemented s) :
    wpAny (model prog w) A (tryMethod (.int i t) (PySem.dunder Operator.Mult.info.2) (.ref a)) (fun r s' => r = none ∧ Q .notImplemented s') E s := by
  have g : GivesAt (fun s => ∃ o, s.heap.get? a = some o ∧ ∀ j u, o.data ≠ .prim (.int j u)) (Builtin.«int.__mul__» ⟨[.int i t, .ref a], []⟩) (.val .notImplemented) := gives_no
  have hT : s.TypeIs (.int i t) "int" := typeIs_int _ _ _
  have c : wpAny (model prog w) A (call (.builtin "int.__mul__") [.int i t, .ref a]) (fun v s' => v = .notImplemented ∧ ((none : Option Value) = none ∧ Q .notImplemented s')) E s :=
    call_givesAt F.slot_int_mul hT F.entry_int_mul (F.args_int_mul_2 _ _) g ⟨o, ho, hd⟩ (show Value.notImplemented = .notImplemented ∧ _ from ⟨rfl, rfl, q⟩)
  have e : PySem.dunder Operator.Mult.info.2 = PySem.dunder "mul" := congrArg PySem.dunder (show Operator.Mult.info.2 = "mul" from rfl)
  rw [e]
  refine wpAny_tryMethod_declines (T := "int") (id := "int.__mul__") (Q := fun r s' => r = none ∧ Q .notImplemented s') ?h1 ?h2 ?h3
  case h1 => exact hT
  case h2 => exact F.slot_int_mul
  case h3 => exact c
/-- x == y, x of C with an own __eq__ at g -/
theorem cmp_ownB {op : CmpOp} (hop : ∀ a b, compareOp op a b = richCompare op a b) (hs : PySem.W.findIn X.K (.ref C) (cmpInfo op).2.1 = some (some (.ref g))) (hf : PySem.W.isFn X.K (.ref g) = true)
    (F : FnOk X.prog X.w X.K X.mg X.base CX k g fd ps sp) (hr : Room k X.A) (hb : Binds X.K fd ps []) (hx : Passes CX X E) : OpR X (compareOp op) (rOwnB C sp E) := by
  intro pins s σ H x y v u Q I rx ry h
  obtain ⟨a, dx, fs, rfl, ha, hy, q⟩ := h
  cases (show v = Value.ref a from rx)
  obtain ⟨od, J⟩ := inst_of I ha
  obtain ⟨m, hF⟩ := I.fr
  rw [hop]
  rcases hy with ⟨i, rfl⟩ | ⟨b, dy, gs, rfl, hb2⟩
  · obtain ⟨t, e⟩ := (show ∃ t, u = Value.int i t from ry)
    cases e
    refine PySem.W.cmp_K (op := op) (tb := .type "int") hr.units0 hF I.ok.mod.kin J (PySem.W.Looks.of_pure rfl) (by unfold PySem.W.notFirst; rw [sub_int]; rfl) hs hf ?_
    exact wpAny_mono (run_fn (us := [.ref a, .int i t]) (vs := [.ref a, .int i]) (dvs := []) (ds := []) F hr hb .nil hx I (.cons rfl (.cons ⟨t, rfl⟩ .nil)) q) backs fun _ _ e => e
  · cases (show u = Value.ref b from ry)
    obtain ⟨od', J'⟩ := inst_of I hb2
    refine PySem.W.cmp_K (op := op) (tb := .ref C) hr.units0 hF I.ok.mod.kin J J'.type (by unfold PySem.W.notFirst; rw [beq_self_eq_true]; rfl) hs hf ?_
    exact wpAny_mono (run_fn (us := [.ref a, .ref b]) (vs := [.ref a, .ref b]) (dvs := []) (ds := []) F hr hb .nil hx I (.cons rfl (.cons rfl .nil)) q) backs fun _ _ e => e
/-! ### a staticmethod called through its class -/
structure SMet (K : PySem.W.Frag) (C : Addr) (m : Str) (p g : Addr) : Prop where
  rd : PySem.W.readsIn K C (.type "type") = true
  ga : PySem.W.specialIn K (.ref C) "__getattribute__" = some (some (.builtin "type.__getattribute__"))
  at_ : PySem.W.findCls K (.ref C) (.type "type") m = some (.get (.builtin "staticmethod.__get__") (.ref p) .none (.ref C))
  rc : ∃ rest, PySem.W.recIn K p "staticmethod" = some (.ref g :: rest)
  kp : PySem.W.keepIn K (.ref g) = true
theorem getmethsm_ok {m : Str} {p : Addr} {pl : Sem Bool} {A : Around} {E : Value → Shared → Prop} {Q : Value × List Value → Shared → Prop} (I : Inv X pins σ H s) (k : SMet X.K C m p g)
    (h : ∀ s', Inv X pins σ H s' → Q (.ref g, []) s') : wpAny (model X.prog X.w) A (getMethod (.ref C) m pl) Q E s := by
  obtain ⟨rest, hp⟩ := k.rc
  refine PySem.W.method_cls I.kIn k.ga (PySem.W.cls_bind I.kIn k.rd k.at_ ?_)
  exact wpAny_call (PySem.W.sm_get (s := { s with toks := s.toks + 1 }) I.kIn hp (PySem.W.handed_on rfl (h _ (I.tok _))))
/-- C.m(e, ..) -/
def tSMeth (C : Addr) (sp : Sp) (E : XK) (ta : L2.TE) (t : TA) : TE := fun σ H Q => ta σ H fun x H1 => x = .ref C ∧ t σ H1 fun vs H2 => sp vs H2 Q E
theorem pe_smeth {m : Str} {p : Addr} {o e : Expr} {es : List Expr} {pos apos : Pos} {ta : L2.TE} {t : TA} {pl : Sem Bool} (he : PE X o ta) (c : SMet X.K C m p g) (F : FnOk X.prog X.w X.K X.mg X.base CX k g fd ps sp) (hr : Room k X.A) (hb : Binds X.K fd ps []) (hx : Passes CX X E) (ha : PA X (e :: es) t)
    (hst : starEach (e :: es) X.env = (false, eval e X.env) :: starEach es X.env := by rfl) (hpl : (backTo pos (starEach es X.env)).any (·.1) = false := by rfl)
    (ht : eval (.Call (.Attribute o m apos) (e :: es) [] pos) X.env = (do
      let ov ← eval o X.env
      standAt apos.atName
      let (f, first) ← holding [ov] (getMethod ov m pl)
      callWith pos f first (backTo pos (starEach (e :: es) X.env)) (backToKw pos (keywordEach [] X.env))) := by rfl) :
    PE X (.Call (.Attribute o m apos) (e :: es) [] pos) (tSMeth C sp E ta t) := by
  refine ⟨fun pins s σ H Q I h => ?_⟩
  refine PySem.W.methodCall_KW (pl := pl) (thn (he.run pins s σ H _ I h) fun u s1 ⟨x, H1, I1, rx, ex, q⟩ => ?_) ht
  subst ex
  obtain rfl : u = Value.ref C := rx
  refine getmethsm_ok I1 c fun s2 I2 => ?_
  refine PySem.W.callWith_K (first := []) (h₀ := X.base) I.ok.mod.kin c.kp (thn (ha.run pos pins s2 σ H1 _ I2 q) fun us s3 ⟨vs, H2, I3, r, q2⟩ => ⟨I3.kIn, ?_⟩) hst hpl
  refine run_fn (us := us) (vs := vs) (dvs := []) (ds := []) F hr hb .nil hx I3 r ?_
  rw [List.append_nil]
  exact q2
end
end PW
/-! ### == and != with an empty list or tuple -/
namespace PW
open PySem PySem.Spec PyProof.Rows L2 PySem.SeqAt
section
variable {prog : Program} {w : World}
theorem list_ne_size (l b : Addr) (items items2 : Array Value) (n n2 : Nat) (dd dd2 : Option Addr) (sl sl2 : Array (Option Value)) (hsz : items.size ≠ items2.size) :
    MeetsIn prog w (Builtin.«list.__eq__» ⟨[.ref l, .ref b], []⟩)
      (fun A R s => s.heap.get? l = some { cls := .type "list", dict := dd, data := .seq items n, slots := sl } ∧ s.heap.get? b = some { cls := .type "list", dict := dd2, data := .seq items2 n2, slots := sl2 } ∧
        R (.ok (.ret (.bool false))) s) := by
  intro A R s h
  obtain ⟨hp, g, d, tk, os⟩ := s; obtain ⟨hl, hb, h⟩ := h
  have f3 := AutoSeq1.sub_list_list
  have hne : (items.size != items2.size) = true := by simpa using hsz
  wp_walk using PySem.AutoSeq1.wpAny_loadPart' hl, PySem.AutoSeq1.wpAny_loadPart' hb
  exact h
theorem rcP_list_size {A : Around} {s : Shared} {l b : Addr} {items items2 : Array Value} (hl : s.heap.IsList l items) (hb : s.heap.IsList b items2) (hsz : items.size ≠ items2.size) (hu : A.units < cLine)
    (E Q : Value → Shared → Prop) (h : Q (.bool false) s) : wpAny (model prog w) A (richCompare .Eq (.ref l) (.ref b)) Q E s := by
  obtain ⟨⟨cls, dd, data, sl⟩, ho, hc, n, hd⟩ := id hl
  obtain ⟨⟨cls2, dd2, data2, sl2⟩, ho2, hc2, n2, hd2⟩ := id hb
  simp only at hc hd hc2 hd2
  subst hc hd hc2 hd2
  have ta : s.TypeIs (.ref l) "list" := ⟨_, ho, rfl⟩
  have tb : s.TypeIs (.ref b) "list" := ⟨_, ho2, rfl⟩
  exact wpAny_richCompare_same_room (op := .Eq) ta tb F.slot_list_eq (call_meetsIn F.slot_list_eq ta F.entry_list_eq (F.args_list_eq_2 _ _) (list_ne_size l b items items2 n n2 dd dd2 sl sl2 hsz)
    ⟨ho, ho2, show Value.bool false ≠ Value.notImplemented ∧ Q (.bool false) s from ⟨(fun x => nomatch x), h⟩⟩) hu
theorem tup_empty (ne : Bool) (l b : Addr) (items : Array Value) (n n2 : Nat) (dd dd2 : Option Addr) (sl sl2 : Array (Option Value)) :
    MeetsIn prog w ((if ne then Builtin.«tuple.__ne__» else Builtin.«tuple.__eq__») ⟨[.ref l, .ref b], []⟩)
      (fun A R s => s.heap.get? l = some { cls := .type "tuple", dict := dd, data := .seq items n, slots := sl } ∧ s.heap.get? b = some { cls := .type "tuple", dict := dd2, data := .seq #[] n2, slots := sl2 } ∧
        R (.ok (.ret (.bool (if ne then items.size != 0 else items.size == 0)))) s) := by
  intro A R s h
  obtain ⟨hp, g, d, tk, os⟩ := s; obtain ⟨hl, hb, h⟩ := h
  have f2 := AutoSeq1.sub_tuple_tuple
  cases ne with
  | true =>
    show wpAny _ _ (Builtin.«tuple.__ne__» ⟨[.ref l, .ref b], []⟩) _ _ _
    wp_walk using PySem.AutoSeq1.wpAny_loadPart' hl, PySem.AutoSeq1.wpAny_loadPart' hb
    have hz : items.toList.zip (#[] : Array Value).toList = [] := by simp
    generalize items.toList.zip (#[] : Array Value).toList = L at hz
    subst hz
    wp_walk
    simpa [Builtin.Tuple.tupleCompareSizes] using h
  | false =>
    show wpAny _ _ (Builtin.«tuple.__eq__» ⟨[.ref l, .ref b], []⟩) _ _ _
    wp_walk using PySem.AutoSeq1.wpAny_loadPart' hl, PySem.AutoSeq1.wpAny_loadPart' hb
    have hz : items.toList.zip (#[] : Array Value).toList = [] := by simp
    generalize items.toList.zip (#[] : Array Value).toList = L at hz
    subst hz
    wp_walk
    simpa [Builtin.Tuple.tupleCompareSizes] using h
end
end PW
namespace PW
open PySem PySem.Spec PyProof.Rows L2 PySem.SeqAt
section
variable {prog : Program} {w : World}
theorem rcP_tup_eq {A : Around} {s : Shared} {l b : Addr} {items : Array Value} (hl : IsTup s.heap l items) (hb : IsTup s.heap b #[]) (hu : A.units < cLine)
    (E Q : Value → Shared → Prop) (h : Q (.bool (items.size == 0)) s) : wpAny (model prog w) A (richCompare .Eq (.ref l) (.ref b)) Q E s := by
  obtain ⟨⟨cls, dd, data, sl⟩, ho, hc, n, hd⟩ := id hl
  obtain ⟨⟨cls2, dd2, data2, sl2⟩, ho2, hc2, n2, hd2⟩ := id hb
  simp only at hc hd hc2 hd2
  subst hc hd hc2 hd2
  have ta : s.TypeIs (.ref l) "tuple" := ⟨_, ho, rfl⟩
  have tb : s.TypeIs (.ref b) "tuple" := ⟨_, ho2, rfl⟩
  exact wpAny_richCompare_same_room (op := .Eq) ta tb F.slot_tuple_eq (call_meetsIn F.slot_tuple_eq ta F.entry_tuple_eq (F.args_tuple_eq_2 _ _) (tup_empty false l b items n n2 dd dd2 sl sl2)
    ⟨ho, ho2, show Value.bool (items.size == 0) ≠ Value.notImplemented ∧ Q (.bool (items.size == 0)) s from ⟨(fun x => nomatch x), h⟩⟩) hu
theorem rcP_tup_ne {A : Around} {s : Shared} {l b : Addr} {items : Array Value} (hl : IsTup s.heap l items) (hb : IsTup s.heap b #[]) (hu : A.units < cLine)
    (E Q : Value → Shared → Prop) (h : Q (.bool (items.size != 0)) s) : wpAny (model prog w) A (richCompare .NotEq (.ref l) (.ref b)) Q E s := by
  obtain ⟨⟨cls, dd, data, sl⟩, ho, hc, n, hd⟩ := id hl
  obtain ⟨⟨cls2, dd2, data2, sl2⟩, ho2, hc2, n2, hd2⟩ := id hb
  simp only at hc hd hc2 hd2
  subst hc hd hc2 hd2
  have ta : s.TypeIs (.ref l) "tuple" := ⟨_, ho, rfl⟩
  have tb : s.TypeIs (.ref b) "tuple" := ⟨_, ho2, rfl⟩
  exact wpAny_richCompare_same_room (op := .NotEq) ta tb F.slot_tuple_ne (call_meetsIn F.slot_tuple_ne ta F.entry_tuple_ne (F.args_tuple_ne_2 _ _) (tup_empty true l b items n n2 dd dd2 sl sl2)
    ⟨ho, ho2, show Value.bool (items.size != 0) ≠ Value.notImplemented ∧ Q (.bool (items.size != 0)) s from ⟨(fun x => nomatch x), h⟩⟩) hu
end
def rEqE (K : PySem.W.Frag) : R2 := fun x y H Q => ∃ a b xs, x = .ref a ∧ y = .ref b ∧ ((SqL K H a xs ∧ SqL K H b []) ∨ (SqT K H a xs ∧ SqT K H b [])) ∧ Q (.bl xs.isEmpty) H
def rNeE (K : PySem.W.Frag) : R2 := fun x y H Q => ∃ a b xs, x = .ref a ∧ y = .ref b ∧ SqT K H a xs ∧ SqT K H b [] ∧ Q (.bl (!xs.isEmpty)) H
section
variable {X : Cx}
theorem size_empty {xs : List V} {us : List Value} (r : Vals xs us) : (us.toArray.size == 0) = xs.isEmpty := by
  cases r with
  | nil => rfl
  | cons a b => rfl
theorem op_eqE (hu : X.A.units < cLine) : OpR X (compareOp .Eq) (rEqE X.K) := by
  intro pins s σ H x y v u Q I rx ry h
  obtain ⟨a, b, xs, rfl, rfl, h, q⟩ := h
  cases (show v = Value.ref a from rx)
  cases (show u = Value.ref b from ry)
  rcases h with ⟨ha, hb⟩ | ⟨ha, hb⟩
  · obtain ⟨us, r1, p1, _⟩ := I.list ha
    obtain ⟨ws, r2, p2, _⟩ := I.list hb
    cases r2
    cases r1 with
    | nil => exact rcP_lists (e := fun _ => true) p1.isList p2.isList rfl hu (fun j h1 _ => absurd h1 (Nat.not_lt_zero _)) _ _ ⟨.bl true, H, I, rfl, q⟩
    | cons r t => exact rcP_list_size p1.isList p2.isList (by simp) hu _ _ ⟨.bl false, H, I, rfl, q⟩
  · obtain ⟨us, r1, p1, _⟩ := I.tuple ha
    obtain ⟨ws, r2, p2, _⟩ := I.tuple hb
    cases r2
    refine rcP_tup_eq p1 p2 hu _ _ ⟨.bl xs.isEmpty, H, I, ?_, q⟩
    rw [size_empty r1]
    exact rfl
theorem op_neE (hu : X.A.units < cLine) : OpR X (compareOp .NotEq) (rNeE X.K) := by
  intro pins s σ H x y v u Q I rx ry h
  obtain ⟨a, b, xs, rfl, rfl, ha, hb, q⟩ := h
  cases (show v = Value.ref a from rx)
  cases (show u = Value.ref b from ry)
  obtain ⟨us, r1, p1, _⟩ := I.tuple ha
  obtain ⟨ws, r2, p2, _⟩ := I.tuple hb
  cases r2
  refine rcP_tup_ne p1 p2 hu _ _ ⟨.bl (!xs.isEmpty), H, I, ?_, q⟩
  show Value.bool (!(us.toArray.size == 0)) = _
  rw [size_empty r1]
end
/-! ### steps -/
def MkN (C : Addr) (sp : Sp) (vs : List V) (E : XK) (Q : VK) (H : Hp) : Prop := ∀ x dx, H x = none → H dx = none → dx ≠ x → sp (.ref x :: vs) (upd (upd H dx (.own x)) x (.ins C dx [])) (fun v H2 => v = .non ∧ Q (.ref x) H2) E
def MkKN (C : Addr) (sp : Sp) (gV : List V → List V → List V) (vs zs : List V) (E : XK) (Q : VK) (H : Hp) : Prop := ∀ x dx, H x = none → H dx = none → dx ≠ x → sp (gV (.ref x :: vs) zs) (upd (upd H dx (.own x)) x (.ins C dx [])) (fun v H2 => v = .non ∧ Q (.ref x) H2) E
section
variable {K : PySem.W.Frag} {σ : L2.St} {H : Hp} {Q : VK} {ta : L2.TE} {t : TA} {tk : TA} {C a b : Addr} {sp : Sp} {E : XK} {xs : List V} {n m : Nat} {gV : List V → List V → List V} {f : Str} {i : Int}
theorem r_eqEL (h : SqL K H a xs) (h2 : SqL K H b []) (q : Q (.bl xs.isEmpty) H) : rEqE K (.ref a) (.ref b) H Q := ⟨a, b, xs, rfl, rfl, .inl ⟨h, h2⟩, q⟩
theorem r_eqET (h : SqT K H a xs) (h2 : SqT K H b []) (q : Q (.bl xs.isEmpty) H) : rEqE K (.ref a) (.ref b) H Q := ⟨a, b, xs, rfl, rfl, .inr ⟨h, h2⟩, q⟩
theorem r_neET (h : SqT K H a xs) (h2 : SqT K H b []) (q : Q (.bl (!xs.isEmpty)) H) : rNeE K (.ref a) (.ref b) H Q := ⟨a, b, xs, rfl, rfl, h, h2, q⟩
instance : Step (tSMeth C sp E (tC (.ref C)) t σ H Q) (t σ H fun vs H2 => sp vs H2 Q E) := ⟨fun q => ⟨rfl, q⟩⟩
instance : Step (tMakeK C n m sp gV E t tk σ H Q) (t σ H fun vs H1 => tk σ H1 fun zs H2 => vs.length = n ∧ zs.length = m ∧ MkKN C sp gV vs zs E Q H2) := ⟨id⟩
instance {dvs : List V} : Step (tMake C sp dvs E t σ H Q) (t σ H fun vs H1 => MkN C sp (vs ++ dvs) E Q H1) := ⟨id⟩
end
end PW
/-! ### facts of an own class, as Bools -/
namespace PW
open PySem PySem.Spec PyProof.Rows L2
def insB (K : PySem.W.Frag) (C : Addr) : Bool := He.eqO (PySem.W.findIn K (.ref C) "__class__") (some (some (.builtin "object.__class__"))) && (He.eqO (PySem.W.specialIn K (.builtin "object.__class__") "__get__") (some (some (.builtin "getset_descriptor.__get__"))) &&
  (decide (PySem.W.takesIn K (.builtin "object.__class__") = some true) && (decide (PySem.W.mroIn K C (.type "object") = some true) && decide (PySem.W.kitOne K (.ref C) (.ref C) = some true))))
theorem insB_ok {K : PySem.W.Frag} {C : Addr} (k : Cls K C) (h : insB K C = true) : C8.InsC K C := by
  obtain ⟨h1, h⟩ := He.ba h
  obtain ⟨h2, h⟩ := He.ba h
  obtain ⟨h3, h⟩ := He.ba h
  obtain ⟨h4, h5⟩ := He.ba h
  exact ⟨k, He.eqO_ok h1, He.eqO_ok h2, of_decide_eq_true h3, of_decide_eq_true h4, of_decide_eq_true h5⟩
/-- isinstance between the class and built-in types: no -/
structure IsTys (K : PySem.W.Frag) (C : Addr) : Prop where
  l : ∀ n ∈ ["int", "bool", "str", "NoneType", "float", "list", "tuple", "dict"], PySem.W.kitOne K (.type n) (.ref C) = some false
  r : ∀ n ∈ ["int", "bool", "str", "list", "tuple", "dict"], PySem.W.kitOne K (.ref C) (.type n) = some false
def isTysB (K : PySem.W.Frag) (C : Addr) : Bool := (["int", "bool", "str", "NoneType", "float", "list", "tuple", "dict"].all fun n => decide (PySem.W.kitOne K (.type n) (.ref C) = some false)) && (["int", "bool", "str", "list", "tuple", "dict"].all fun n => decide (PySem.W.kitOne K (.ref C) (.type n) = some false))
theorem isTysB_ok {K : PySem.W.Frag} {C : Addr} (h : isTysB K C = true) : IsTys K C := by
  obtain ⟨h1, h2⟩ := He.ba h
  exact ⟨fun n hn => of_decide_eq_true (List.all_eq_true.mp h1 n hn), fun n hn => of_decide_eq_true (List.all_eq_true.mp h2 n hn)⟩
def smetB (K : PySem.W.Frag) (C : Addr) (m : Str) (p g : Addr) : Bool := PySem.W.readsIn K C (.type "type") && (He.eqO (PySem.W.specialIn K (.ref C) "__getattribute__") (some (some (.builtin "type.__getattribute__"))) &&
  ((match PySem.W.findCls K (.ref C) (.type "type") m with
    | some (.get (.builtin n) (.ref q) .none (.ref D)) => decide (n = "staticmethod.__get__") && (decide (q = p) && decide (D = C))
    | _ => false) && ((match PySem.W.recIn K p "staticmethod" with
    | some (.ref f :: _) => decide (f = g)
    | _ => false) && PySem.W.keepIn K (.ref g))))
theorem smetB_ok {K : PySem.W.Frag} {C : Addr} {m : Str} {p g : Addr} (h : smetB K C m p g = true) : SMet K C m p g := by
  obtain ⟨h1, h⟩ := He.ba h
  obtain ⟨h2, h⟩ := He.ba h
  obtain ⟨h3, h⟩ := He.ba h
  obtain ⟨h4, h5⟩ := He.ba h
  refine ⟨h1, He.eqO_ok h2, ?_, ?_, h5⟩
  · split at h3
    · rename_i n q D e
      obtain ⟨k1, k⟩ := He.ba h3
      obtain ⟨k2, k3⟩ := He.ba k
      rw [e, of_decide_eq_true k1, of_decide_eq_true k2, of_decide_eq_true k3]
    · cases h3
  · split at h4
    · rename_i f rest e
      rw [of_decide_eq_true h4] at e
      exact ⟨rest, e⟩
    · cases h4
def ownB (K : PySem.W.Frag) (C : Addr) (op : Operator) (g : Addr) : Bool := PySem.W.selfFirst K C && (He.eqO (PySem.W.findIn K (.ref C) (PySem.dunder op.info.2)) (some (some (.ref g))) && (PySem.W.isFn K (.ref g) &&
  ((match PySem.W.findIn K (.ref C) (dunderR op.info.2) with
    | some none => true
    | some (some (.ref _)) => true
    | _ => false) && ((PySem.W.findIn K (.type "int") (PySem.dunder op.info.2)).isSome && (PySem.W.findIn K (.type "int") (dunderR op.info.2)).isSome))))
theorem ownB_ok {K : PySem.W.Frag} {C : Addr} {op : Operator} {g : Addr} (h : ownB K C op g = true) : OwnB K C op g := by
  obtain ⟨h1, h⟩ := He.ba h
  obtain ⟨h2, h⟩ := He.ba h
  obtain ⟨h3, h⟩ := He.ba h
  obtain ⟨h4, h⟩ := He.ba h
  obtain ⟨h5, h6⟩ := He.ba h
  refine ⟨h1, He.eqO_ok h2, h3, ?_, Option.isSome_iff_exists.mp h5, Option.isSome_iff_exists.mp h6⟩
  split at h4
  · rename_i e
    exact ⟨none, e, .inl rfl⟩
  · rename_i a e
    exact ⟨_, e, .inr ⟨a, rfl⟩⟩
  · cases h4
def ownR (K : PySem.W.Frag) (C : Addr) (op : Operator) (g : Addr) : Bool := PySem.W.selfFirst K C && ((match PySem.W.findIn K (.ref C) (PySem.dunder op.info.2) with
    | some (some (.ref _)) => true
    | _ => false) && (He.eqO (PySem.W.findIn K (.ref C) (dunderR op.info.2)) (some (some (.ref g))) && (PySem.W.isFn K (.ref g) && (decide (PySem.W.subIn K (.ref C) (.type "int") = some false) &&
  ((match PySem.W.findIn K (.type "int") (PySem.dunder op.info.2) with
    | some fo => fo.isSome && !isSeqSlot fo
    | _ => false) && (PySem.W.findIn K (.type "int") (dunderR op.info.2)).isSome)))))
theorem ownR_ok {K : PySem.W.Frag} {C : Addr} {op : Operator} {g : Addr} (h : ownR K C op g = true) : OwnR K C op g := by
  obtain ⟨h1, h⟩ := He.ba h
  obtain ⟨h2, h⟩ := He.ba h
  obtain ⟨h3, h⟩ := He.ba h
  obtain ⟨h4, h⟩ := He.ba h
  obtain ⟨h5, h⟩ := He.ba h
  obtain ⟨h6, h7⟩ := He.ba h
  refine ⟨h1, ?_, He.eqO_ok h3, h4, of_decide_eq_true h5, ?_, Option.isSome_iff_exists.mp h7⟩
  · split at h2
    · rename_i a e
      exact ⟨a, e⟩
    · cases h2
  · split at h6
    · rename_i fo e
      obtain ⟨k1, k2⟩ := He.ba h6
      exact ⟨fo, e, k1, by simpa using k2⟩
    · cases h6
end PW
/-! ### readings of instances, of two and three names, of while -/
namespace PW
open PySem PySem.Spec PyProof.Rows L2
def ParN (i j : Nat) (nx : L2.St → Hp → Prop) (σ : L2.St) (vs : List V) (H : Hp) : Prop := ∃ v w, vs = [v, w] ∧ nx ((σ.set i (some v)).set j (some w)) H
def ParN3 (i j l : Nat) (nx : L2.St → Hp → Prop) (σ : L2.St) (vs : List V) (H : Hp) : Prop := ∃ u v w, vs = [u, v, w] ∧ nx (((σ.set i (some u)).set j (some v)).set l (some w)) H
section
variable {σ τ τ2 τ3 : L2.St} {H : Hp} {Q : VK} {D : Ends} {i j l : Nat} {ta : TA} {a b c : V} {nx : L2.St → Hp → Prop} {K : PySem.W.Frag} {te tv : L2.TE}
instance : Step (tPar i j ta D σ H) (ta σ H fun vs H1 => ParN i j D.nx σ vs H1) := ⟨id⟩
instance [h1 : Put σ i a τ] [h2 : Put τ j b τ2] : Step (ParN i j nx σ [a, b] H) (nx τ2 H) := ⟨fun q => ⟨a, b, rfl, by rw [h1.eq, h2.eq]; exact q⟩⟩
instance : Step (tPar3 i j l ta D σ H) (ta σ H fun vs H1 => ParN3 i j l D.nx σ vs H1) := ⟨id⟩
instance [h1 : Put σ i a τ] [h2 : Put τ j b τ2] [h3 : Put τ2 l c τ3] : Step (ParN3 i j l nx σ [a, b, c] H) (nx τ3 H) := ⟨fun q => ⟨a, b, c, rfl, by rw [h1.eq, h2.eq, h3.eq]; exact q⟩⟩
instance {to : L2.TE} : Step (tBits to σ H Q) (to σ H fun x H1 => ∃ i, x = .int i ∧ Q (.int (Builtin.Int.intBits i : Nat)) H1) := ⟨id⟩
def RevN (K : PySem.W.Frag) (Q : VK) (x : V) (H : Hp) : Prop := ∃ a xs, x = .ref a ∧ SqL K H a xs ∧ ∀ p, H p = none → Q (.ref p) (upd H p (.lst xs.reverse))
instance : Step (tRevL K te σ H Q) (te σ H fun x H1 => RevN K Q x H1) := ⟨id⟩
theorem r_rev {p : Addr} {xs : List V} (h : SqL K H p xs) (q : ∀ r, H r = none → Q (.ref r) (upd H r (.lst xs.reverse))) : RevN K Q (.ref p) H := ⟨p, xs, rfl, h, q⟩
def FldN (K : PySem.W.Frag) (f : Str) (Q : VK) (x : V) (H : Hp) : Prop := ∃ a C dx fs v, x = .ref a ∧ H a = some (.ins C dx fs) ∧ Cls K C ∧ NoAttr K C f ∧ fs.lookup f = some v ∧ Q v H
instance {f : Str} : Step (tFld K te f σ H Q) (te σ H fun x H1 => FldN K f Q x H1) := ⟨id⟩
theorem r_fld {p C dx : Addr} {fs : List (Str × V)} {f : Str} {v : V} (h : H p = some (.ins C dx fs)) (c : Cls K C) (n : NoAttr K C f) (l : fs.lookup f = some v) (q : Q v H) : FldN K f Q (.ref p) H := ⟨p, C, dx, fs, v, rfl, h, c, n, l, q⟩
def SFldN (K : PySem.W.Frag) (f : Str) (nx : L2.St → Hp → Prop) (σ : L2.St) (y x : V) (H : Hp) : Prop := ∃ a C dx fs, x = .ref a ∧ H a = some (.ins C dx fs) ∧ Cls K C ∧ NoAttr K C f ∧ fs.length < 1000 ∧ nx σ (upd H a (.ins C dx (putF f y fs)))
instance {f : Str} : Step (sFld K te tv f D σ H) (tv σ H fun y H1 => te σ H1 fun x H2 => SFldN K f D.nx σ y x H2) := ⟨id⟩
theorem r_sfld {p C dx : Addr} {fs : List (Str × V)} {f : Str} {y : V} (h : H p = some (.ins C dx fs)) (c : Cls K C) (n : NoAttr K C f) (l : fs.length < 1000) (q : nx σ (upd H p (.ins C dx (putF f y fs)))) : SFldN K f nx σ y (.ref p) H := ⟨p, C, dx, fs, rfl, h, c, n, l, q⟩
def MethN (C : Addr) (m : Str) (sp : Sp) (dvs : List V) (E : XK) (t : TA) (σ : L2.St) (Q : VK) (x : V) (H : Hp) : Prop := ∃ a dx fs, x = .ref a ∧ H a = some (.ins C dx fs) ∧ fs.lookup m = none ∧ t σ H fun vs H2 => sp (x :: (vs ++ dvs)) H2 Q E
instance {C : Addr} {m : Str} {sp : Sp} {dvs : List V} {E : XK} {t : TA} : Step (tMeth C m sp dvs E te t σ H Q) (te σ H fun x H1 => MethN C m sp dvs E t σ Q x H1) := ⟨id⟩
theorem r_methC {p C dx : Addr} {m : Str} {fs : List (Str × V)} {sp : Sp} {dvs : List V} {E : XK} {t : TA} (h : H p = some (.ins C dx fs)) (l : fs.lookup m = none) (q : t σ H fun vs H2 => sp (.ref p :: (vs ++ dvs)) H2 Q E) : MethN C m sp dvs E t σ Q (.ref p) H := ⟨p, dx, fs, rfl, h, l, q⟩
instance {T : String} {r : V → List V → Hp → VK → Prop} : Step (tBM0 K T r te σ H Q) (te σ H fun x H1 => tyV K T x H1 ∧ r x [] H1 Q) := ⟨id⟩
instance {T : String} {r : V → List V → Hp → VK → Prop} {t : TA} : Step (tBM K T r te t σ H Q) (te σ H fun x H1 => tyV K T x H1 ∧ t σ H1 fun xs H2 => r x xs H2 Q) := ⟨id⟩
theorem r_isiO {x : V} {C : Addr} {t : Value} {k : Bool} (h : TyX K H x t) (e : PySem.W.kitOne K t (.ref C) = some k) (q : Q (.bl k) H) : rIsi K [x, .ref C] H Q := ⟨x, .ref C, t, .ref C, k, rfl, .own C, h, e, q⟩
theorem r_isiC {x : V} {C : Addr} {n : String} {k : Bool} (h : TyX K H x (.ref C)) (e : PySem.W.kitOne K (.ref C) (.type n) = some k) (q : Q (.bl k) H) : rIsi K [x, .ty n] H Q := ⟨x, .ty n, .ref C, .type n, k, rfl, .ty n, h, e, q⟩
theorem ty_ins {p C dx : Addr} {fs : List (Str × V)} (i : C8.InsC K C) (h : H p = some (.ins C dx fs)) : TyX K H (.ref p) (.ref C) := .base (.ins h i.cl i.ha i.hn i.htk i.hm)
end
/-- while, by a word of a measure and the state -/
theorem while_it {c : TT} {tb : TS} {D : Ends} {σ : L2.St} {H : Hp} (Pv : Nat → L2.St → Hp → Prop) {m0 : Nat} (h0 : Pv m0 σ H)
    (hs : ∀ m σ H, Pv m σ H → c σ H fun b H1 => if b = true then ∃ N : L2.St → Hp → Prop, (∀ σ' H', N σ' H' → ∃ m', m' < m ∧ Pv m' σ' H') ∧ tb { D with nx := N, ct := N, bk := D.nx } σ H1 else D.nx σ H1) : tWhile c tb D σ H := ⟨Pv, ⟨m0, h0⟩, hs⟩
/-- .. a turn is taken -/
theorem r_turn {Pv : Nat → L2.St → Hp → Prop} {tb : TS} {D : Ends} {σ : L2.St} {H : Hp} {m : Nat} (h : tb { D with nx := fun σ' H' => ∃ m', m' < m ∧ Pv m' σ' H', ct := fun σ' H' => ∃ m', m' < m ∧ Pv m' σ' H', bk := D.nx } σ H) :
    ∃ N : L2.St → Hp → Prop, (∀ σ' H', N σ' H' → ∃ m', m' < m ∧ Pv m' σ' H') ∧ tb { D with nx := N, ct := N, bk := D.nx } σ H := ⟨fun σ' H' => ∃ m', m' < m ∧ Pv m' σ' H', fun _ _ h => h, h⟩
end PW
namespace PW
open PySem PySem.Spec PyProof.Rows L2
section
variable {H : Hp} {Q : VK} {K : PySem.W.Frag} {p b : Addr} {xs zs : List V} {y : V} {i : Int} {R : Prop}
theorem r_tyL (h : SqL K H p xs) (q : R) : tyV K "list" (.ref p) H ∧ R := ⟨Or.inl ⟨rfl, xs, h⟩, q⟩
theorem r_append (h : H p = some (.lst xs)) (l : xs.length < sizeLine) (q : Q .non (upd H p (.lst (xs ++ [y])))) : rAppend (.ref p) [y] H Q := ⟨p, xs, y, rfl, rfl, h, l, q⟩
theorem r_pop (h : H p = some (.lst xs)) (e : xs[xs.length - 1]? = some y) (q : Q y (upd H p (.lst xs.dropLast))) : rPop (.ref p) [] H Q := ⟨p, xs, y, rfl, rfl, h, e, q⟩
theorem r_insert (h : H p = some (.lst xs)) (l : xs.length < sizeLine) (h0 : 0 ≤ i) (h1 : i < 2 ^ 63) (q : Q .non (upd H p (.lst (xs.take i.toNat ++ [y] ++ xs.drop i.toNat)))) :
    ∃ (l : Addr) (ys : List V) (j : Int) (z : V), V.ref p = .ref l ∧ [V.int i, y] = [.int j, z] ∧ H l = some (.lst ys) ∧ ys.length < sizeLine ∧ 0 ≤ j ∧ j < 2 ^ 63 ∧ Q .non (upd H l (.lst (ys.take j.toNat ++ [z] ++ ys.drop j.toNat))) := ⟨p, xs, i, y, rfl, rfl, h, l, h0, h1, q⟩
theorem r_cat (h : H p = some (.lst xs)) (h2 : H b = some (.lst zs)) (l : xs.length + zs.length ≤ sizeLine) (q : ∀ r, H r = none → Q (.ref r) (upd H r (.lst (xs ++ zs)))) : rCat (.ref p) (.ref b) H Q := ⟨p, b, xs, zs, rfl, rfl, h, h2, l, q⟩
theorem r_sum {ns : List Int} (h : SqL K H p (ns.map V.int)) (q : Q (.int ns.sum) H) : rSum K [.ref p] H Q := ⟨p, ns, rfl, h, q⟩
end
end PW
namespace PW
open PySem PySem.Spec PyProof.Rows L2
theorem Ex.tupN {K : PySem.W.Frag} {p r : Addr} {o : HO} {H : Hp} {xs : List V} (h : H r = none) (q : SqT K H p xs) : SqT K (L2.upd H r o) p xs := (Ex.new h).tup q
theorem Ex.lstN {K : PySem.W.Frag} {p r : Addr} {o : HO} {H : Hp} {xs : List V} (h : H r = none) (q : SqL K H p xs) : SqL K (L2.upd H r o) p xs := (Ex.new h).lst q
end PW
namespace PW
open PySem PySem.Spec PyProof.Rows L2
theorem cx_K {CX : CXT} {P : Program} {w : World} {K : PySem.W.Frag} {mg : Str → Option Value} {base : Heap} {N : List Str} {qual : Str} {scope : Scope} {f : Addr} {cdv : Value} {A : Around} {outer : List Env} {s : Shared} {H : Hp} {E : XK} : (cxOf CX P w K mg base N qual scope f cdv A outer s H E).K = K := rfl
theorem nox_K {CX : CXT} {P : Program} {w : World} {K : PySem.W.Frag} {mg : Str → Option Value} {base : Heap} {N : List Str} {qual : Str} {scope : Scope} {f : Addr} {cdv : Value} {A : Around} {outer : List Env} {s : Shared} {H : Hp} {E : XK} : (cxOf CX P w K mg base N qual scope f cdv A outer s H E).nox.K = K := rfl
end PW
namespace PW
open PySem PySem.Spec PyProof.Rows L2
section
variable {X : Cx} {K : PySem.W.Frag}
theorem ix_seqK (h : X.K = K) : IxR X (rIx K) := by
  subst h
  exact ix_seq
theorem ix_listK (h : X.K = K) : IxR X (rIxL K) := by
  subst h
  exact ix_list
theorem ix_tupK (h : X.K = K) : IxR X (rIxT K) := by
  subst h
  exact ix_tup
end
end PW
namespace PW
open PySem PySem.Spec PyProof.Rows L2
theorem r_forP {J : It} {g : TG} {tb : TS} {D : Ends} {σ : L2.St} {H : Hp} (P : L2.St → Hp → Prop) (hq : ∀ σ' H', P σ' H' → D.nx σ' H') (h : ∀ N : L2.St → Hp → Prop, (∀ σ' H', P σ' H' → N σ' H') → ForW J g tb { D with nx := N } σ H) : ForW J g tb D σ H := h D.nx hq
theorem r_ifSP {t : TT} {s1 s2 : TS} {D : Ends} {σ : L2.St} {H : Hp} (P : L2.St → Hp → Prop) (hq : ∀ σ' H', P σ' H' → D.nx σ' H') (h : ∀ N : L2.St → Hp → Prop, (∀ σ' H', P σ' H' → N σ' H') → tIfS t s1 s2 { D with nx := N } σ H) : tIfS t s1 s2 D σ H := h D.nx hq
end PW
/-! ### own errors over ValueError, LookupError, IndexError: their built-in base -/
namespace PySem.W
open PySem PySem.Calls PyProof.Rows PySem.HandSPX
inductive EK where
  | ve
  | le
  | ie
namespace EK
def nm : EK → String
  | ve => "ValueError"
  | le => "LookupError"
  | ie => "IndexError"
def newId : EK → String
  | ve => "ValueError.__new__"
  | le => "LookupError.__new__"
  | ie => "IndexError.__new__"
def ini : EK → String
  | ve => "ValueError.__init__"
  | le => "LookupError.__init__"
  | ie => "IndexError.__init__"
def tail : EK → List Value
  | ve => [.type "ValueError", .type "Exception", .type "BaseException", .type "object"]
  | le => [.type "LookupError", .type "Exception", .type "BaseException", .type "object"]
  | ie => [.type "IndexError", .type "LookupError", .type "Exception", .type "BaseException", .type "object"]
theorem base : ∀ eb : EK, ExcBaseFacts eb.nm eb.newId eb.ini eb.tail
  | ve => F.excBase_ValueError
  | le => F.excBase_LookupError
  | ie => F.excBase_IndexError
theorem store : ∀ eb : EK, StoreFacts eb.nm eb.tail "object.__setattr__" "object"
  | ve => F.store_ValueError
  | le => F.store_LookupError
  | ie => F.store_IndexError
theorem kxs : ∀ eb : EK, KxsFacts eb.nm eb.ini
  | ve => kxs_ValueError
  | le => kxs_LookupError
  | ie => kxs_IndexError
end EK
/-- what the written part says of an own error's class over the built-in b -/
structure OexG (eb : EK) (K : Frag) (C : Addr) : Prop where
  cls : ∃ nm q N bs bm sn sub ab col dd k0 k1 k2 k3 k5, K.lookup C = some (excClassObj nm q C N bs bm true sn sub ab col dd k0 k1 k2 k3 k5 eb.newId) ∧ excTail eb.tail bm = true
  sa : findIn K (.ref C) "__setattr__" = some (some (.builtin "object.__setattr__"))
  exC : subIn K (.ref C) (.type "BaseException") = some true
  tyC : typeIn K (.ref C) = some (.type "type")
  kC : keepIn K (.ref C) = true
section
variable {prog : Program} {w : World} {A : Around} {R : Result → Shared → Prop} {hp : Heap} {g : Array GenState} {d : Drawn} {t : Nat} {os : OsState} {eb : EK} {K : Frag} {name : Str} {tk : Tok} {v : Value} {x C : Addr} {cd : ClassData} {bm : List Value}
theorem taker_no (ha : findIn K (.ref C) name = some none) : takerIn K C name = some none := by
  unfold takerIn
  rw [ha]
  rfl
theorem over_of (hcd : clsIn K C = some cd) (hm : cd.mro = .ref C :: bm) (ht : excTail eb.tail bm = true) : excOver K C eb.tail = true := by
  unfold excOver
  rw [hcd, Option.any_some, hm]
  simp only [beq_self_eq_true, Bool.true_and]
  exact ht
/-- a first field: the error's dict is made -/
theorem osaG_new {t1 : Addr} (X : K.In hp) (hx : hp.get? x = some (excO C t1)) (hcd : clsIn K C = some cd) (hm : cd.mro = .ref C :: bm) (ht : excTail eb.tail bm = true) (hh : cd.hasDict = true) (ha : findIn K (.ref C) name = some none)
    (hq : ∀ (h' : Heap) (tk' dx : Nat), (∀ b o, b ≠ x → hp.get? b = some o → h'.get? b = some o) → hp.objs.size ≤ dx → dx ≠ x → h'.get? x = some { cls := .ref C, dict := some dx, data := .fields #[.ref t1, .none, .none, .none, .bool false, .none] } →
      h'.Ns1 dx (fun y => if y = name then some v else none) → R (.ok (.ret .none)) ⟨h', g, d, tk', os⟩) :
    codeAny (model prog w) A (.call (.builtin "object.__setattr__") ⟨[.ref x, .str name tk, v], []⟩) R ⟨hp, g, d, t, os⟩ := by
  have ne : x ≠ hp.objs.size := Nat.ne_of_lt (Heap.lt_size hx)
  refine osa_openX (s := ⟨hp, g, d, t, os⟩) (ox := excO C t1) (od := none) eb.store X ⟨hx, rfl, rfl, trivial⟩ (over_of hcd hm ht) (taker_no ha) fun bb => ?_
  refine wpAny_bind (wpAny_pure (wpAny_bind (instanceDict_exc (s := ⟨hp, g, d, t, os⟩) (t := t1) (c2 := .none) hx (looks_clsIn X hcd) hh ?_)))
  show wpAny _ _ (Builtin.ObjectAttr.storeInDict hp.objs.size (.str name tk) name v) _ _ _
  refine PySem.PX.store_in_new ⟨_, #[], _, (Heap.get?_update_ne _ _ _ _ ne.symm).trans (Heap.get?_push_at rfl rfl), rfl, fun e he => absurd he (by simp), fun _ => rfl⟩ fun h' tk' hn' hs => ?_
  have hx2 : (hp.push (dictOf [] 0)).get? x = some (excO C t1) := Heap.get?_push_of_some _ hx
  refine hq h' tk' hp.objs.size (fun c o hc ho => ?_) (Nat.le_refl _) ne.symm ((hs.2 x ne).trans (Heap.get?_update_self _ hx2 rfl)) hn'
  exact (hs.2 c (Nat.ne_of_lt (Heap.lt_size ho))).trans ((Heap.get?_update_ne _ _ _ _ hc).trans (Heap.get?_push_of_some _ ho))
/-- a later field -/
theorem osaG_old {dx : Addr} {fv : Array Value} {m0 : Str → Option Value} {nl : List Str} (X : K.In hp) (hx : hp.get? x = some { cls := .ref C, dict := some dx, data := .fields fv }) (hns : hp.Ns1 dx m0) (hw : Within m0 nl) (hz : nl.length ≤ 1000)
    (hcd : clsIn K C = some cd) (hm : cd.mro = .ref C :: bm) (ht : excTail eb.tail bm = true) (hh : cd.hasDict = true) (ha : findIn K (.ref C) name = some none)
    (hq : ∀ (h' : Heap) (tk' : Nat), (∀ b o, b ≠ dx → hp.get? b = some o → h'.get? b = some o) → h'.Ns1 dx (fun y => if y = name then some v else m0 y) → R (.ok (.ret .none)) ⟨h', g, d, tk', os⟩) :
    codeAny (model prog w) A (.call (.builtin "object.__setattr__") ⟨[.ref x, .str name tk, v], []⟩) R ⟨hp, g, d, t, os⟩ := by
  obtain ⟨oD, esD, epD, hoD, hdD, _⟩ := hns.count hw
  refine osa_openX (s := ⟨hp, g, d, t, os⟩) (ox := { cls := .ref C, dict := some dx, data := .fields fv }) (od := some oD) eb.store X ⟨hx, rfl, rfl, hoD⟩ (over_of hcd hm ht) (taker_no ha) fun bb => ?_
  refine wpAny_bind (wpAny_pure (wpAny_bind (wpAny_bind (wpAny_loadPart hx (wpAny_bind ((looks_clsIn X hcd).here ?_))))))
  rw [hh]
  refine wpAny_pure (a := some dx) ?_
  show wpAny _ _ (Builtin.ObjectAttr.storeInDict dx (.str name tk) name v) _ _ _
  exact PySem.PX.store_in_old hns hw hz fun h' tk' hn' hs => hq h' tk' (fun c o hc ho => (hs.2 c hc).trans ho) hn'
end
end PySem.W
/-! ### own errors whose __init__ says super().__init__(), made -/
namespace PySem.W
open PySem PySem.Calls PyProof.Rows PySem.HandSPX
section
variable {prog : Program} {w : World} {A : Around} {E : Value → Shared → Prop} {h : Heap} {g : Array GenState} {d : Drawn} {t : Nat} {os : OsState}
variable {nm q : Str} {C N : Addr} {bs bm : List Value} {hdct : Bool} {sn : List Str} {sub : List Value} {ab : Bool} {col : Option Bool} {dd : Option Addr} {k0 k1 k2 k3 k5 : Option Value}
/-- the bound ValueError.__init__ called with nothing -/
theorem call_mwV (eb : EK) {u e t0 : Addr} {Q : Value → Shared → Prop} (hC : h.get? C = some (excClassObj nm q C N bs bm hdct sn sub ab col dd k0 k1 k2 k3 k5 eb.newId)) (he : h.get? e = some (excO C t0)) (hu : h.get? u = some (kxs_mw eb.ini e))
    (hq : ∀ h' t1, (∀ b o, b ≠ e → h.get? b = some o → h'.get? b = some o) → h'.get? e = some (excO C t1) → Q .none ⟨h', g, d, t, os⟩) : wpAny (model prog w) A (call (.ref u) []) Q E ⟨h, g, d, t, os⟩ := by
  have hmw : (Value.type "method-wrapper" == Value.type "method" || Value.type "method-wrapper" == Value.type "builtin_function_or_method" || Value.type "method-wrapper" == Value.type "method-wrapper") = true := by decide
  refine wpAny_call (codeAny_of_tree (show wpAny (model prog w) A.in1 (callAny (.ref u) ⟨[], []⟩) _ _ _ from ?_))
  simp only [callAny]
  refine wpAny_bind (wpAny_load hu ?_)
  simp only [kxs_mw, hmw, if_true]
  refine KFB.if_so (by decide) (wpAny_bind (ESX.check_bound eb.base hC he rfl (wpAny_bind (wpAny_pure (wpAny_pure ?_)))))
  refine ⟨plainId_quiet eb.base.init.plain _, codeAny_builtin eb.base.initEntry ?_⟩
  rw [Around.under_plainId eb.base.init.plain _]
  wp_walk
  exact hq _ h.objs.size (fun b o nb ob => (Heap.get?_update_other _ _ (Ne.symm nb)).trans (Heap.get?_push_of_some _ ob)) ((Heap.get?_update_self _ (Heap.get?_push_of_some _ he) rfl).trans rfl)
end
/-- what the written part says of the __init__ at fI of the class at C: super().__init__(); self.tag = ..; (self.x = x) -/
structure InitFn (eb : EK) (K : Frag) (prog : Program) (C fI : Addr) (qual : Str) (params : Arguments) (body : List Stmt) (scope : Scope) : Prop where
  ex : ∃ (oc kV doc pm ct : Value) (od an : Option Addr) (osl : Array (Option Value)) (cc cda : Addr) (ccl cl : Value) (cdd cld : Option Addr) (vs : Array Value) (ccs csl : Array (Option Value)) (file : Str) (tf : Tok),
    K.lookup fI = some ⟨oc, od, .func (ksFn "__init__" qual params body scope .none kV doc pm an (.ref cda) ct cc), osl⟩ ∧ codeIn K (.ref cda) qual = true ∧ K.lookup cda = some ⟨ccl, cdd, .fields vs, ccs⟩ ∧ vs[2]? = some (.str file tf) ∧
      ((prog.main.file : Str) == file) = true ∧ K.lookup cc = some ⟨cl, cld, .cell (some (.ref C)), csl⟩
  sup : nsIn K mainGlobals "super" = some none
  top : (prog.main.scope.names.lookup ("super" : Str)).isSome = false
  any : nsIn K cStatics "thirdparty.any" = some none
  mro : ks_superIn K C C "__init__" = some (some (.builtin eb.ini))
  sub : mroIn K C (.ref C) = some true
  ve : subIn K (.ref C) (.type eb.nm) = some true
section
variable {eb : EK} {prog : Program} {w : World} {A : Around} {s : Shared} {K : Frag} {C fI : Addr} {qual : Str} {params : Arguments} {body : List Stmt} {scope : Scope} {mg mb : Str → Option Value}
/-- the end of an __init__: x has its dict -/
structure InitEnd (h h' : Heap) (x C dx t1 : Addr) (m : Str → Option Value) : Prop where
  keep : ∀ b o, b ≠ x → h.get? b = some o → h'.get? b = some o
  obj : h'.get? x = some { cls := .ref C, dict := some dx, data := .fields #[.ref t1, .none, .none, .none, .bool false, .none] }
  dbig : h.objs.size ≤ dx
  dne : dx ≠ x
  ns : h'.Ns1 dx m
theorem init_run (T : OexG eb K C) (F : InitFn eb K prog C fI qual params body scope) {R : Result → Shared → Prop} {x t0 : Addr} {args : List Value} {binds : List (Str × Value)} (X : K.In s.heap) (hg : s.heap.Ns mainGlobals mg) (hb : s.heap.Ns builtinsNs mb) (hbs : mb "super" = some (.type "super"))
    (hlim : s.heap.NoLimit) (hx : s.heap.get? x = some (excO C t0)) (hroom : A.depth < recursionLimit)
    (hbind : ∀ (oc kV doc pm ct : Value) (an : Option Addr) (cc cda : Addr), BindsTo s (ksFn "__init__" qual params body scope .none kV doc pm an (.ref cda) ct cc) ⟨.ref x :: args, []⟩ binds)
    (hcell : ∀ y ∈ scope.names, y.2 ≠ .cell) (hloc : ∀ y ∈ binds, scope.names.lookup y.1 = some .local)
    (hco : scope.isCoroutine = false) (hgen : scope.isGenerator = false) (hk : scope.kind = .function)
    {p0 p1 p2 p3 p4 : Pos} {rest : List Stmt} {ar : Arg} {pl : Env → Sem Bool} (hmg : mg "super" = none) (hi : ∀ L cda cc, interactive (ksEnv qual scope L fI (.ref cda) cc) = false)
    (he : ∀ env : Env, eval (.Call (.Attribute (.Call (.Name "super" p0) [] [] p1) "__init__" p2) [] [] p3) env = (do
      let ov ← attributeBase (.Call (.Name "super" p0) [] [] p1) "__init__" env (eval (.Call (.Name "super" p0) [] [] p1) env)
      standAt p2.atName
      let (f, first) ← holding [ov] (getMethod ov "__init__" (pl env))
      callWith p3 f first (backTo p3 (starEach [] env)) [])) (hsw : ∀ env : Env, swapsWith (.Call (.Attribute (.Call (.Name "super" p0) [] [] p1) "__init__" p2) [] [] p3) none p4.line env = pure false)
    (hbody : body = .Expr (.Call (.Attribute (.Call (.Name "super" p0) [] [] p1) "__init__" p2) [] [] p3) p4 :: rest)
    (hp : (params.posonlyargs ++ params.args).head? = some ar) (hself : binds.reverse.lookup ar.arg = some (.ref x)) (hks : scope.names.lookup ("super" : Str) = some .globalImplicit) (hkc : scope.names.lookup ("__class__" : Str) = some .free) (hka : scope.names.lookup ar.arg = some .local)
    (h : ∀ (L cda cc : Addr) (s1 : Shared) (t1 : Addr), s1.os = s.os → s1.gens = s.gens → s1.drawn = s.drawn → s1.heap.Ns L (fun y => binds.reverse.lookup y) → s.heap.objs.size ≤ L → (∀ b o, b ≠ x → s.heap.get? b = some o → s1.heap.get? b = some o) → s1.heap.get? x = some (excO C t1) →
      wpAny (model prog w) (A.deeper (ksEnv qual scope L fI (.ref cda) cc)) (execs rest (ksEnv qual scope L fI (.ref cda) cc)) (fun f s' => R (.ok (.ret (match f with | .ret v => v | _ => .none))) s')
        (fun e s' => wpAny (model prog w) (A.deeper (ksEnv qual scope L fI (.ref cda) cc)) (leaving (ksEnv qual scope L fI (.ref cda) cc) e) (fun _ s'' => R (.error e) s'') (fun e' s'' => R (.error e') s'') s') s1) :
    codeAny (model prog w) A (.call (.ref fI) ⟨.ref x :: args, []⟩) R s := by
  obtain ⟨oc, kV, doc, pm, ct, od, an, osl, cc, cda, ccl, cl, cdd, cld, vs, ccs, csl, file, tf, lk, hcd, lc, hvs, hfile, lcc⟩ := F.ex
  obtain ⟨nm, q, N, bs, bm, sn, sub, ab, col, dd, k0, k1, k2, k3, k5, hC, hbm⟩ := T.cls
  have hcl : clsIn K C = some { name := nm, bases := bs, mro := .ref C :: bm, ns := N, qualname := q, hasDict := true, slotNames := sn, subclasses := sub, abstract := ab, collection := col, hasDel := false } := by unfold clsIn; rw [hC] <;> rfl
  refine ks_codeAny_call_defAt (fd := ksFn "__init__" qual params body scope .none kV doc pm an (.ref cda) ct cc) (body := body) (binds := binds) hroom (X _ _ lk) rfl hlim (codeRec_of X hcd) rfl (hbind oc kV doc pm ct an cc cda) hcell hloc (fun h₁ hns kp => ?_) hco hgen hk
  subst hbody
  have X1 : K.In h₁ := X.keeps kp
  have hx1 := kp _ _ hx
  have xL : s.heap.objs.size ≠ x := Nat.ne_of_gt (Heap.lt_size hx)
  have xC : x ≠ C := fun z => by
    have z1 := X _ _ hC
    rw [← z, hx] at z1
    cases z1
  obtain ⟨hh, g, d, t, os⟩ := s
  refine ks_wpAt_execs_cons (ks_wpAt_Expr_any (ks_wpAt_MethodCall (pl := pl (ksEnv qual scope hh.objs.size fI (.ref cda) cc)) ?_ (he _)) (hi _ _ _) (hsw _))
  refine ks_wpAt_super_base (env := ksEnv qual scope hh.objs.size fI (.ref cda) cc) hks hkc rfl rfl (X1 _ _ lk) rfl hp rfl (X1 _ _ lc) rfl hvs hfile F.top ?_
  refine ks_loadName_global hk hks (loadGlobal_builtin (env := ksEnv qual scope hh.objs.size fI (.ref cda) cc) (hg.keeps kp) hmg (hb.keeps kp) hbs ⟨rfl, ?_⟩)
  refine wpAny_loadName_free hk hkc rfl ⟨_, X1 _ _ lcc, rfl⟩ (wpAny_loadName_local hk hka hns hself ?_)
  refine ks_wpAny_isType_cls (X1 _ _ hC) rfl ⟨rfl, ?_⟩
  refine ks_wpAny_call_super (X1 _ _ hC) rfl hx1 rfl (fun c e => by cases e) (looks_mroIn X1 F.sub) (fun h2 e2 k2 => ?_)
  have X2 : K.In h2 := X1.keeps k2
  have I2 : InstAt h2 x (excO C t0) C none := ⟨k2 _ _ hx1, rfl, rfl, trivial⟩
  have hmro := F.mro
  unfold ks_superIn at hmro
  rw [hcl] at hmro
  refine kxs_getMethod eb.kxs e2 (looks_opaque X2 F.any) (l₀ := .ref C :: bm) (fun A Q E s k q => wpAny_bind ((looks_clsIn X2 hcl) A _ E s k (wpAny_pure q))) rfl X2 hmro (I2.type.andThen (looks_subIn X2 F.ve)) xC rfl ?_
  have k3 : ∀ b o, h2.get? b = some o → (h2.push (kxs_mw eb.ini x)).get? b = some o := fun b o e => Heap.get?_push_of_some _ e
  refine kxs_callWith (i := eb.ini) (x := x) rfl (evalArgs_empty ⟨Heap.get?_push_at rfl rfl, ?_⟩)
  refine call_mwV eb (k3 _ _ (X2 _ _ hC)) (k3 _ _ (k2 _ _ hx1)) (Heap.get?_push_at rfl rfl) fun h4 t1 k4 hx4 => ?_
  have kk : ∀ b o, b ≠ x → h₁.get? b = some o → h4.get? b = some o := fun b o nb e => k4 b o nb (k3 b o (k2 b o e))
  refine wpAt_of_wpAny (h hh.objs.size cda cc ⟨h4, g, d, _, os⟩ t1 rfl rfl rfl ?_ (Nat.le_refl _) (fun b o nb e => kk b o nb (kp b o e)) hx4)
  exact hns.at fun o e => kk _ o xL e
theorem in_but {K : Frag} {h h' : Heap} {x : Addr} (X : K.In h) (hx : K.lookup x = none) (k : ∀ b o, b ≠ x → h.get? b = some o → h'.get? b = some o) : K.In h' := fun a o e => k a o (fun z => by
  rw [z, hx] at e
  cases e) (X a o e)
/-- self.tag = t; self.f = f -/
theorem init1_run (T : OexG eb K C) {R : Result → Shared → Prop} {A' : Around} {L cda cc x t1 : Addr} {m : Str → Option Value} {tag fld : Str} {v : Value} {q1 q2 q3 q4 r1 r2 r3 r4 : Pos} {j : Nat} {EE : Value → Shared → Prop} (X : K.In s.heap) (hn : s.heap.Ns L m) (hms : m "self" = some (.ref x)) (hmv : m fld = some v)
    (hx : s.heap.get? x = some (excO C t1)) (xK : K.lookup x = none) (hxL : L ≠ x) (hk : scope.kind = .function) (hl1 : scope.names.lookup ("self" : Str) = some .local) (hl2 : scope.names.lookup fld = some .local) (hd2 : (fld == ("__debug__" : Str)) = false) (n1 : findIn K (.ref C) "tag" = some none) (n2 : findIn K (.ref C) fld = some none)
    (h : ∀ (h' : Heap) (tk dx : Nat) (tu : Tok), InitEnd s.heap h' x C dx t1 (fun y => if y = fld then some v else if y = "tag" then some (.str tag tu) else none) → R (.ok (.ret .none)) { s with heap := h', toks := tk }) :
    wpAny (model prog w) A' (execs [.Assign [.Attribute (.Name "self" q1) "tag" q2] (.Constant (.str tag) j q3) q4, .Assign [.Attribute (.Name "self" r1) fld r2] (.Name fld r3) r4] (ksEnv qual scope L fI (.ref cda) cc)) (fun f s' => R (.ok (.ret (match f with | .ret v => v | _ => .none))) s') EE s := by
  obtain ⟨nm, q, N, bs, bm, sn, sub, ab, col, dd, k0, k1, k2, k3, k5, hC, hbm⟩ := T.cls
  have hcl : clsIn K C = some { name := nm, bases := bs, mro := .ref C :: bm, ns := N, qualname := q, hasDict := true, slotNames := sn, subclasses := sub, abstract := ab, collection := col, hasDel := false } := by unfold clsIn; rw [hC] <;> rfl
  refine wpAny_execs_cons (plainObj_wpAny_Assign_Attribute (wpAny_Constant_str (wpAny_Name (wpAny_loadName_local hk hl1 hn hms ?_) (by decide))))
  obtain ⟨hp, g, d, t, os⟩ := s
  refine set_plain (s := ⟨hp, g, d, t + 1, os⟩) X (ox := excO C t1) (od := none) ⟨hx, rfl, rfl, trivial⟩ T.sa ?_
  refine osaG_new X hx hcl rfl hbm rfl n1 (fun h3 tk3 dx kp dn dne hx3 hn3 => ?_)
  have X3 : K.In h3 := in_but X xK kp
  have hn4 : h3.Ns L m := hn.at fun o e => kp _ o hxL e
  show wpAny _ _ (execs _ _) _ _ ⟨h3, g, d, tk3, os⟩
  refine wpAny_execs_cons (plainObj_wpAny_Assign_Attribute (wpAny_Name (wpAny_loadName_local hk hl2 hn4 hmv (wpAny_Name (wpAny_loadName_local hk hl1 hn4 hms ?_) (by decide))) hd2))
  obtain ⟨oD, esD, epD, hoD, hdD, hcD⟩ := id hn3
  refine set_plain (s := ⟨h3, g, d, tk3, os⟩) X3 (ox := { cls := .ref C, dict := some dx, data := .fields #[.ref t1, .none, .none, .none, .bool false, .none] }) (od := some oD) ⟨hx3, rfl, rfl, hoD⟩ T.sa ?_
  refine osaG_old (nl := ["tag"]) X3 hx3 hn3 (Within.cons "tag" _ Within.nil) (by decide) hcl rfl hbm rfl n2 (fun h5 tk5 kp5 hn5 => ?_)
  show wpAny _ _ (execs _ _) _ _ ⟨h5, g, d, tk5, os⟩
  refine wpAny_execs_nil (h h5 tk5 dx _ ⟨fun b o nb e => kp5 b o (Nat.ne_of_lt (Nat.lt_of_lt_of_le (Heap.lt_size e) dn)) (kp b o nb e), kp5 _ _ dne.symm hx3, dn, dne, hn5⟩)
/-- self.tag = t -/
theorem init0_run (T : OexG eb K C) {R : Result → Shared → Prop} {A' : Around} {L cda cc x t1 : Addr} {m : Str → Option Value} {tag : Str} {q1 q2 q3 q4 : Pos} {j : Nat} {EE : Value → Shared → Prop} (X : K.In s.heap) (hn : s.heap.Ns L m) (hms : m "self" = some (.ref x))
    (hx : s.heap.get? x = some (excO C t1)) (hk : scope.kind = .function) (hl1 : scope.names.lookup ("self" : Str) = some .local) (n1 : findIn K (.ref C) "tag" = some none)
    (h : ∀ (h' : Heap) (tk dx : Nat) (tu : Tok), InitEnd s.heap h' x C dx t1 (fun y => if y = "tag" then some (.str tag tu) else none) → R (.ok (.ret .none)) { s with heap := h', toks := tk }) :
    wpAny (model prog w) A' (execs [.Assign [.Attribute (.Name "self" q1) "tag" q2] (.Constant (.str tag) j q3) q4] (ksEnv qual scope L fI (.ref cda) cc)) (fun f s' => R (.ok (.ret (match f with | .ret v => v | _ => .none))) s') EE s := by
  obtain ⟨nm, q, N, bs, bm, sn, sub, ab, col, dd, k0, k1, k2, k3, k5, hC, hbm⟩ := T.cls
  have hcl : clsIn K C = some { name := nm, bases := bs, mro := .ref C :: bm, ns := N, qualname := q, hasDict := true, slotNames := sn, subclasses := sub, abstract := ab, collection := col, hasDel := false } := by unfold clsIn; rw [hC] <;> rfl
  refine wpAny_execs_cons (plainObj_wpAny_Assign_Attribute (wpAny_Constant_str (wpAny_Name (wpAny_loadName_local hk hl1 hn hms ?_) (by decide))))
  obtain ⟨hp, g, d, t, os⟩ := s
  refine set_plain (s := ⟨hp, g, d, t + 1, os⟩) X (ox := excO C t1) (od := none) ⟨hx, rfl, rfl, trivial⟩ T.sa ?_
  refine osaG_new X hx hcl rfl hbm rfl n1 (fun h3 tk3 dx kp dn dne hx3 hn3 => ?_)
  show wpAny _ _ (execs _ _) _ _ ⟨h3, g, d, tk3, os⟩
  exact wpAny_execs_nil (h h3 tk3 dx _ ⟨kp, hx3, dn, dne, hn3⟩)
/-- a made error -/
structure ExcMade (h h' : Heap) (e C d : Addr) (m : Str → Option Value) : Prop where
  keep : ∀ b o, h.get? b = some o → h'.get? b = some o
  new : h.objs.size ≤ e
  obj : ∃ oe vs, h'.get? e = some oe ∧ oe.cls = .ref C ∧ oe.dict = some d ∧ oe.data = .fields vs ∧ vs[1]? = some .none
  dbig : h.objs.size ≤ d
  dne : d ≠ e
  ns : h'.Ns1 d m
/-- C(..): given what its __init__ does -/
theorem exc_made (T : OexG eb K C) (iC : findIn K (.ref C) "__init__" = some (some (.ref fI))) (tC : typeIn K (.ref fI) = some (.type "function")) {R : Result → Shared → Prop} {args : List Value} (X : K.In s.heap) (hz : args.length ≤ sizeLine)
    {M : (Str → Option Value) → Prop}
    (hinit : ∀ (A' : Around) (h2 : Heap) (x t0 : Addr) (R' : Result → Shared → Prop), A'.depth = A.depth + 1 → (∀ b o, s.heap.get? b = some o → h2.get? b = some o) → K.lookup x = none → h2.get? x = some (excO C t0) →
      (∀ (h' : Heap) (tk dx t1 : Nat) (m : Str → Option Value), M m → InitEnd h2 h' x C dx t1 m → R' (.ok (.ret .none)) ⟨h', s.gens, s.drawn, tk, s.os⟩) → codeAny (model prog w) A' (.call (.ref fI) ⟨.ref x :: args, []⟩) R' ⟨h2, s.gens, s.drawn, s.toks, s.os⟩)
    (hq : ∀ h' tk e d m, M m → ExcMade s.heap h' e C d m → R (.ok (.ret (.ref e))) { s with heap := h', toks := tk }) : codeAny (model prog w) A (.call (.ref C) ⟨args, []⟩) R s := by
  obtain ⟨nm, q, N, bs, bm, sn, sub, ab, col, dd, k0, k1, k2, k3, k5, hC, hbm⟩ := T.cls
  obtain ⟨hp, g, dr, tk, os⟩ := s
  have kp : ∀ b o, hp.get? b = some o → ((hp.push (kdv_tup args)).push (excO C hp.objs.size)).get? b = some o := fun b o e => Heap.get?_push_of_some _ (Heap.get?_push_of_some _ e)
  have hget : ((hp.push (kdv_tup args)).push (excO C hp.objs.size)).get? (hp.objs.size + 1) = some (excO C hp.objs.size) := by heap_get
  have xK : K.lookup (hp.objs.size + 1) = none := by
    cases e : K.lookup (hp.objs.size + 1) with
    | none => rfl
    | some o => exact absurd (Nat.lt_of_succ_lt (Heap.lt_size (show hp.get? (hp.objs.size + 1) = some o from X _ _ e))) (Nat.lt_irrefl _)
  refine call_own eb.base (fun Y => excTail_contains Y bm hbm) (X _ _ hC) (looks_findIn X iC) (fun self => bind_fn X self tC) hz ?_
  refine hinit _ _ _ hp.objs.size _ rfl kp xK hget fun h' tk' dx t1 m hm ⟨k', hx, dn, dne, hns⟩ => ?_
  have old : ∀ b o, hp.get? b = some o → h'.get? b = some o := fun b o e => k' b o (Nat.ne_of_lt (Nat.lt_succ_of_lt (Heap.lt_size e))) (kp b o e)
  have zz : hp.objs.size + 1 + 1 ≤ dx := by
    have z := dn
    rw [Heap.size_push, Heap.size_push] at z
    exact z
  exact ⟨rfl, hq h' tk' (hp.objs.size + 1) dx m hm ⟨old, Nat.le_succ _, ⟨_, _, hx, rfl, rfl, rfl, rfl⟩, Nat.le_trans (Nat.le_trans (Nat.le_succ _) (Nat.le_succ _)) zz, dne, hns⟩⟩
end
end PySem.W
/-! ### own errors in the hand layer -/
namespace PW
open PySem PySem.Spec PyProof.Rows L2
/-- C(v) makes an error of C with tag and field -/
def Makes1 (P : Program) (w : World) (K : PySem.W.Frag) (mg : Str → Option Value) (C : Addr) (tag fld : Str) : Prop :=
  ∀ (A : Around) (s : Shared) (v : Value) (R : Result → Shared → Prop), K.In s.heap → s.heap.Ns mainGlobals mg → (∃ mb, s.heap.Ns builtinsNs mb ∧ ∀ x : Str, x ≠ "__name__" → mb x = bootBuiltins x) → s.heap.NoLimit → A.depth + 1 < recursionLimit →
    (∀ (h' : Heap) (tk e d : Nat) (tu : Tok), PySem.W.ExcMade s.heap h' e C d (fun y => if y = fld then some v else if y = "tag" then some (.str tag tu) else none) → R (.ok (.ret (.ref e))) { s with heap := h', toks := tk }) →
      codeAny (model P w) A (.call (.ref C) ⟨[v], []⟩) R s
/-- C() makes an error of C with its tag -/
def Makes0 (P : Program) (w : World) (K : PySem.W.Frag) (mg : Str → Option Value) (C : Addr) (tag : Str) : Prop :=
  ∀ (A : Around) (s : Shared) (R : Result → Shared → Prop), K.In s.heap → s.heap.Ns mainGlobals mg → (∃ mb, s.heap.Ns builtinsNs mb ∧ ∀ x : Str, x ≠ "__name__" → mb x = bootBuiltins x) → s.heap.NoLimit → A.depth + 1 < recursionLimit →
    (∀ (h' : Heap) (tk e d : Nat) (tu : Tok), PySem.W.ExcMade s.heap h' e C d (fun y => if y = "tag" then some (.str tag tu) else none) → R (.ok (.ret (.ref e))) { s with heap := h', toks := tk }) →
      codeAny (model P w) A (.call (.ref C) ⟨[], []⟩) R s
def tMk1 (C : Addr) (tag fld : Str) (ta : TA) : L2.St → Hp → XK → Prop := fun σ H Q => ta σ H fun vs H1 => ∃ v, vs = [v] ∧ ∀ d, H1 d = none → Q (.ref C) (some d) (upd H1 d (.xd [(fld, v), ("tag", .str tag)]))
def tMk0 (C : Addr) (tag : Str) : L2.St → Hp → XK → Prop := fun σ H Q => ∀ d, H d = none → Q (.ref C) (some d) (upd H d (.xd [("tag", .str tag)]))
section
variable {X : Cx} {C : Addr} {pins : List (Addr × Obj)} {σ : L2.St} {H : Hp} {Q : XK}
/-- what a made error leaves -/
theorem mkP_of {h h' : Heap} {g : Array GenState} {dr : Drawn} {t t' : Nat} {os : OsState} {e d : Addr} {m : Str → Option Value} {fs : List (Str × V)} (I : Inv X pins σ H ⟨h, g, dr, t, os⟩) (M : PySem.W.ExcMade h h' e C d m) (r : ∀ f, RelO (fs.lookup f) (m f)) (hr : Raises X (.ref C)) (q : Q (.ref C) (some d) (upd H d (.xd fs))) :
    MkP X pins σ Q (.ref e) ⟨h', g, dr, t', os⟩ := by
  obtain ⟨oe, fv, hoe, hc, hd, hdat, h1⟩ := M.obj
  obtain ⟨G, g1, g2⟩ := restrict h' fun b => decide (b ≠ e)
  have gk : ∀ b, b ≠ e → G.get? b = h'.get? b := fun b hb => g1 b (decide_eq_true hb)
  have ge : G.get? e = none := g2 e (by simp)
  have old : ∀ b o, h.get? b = some o → G.get? b = some o := fun b o z => (gk b (Nat.ne_of_lt (Nat.lt_of_lt_of_le (Heap.lt_size z) M.new))).trans (M.keep b o z)
  have ob : ObjOk X.prog X.w (upd H d (.xd fs)) G d (.xd fs) := ⟨_, M.ns.at (fun o z => (gk d M.dne).trans z), r⟩
  have J : Inv X pins σ (upd H d (.xd fs)) ⟨G, g, dr, t', os⟩ := I.laid (t' := t') old M.dbig ob
  refine ⟨e, oe, fv, ⟨G, g, dr, t', os⟩, _, .ref C, some d, rfl, J, fun b o z => ?_, ge, hoe, ⟨hc, hd⟩, hdat, h1, (upd_ne (Ne.symm M.dne)).trans (I.hok.fresh M.new), rfl, I.bare, hr, q⟩
  have hb : b ≠ e := fun hb => by
    rw [hb] at z
    rw [show G.get? e = some o from z] at ge
    cases ge
  exact (gk b hb).symm.trans z
section
variable {a : Expr} {ta : TA} {p pos : Pos} {x tag fld : Str} {k : Nat}
theorem pmk1 (M : Makes1 X.prog X.w X.K X.mg C tag fld) (hnf : fld ≠ "tag") (rs : Raises X (.ref C)) (kC : PySem.W.keepIn X.K (.ref C) = true) (gC : X.mg x = some (.ref C)) (hr : Room k X.A) (ha : PA X [a] ta) (hg : Gl X x) (hdb : (x == ("__debug__" : Str)) = false := by decide)
    (he : starEach (a :: []) X.env = (false, eval a X.env) :: starEach [] X.env := by rfl) (hpl : (backTo pos (starEach [] X.env)).any (·.1) = false := by rfl) : PMk X (.Call (.Name x p) [a] [] pos) (tMk1 C tag fld ta) := by
  intro pins s σ H Q I h
  refine wpAny_Call_Name_kw (ld_glob I hg gC ?_ hdb)
  refine PySem.W.callWith_K (h₀ := X.base) I.ok.mod.kin kC (thn (ha.run pos pins s σ H _ I h) fun us s1 hh => ?_) he hpl
  obtain ⟨vs, H1, I1, r1, v, rfl, q1⟩ := hh
  refine ⟨I1.kIn, ?_⟩
  cases r1 with
  | cons rv rn =>
    rename_i v' us'
    cases rn
    obtain ⟨hp, g, dr, tk, os⟩ := s1
    obtain ⟨mb, b1, b2⟩ := I1.mod.blt
    refine wpAny_call (M X.A _ v' _ I1.kIn (I1.mod.glob.keeps I1.bk) ⟨mb, b1.keeps I1.bk, b2⟩ I1.nolimit (by have := hr.dp; omega) fun h' tk' e d tu ME => ?_)
    exact mkP_of I1 ME (relO_put rv (relO_put (y := .str tag) (fs := []) ⟨tu, rfl⟩ fun g => True.intro)) rs (q1 d (I1.hok.fresh ME.dbig))
theorem pmk0 (M : Makes0 X.prog X.w X.K X.mg C tag) (rs : Raises X (.ref C)) (kC : PySem.W.keepIn X.K (.ref C) = true) (gC : X.mg x = some (.ref C)) (hr : Room k X.A) (hg : Gl X x) (hdb : (x == ("__debug__" : Str)) = false := by decide) : PMk X (.Call (.Name x p) [] [] pos) (tMk0 C tag) := by
  intro pins s σ H Q I h
  refine wpAny_Call_Name_kw (ld_glob I hg gC ?_ hdb)
  obtain ⟨hp, g, dr, tk, os⟩ := s
  obtain ⟨mb, b1, b2⟩ := I.mod.blt
  refine PySem.W.callWith_K0 I.kIn kC (wpAny_call (M X.A _ _ I.kIn (I.mod.glob.keeps I.bk) ⟨mb, b1.keeps I.bk, b2⟩ I.nolimit (by have := hr.dp; omega) fun h' tk' e d tu ME => ?_))
  exact mkP_of I ME (relO_put (y := .str tag) (fs := []) ⟨tu, rfl⟩ fun g => True.intro) rs (h d (I.hok.fresh ME.dbig))
end
end
end PW
/-! ### an error caught: from then on it is known by its class and its dict -/
namespace PW
open PySem PySem.Spec PyProof.Rows L2
/-- an error that stands -/
def excE (a : Addr) (cls : Value) (d : Option Addr) : HO := .ext fun h => ∃ oe vs, h.get? a = some oe ∧ Zc cls d oe ∧ oe.data = .fields vs
theorem excE_ok {P : Program} {w : World} {H : Hp} {h : Heap} {a : Addr} {cls : Value} {d : Option Addr} {oe : Obj} {vs : Array Value} (he : h.get? a = some oe) (hz : Zc cls d oe) (hd : oe.data = .fields vs) : ObjOk P w H h a (excE a cls d) :=
  ⟨⟨oe, vs, he, hz, hd⟩, ⟨oe, he⟩, fun _ _ ⟨oe, vs, e1, e2, e3⟩ st => ⟨oe, vs, st _ e1, e2, e3⟩⟩
section
variable {X : Cx} {pins pn' : List (Addr × Obj)} {σ : L2.St} {H : Hp} {s : Shared} {a : Addr}
theorem adopt {cls : Value} {d : Option Addr} {oe : Obj} {vs : Array Value} (I : Inv X pins σ H s) (na : H a = none) (n0 : X.s_0.heap.get? a = none) (he : s.heap.get? a = some oe) (hz : Zc cls d oe) (hd : oe.data = .fields vs) (nL : a ≠ X.env.locals) (np : ∀ p ∈ X.pn ++ pins, p.1 ≠ a) :
    Inv X pins σ (upd H a (excE a cls d)) s := by
  have sm : ∀ {b : Addr} {o : HO}, H b = some o → upd H a (excE a cls d) b = some o := fun {b o} e => (upd_ne (ne_of_none e na)).trans e
  have nn : ∀ {b : Addr}, b ≠ a → H b = none → upd H a (excE a cls d) b = none := fun {b} hb e => (upd_ne hb).trans e
  refine ⟨I.ok, I.os, I.bare, ⟨I.base.keep, I.base.slot, fun b o e n hx => nn (fun z => ?_) (I.base.free b o e n hx), I.base.there, fun b xs e => sm (I.base.tups b xs e), fun b o u e => sm (I.base.frzs b o u e), fun b ps e => ?_⟩, I.loc, I.cell, nn nL.symm I.free, fun x c e => nn (fun z => ?_) (I.freeC x c e), fun p hp => ?_, fun b o e => ?_, I.len⟩
  · rw [z, n0] at e
    cases e
  · obtain ⟨more, z⟩ := I.base.tbls b ps e
    exact ⟨more, sm z⟩
  · obtain ⟨v, o, ho, hc⟩ := I.cell x c e
    rw [z, he] at ho
    cases ho
    rw [hd] at hc
    cases hc
  · obtain ⟨a1, a2, a3⟩ := I.pin p hp
    exact ⟨a1, nn (np p hp) a2, a3⟩
  · by_cases hb : b = a
    · subst hb
      rw [upd_same] at e
      cases e
      exact excE_ok he hz hd
    · rw [upd_ne hb] at e
      exact (I.hok b o e).stay (fun _ _ _ q => q) (fun c q => sm q) fun c xs q => sm q
theorem inE (I : Inv X pins σ H s) : Inv (X.suite a (X.pn ++ pins)) [] σ H s := ⟨I.ok.suite _ _, I.os, I.bare, I.base, I.loc, I.cell, I.free, I.freeC, fun p hp => I.pin p (by rw [List.append_nil] at hp; exact hp), I.hok, I.len⟩
theorem outE (I : Inv (X.suite a (X.pn ++ pins)) pn' σ H s) (ok : X.Ok) : Inv X pins σ H s := ⟨ok, I.os, I.bare, I.base, I.loc, I.cell, I.free, I.freeC, fun p hp => I.pin p (List.mem_append_left _ hp), I.hok, I.len⟩
end
theorem flyZ_keeps {B h h' : Heap} {l : List Env} {e : Addr} {Z : Obj → Prop} (f : PySem.HandSPX.FlyingZ B l e Z h) (k : ∀ b o, h.get? b = some o → h'.get? b = some o) : PySem.HandSPX.FlyingZ B l e Z h' := by
  obtain ⟨f1, f2, f3, oe, vs, T, oT, ts, he, hz, hd, h1, hn, hne, hT, hdT, h3⟩ := f
  exact ⟨fun b o q => k b o (f1 b o q), f2, f3.of_keeps fun b o q _ => ⟨o, k b o q, rfl⟩, oe, vs, T, oT, ts, k _ _ he, hz, hd, h1, hn, hne, k _ _ hT, hdT, h3⟩
/-- what 'except (c1, c2, ..) as n' wishes: the error is one of these -/
def wAsE (K : PySem.W.Frag) (N : List Str) (cs : List Value) (i : Nat) (ts : Addr → Value → Option Addr → TS) (D : Ends) : WX := fun cls d σ H => PySem.W.exmAny K cls cs = some true ∧
  ∀ a, H a = none → σ.length = N.length → ts a cls d { nx := fun σ' H' => D.nx (σ'.set i none) H', rt := D.rt, bk := fun σ' H' => D.bk (σ'.set i none) H', ct := fun σ' H' => D.ct (σ'.set i none) H' } (σ.set i (some (.ref a))) (upd H a (excE a cls d))
section
variable {X : Cx} {x1 x2 x3 n : Str} {c1 c2 c3 : Value} {i kk : Nat} {body suite : List Stmt} {b₀ : Stmt} {p1 p2 p3 pt pos pos' : Pos} {tb : WX → TS} {ts : Addr → Value → Option Addr → TS}
theorem ps_try_e3 (hex : X.ex = []) (hs : X.stack = X.env :: X.outer) (hf : X.env.frame = some X.env.locals) (hN : X.N.Nodup) (hi : X.N[i]? = some n) (hln : X.env.kindOf n = some .local) (hc1 : Names X x1 c1) (hc2 : Names X x2 c2) (hc3 : Names X x3 c3)
    (hb : ∀ (W : WX) (pn : List (Addr × Obj)) (xe : Value → Shared → Prop), Takes (X.tr pn xe) W → PassesOwn (model X.prog X.w) X.A X.env xe → PSs (X.tr pn xe) body (tb W))
    (hsu : ∀ (a : Addr) (cls : Value) (d : Option Addr) (pn : List (Addr × Obj)), PSs (X.suite a pn) (b₀ :: suite) (ts a cls d)) :
    PS X (.Try body [.ExceptHandler (some (.Tuple [.Name x1 p1, .Name x2 p2, .Name x3 p3] kk pt)) (some n) (b₀ :: suite) pos'] [] [] pos) (fun D σ H => tb (wAsE X.K X.N [c1, c2, c3] i ts D) D σ H) := by
  refine ⟨fun pins s σ H D I h => wpAny_Try_except ?_⟩
  have okX := I.ok
  have frm : X.A.frames = some (X.env :: X.outer) := okX.frames.trans (congrArg some hs)
  refine wpAny_mono ((hb (wAsE X.K X.N [c1, c2, c3] i ts D) (X.pn ++ pins) _ (fun u s' xx => ?_) PassesOwn.looking).run [] s σ H D (I.toTry _) h) (fun f s1 hsp => ?_) (fun e s1 he => he)
  · obtain ⟨a, B, sI, pins', σ', H', cls, d, rfl, JT, nb, up, sky, na, os, ag, hm, hyes⟩ := xx
    have JX : Inv X pins σ' H' sI := JT.ofTry okX
    rw [hs] at sky
    refine (show wpAny (model X.prog X.w) X.A (noteFrame (.ref a) X.env) _ _ _ from Sky.land Zc.steady frm hf sky fun g3 f3 u3 => ?_)
    have J3 : Inv X pins σ' H' { s' with heap := g3 } := JX.landed nb f3.1 (up.trans u3) os ag
    obtain ⟨oe3, vs3, he3, hz3, hd3⟩ := f3.there
    have nfr : a ∉ frs (X.env :: X.outer) := fun hm => by
      obtain ⟨_, o', e', hnf⟩ := f3.2.2.1.mem hm
      rw [he3] at e'
      cases e'
      exact hnf _ hd3
    have nI : sI.heap.get? a = none := by
      cases e : sI.heap.get? a with
      | none => rfl
      | some o =>
        have z := nb a o e (by rw [hs]; exact nfr)
        rw [f3.2.1] at z
        cases z
    have n0 : X.s_0.heap.get? a = none := by
      cases e : X.s_0.heap.get? a with
      | none => rfl
      | some o =>
        obtain ⟨o', z⟩ := JX.base.there a o e (by rw [hex]; exact List.not_mem_nil)
        rw [nI] at z
        cases z
    have nL : a ≠ X.env.locals := fun z => nfr (List.mem_filterMap.mpr ⟨X.env, List.mem_cons_self, by rw [hf, z]⟩)
    have np : ∀ p ∈ X.pn ++ pins, p.1 ≠ a := fun p hp z => by
      have z1 := (JX.pin p hp).1
      rw [z, nI] at z1
      cases z1
    have S3 : Inv (X.suite a (X.pn ++ pins)) [] σ' H' { s' with heap := g3 } := inE J3
    have name : ∀ {x : Str} {c : Value} {p : Pos} {Q : Value → Shared → Prop} {E : Value → Shared → Prop}, Names X x c → Q c { s' with heap := g3 } → wpAny (model X.prog X.w) (X.A.mark (some (.ref a))) (eval (.Name x p) X.env) Q E { s' with heap := g3 } := fun {x c p Q E} hc q => by
      obtain ⟨hg, hdbg, hm | ⟨hm, hv, hnn⟩⟩ := hc
      · exact ld_glob (X := X.suite a (X.pn ++ pins)) S3 hg hm q hdbg
      · exact ld_blt (X := X.suite a (X.pn ++ pins)) S3 hg hm hv q hnn hdbg
    refine wpAny_handleBy_cons (codeAny_handlers_test (wpAny_Tuple (wpAny_items_cons (name hc1 (wpAny_items_cons (name hc2 (wpAny_items_cons (name hc3 (wpAny_items_nil ⟨show 3 ≤ sizeLine by decide, ?_⟩)))))))) ) (by intro q; cases q)
    have kp : ∀ b o, g3.get? b = some o → (g3.push { cls := .type "tuple", data := .seq [c1, c2, c3].toArray }).get? b = some o := fun _ _ z => Heap.get?_push_of_some _ z
    have LT : PySem.W.Looks (model X.prog X.w) g3 (typeOf (.ref a)) cls := fun A Q E s k q => wpAny_typeOf_ref (k _ _ he3) (by rw [hz3.1]; exact q)
    refine (PySem.W.exm_tup3 (J3.kIn.keeps kp) (LT.keeps kp) (Heap.get?_push_size g3 rfl) hm).here ?_
    refine codeAny_handlers_suite_as (PySem.HandSPX.lands_againZ (flyZ_keeps f3 kp) fun g4 f4 u4 => ?_)
    have J4 : Inv X pins σ' H' { s' with heap := g4 } := JX.landed nb f4.1 (((up.trans u3).trans (Heap.UpToSlots.of_keeps kp)).trans u4) os ag
    obtain ⟨oe4, vs4, he4, hz4, hd4⟩ := f4.there
    have S4 := inE (a := a) (adopt J4 na n0 he4 hz4 hd4 nL np)
    refine store_ok (X := X.suite a (X.pn ++ pins)) (v := .ref a) S4 hN hi (.inl hln) rfl (fun s5 S5 => ?_) (.inr hln)
    refine wpAny_mono ((hsu a cls d (X.pn ++ pins)).run [] s5 _ _ _ S5 (hyes a na JX.len)) (fun f s6 hsp => ?_) (fun _ _ z => False.elim z)
    have end_ : ∀ {σ6 : L2.St} {H6 : Hp} {Q : Shared → Prop}, Inv (X.suite a (X.pn ++ pins)) [] σ6 H6 s6 → (∀ s7, Inv X pins (σ6.set i none) H6 s7 → Q s7) → wpAny (model X.prog X.w) X.A (do bindName X.env n .none; unbindBehindTheSuite X.env n pos') (fun _ s7 => Q s7) X.xe s6 :=
      fun {σ6 H6 Q} S6 hq => gone_ok (outE S6 okX) hN hi hln hq
    cases f with
    | next =>
      obtain ⟨σ6, H6, S6, q6⟩ := hsp
      exact end_ S6 fun s7 J7 => ⟨_, _, J7, q6⟩
    | brk =>
      obtain ⟨σ6, H6, S6, q6⟩ := hsp
      exact end_ S6 fun s7 J7 => ⟨_, _, J7, q6⟩
    | cont =>
      obtain ⟨σ6, H6, S6, q6⟩ := hsp
      exact end_ S6 fun s7 J7 => ⟨_, _, J7, q6⟩
    | ret u =>
      obtain ⟨v6, σ6, H6, S6, r6, q6⟩ := hsp
      exact end_ S6 fun s7 J7 => ⟨_, _, _, J7, r6, q6⟩
  · cases f with
    | next =>
      obtain ⟨σ', H', J', q⟩ := hsp
      exact wpAny_execs_nil ⟨σ', H', J'.ofTry okX, q⟩
    | brk =>
      obtain ⟨σ', H', J', q⟩ := hsp
      exact ⟨σ', H', J'.ofTry okX, q⟩
    | cont =>
      obtain ⟨σ', H', J', q⟩ := hsp
      exact ⟨σ', H', J'.ofTry okX, q⟩
    | ret u =>
      obtain ⟨v, σ', H', J', r, q⟩ := hsp
      exact ⟨v, σ', H', J'.ofTry okX, r, q⟩
end
end PW
/-! ### defs called within an except suite (nothing is raised there), a caught error's fields -/
namespace PW
open PySem PySem.Spec PyProof.Rows L2
/-- what a def promises whatever is handled -/
structure FnW (P : Program) (w : World) (K : PySem.W.Frag) (mg : Str → Option Value) (base : Heap) (k : Nat) (f : Addr) (fd : FuncData) (ps : List Str) (sp : Sp) : Prop where
  len : ∀ vs H Q E, sp vs H Q E → vs.length = ps.length
  run : ∀ (A : Around) (outer : List Env) (s : Shared) (H : Hp) (args : Args) (us : List Value) (vs : List V) (Q : VK) (E : XK), L2H.RoomH k A → Env0 P w K mg base A outer s H → BindsTo s fd args (ps.zip us) → Vals vs us → sp vs H Q E →
    codeAny (model P w) A (.call (.ref f) args) (CR CX0 outer P w H s Q E) s
/-- the context of such a def's body -/
def cxW (P : Program) (w : World) (K : PySem.W.Frag) (mg : Str → Option Value) (base : Heap) (N : List Str) (qual : Str) (scope : Scope) (f : Addr) (cd : Value) (A : Around) (outer : List Env) (s : Shared) (H : Hp) (E : XK) : Cx :=
  { cxOf CX0 P w K mg base N qual scope f cd A outer s H E with calm := false }
section
variable {P : Program} {w : World} {K : PySem.W.Frag} {mg : Str → Option Value} {base : Heap} {N ps : List Str} {qual : Str} {scope : Scope} {f : Addr} {cd : Value} {A : Around} {outer : List Env} {s s1 : Shared} {H : Hp} {E : XK} {us : List Value} {vs : List V}
theorem inv_startW (S : FnScope N ps scope) (e0 : Env0 P w K mg base A outer s H) (hl : vs.length = ps.length) (r : Vals vs us)
    (x : InCallC s s.heap.objs.size (bindL (envOfC qual scope s.heap.objs.size f cd).kindOf (ps.zip us) fun _ => none) (cellsFrom (s.heap.objs.size + 1) scope.names []) (bindC (envOfC qual scope s.heap.objs.size f cd).kindOf (ps.zip us) fun _ => none) s1) :
    Inv (cxW P w K mg base N qual scope f cd A outer s H E) [] (L2.start N vs) H s1 := by
  have I : Inv (cxOf CX0 P w K mg base N qual scope f cd { A with handled := none } outer s H E) [] (L2.start N vs) H s1 := inv_start S rfl ⟨e0.frames, e0.mod, e0.bs, e0.bsz, e0.funs, e0.frf, e0.hok, e0.bare⟩ hl r x
  exact ⟨⟨I.ok.mod, I.ok.kind, I.ok.glob, I.ok.blt, I.ok.above, I.ok.inj, I.ok.has, I.ok.cab, (fun z => Bool.noConfusion (show false = true from z)), Around.frames_deeper e0.frames, I.ok.stk, I.ok.exf, I.ok.bs, I.ok.bsz, I.ok.noex, I.ok.exfs, I.ok.funs, I.ok.frf⟩,
    I.os, I.bare, I.base, I.loc, I.cell, I.free, I.freeC, I.pin, I.hok, I.len⟩
theorem fnW_of {x : Str} {params : Arguments} {body : List Stmt} {fd : FuncData} {dvs : List V} {kws : List (Str × V)} {k : Nat} {sp : Sp} (F : FunD K x qual params body scope dvs kws f fd) (S : FnScope N ps scope) (len : ∀ vs H Q E, sp vs H Q E → vs.length = ps.length)
    (hbody : ∀ (cdv : Value) (A : Around) (outer : List Env) (s : Shared) (H : Hp) (vs : List V) (Q : VK) (E : XK), L2H.RoomH k (A.deeper (envOfC qual scope s.heap.objs.size f cdv)) → sp vs H Q E →
      ∃ t, PSs (cxW P w K mg base N qual scope f cdv A outer s H E) body t ∧ t { nx := fun _ H' => Q .non H', rt := Q } (L2.start N vs) H) : FnW P w K mg base (k + 1) f fd ps sp := by
  obtain ⟨oc, od, dV, kV, doc, pm, an, cdv, ct, osl, rfl, lk, hcd, _, _⟩ := F.ex
  refine ⟨len, fun A outer s H args us vs Q E hr e0 hb r hsp => ?_⟩
  have hl := len _ _ _ _ hsp
  have KX : K.In s.heap := e0.mod.kin.keeps fun b o e => (e0.bs b o e).1
  have lim : s.heap.NoLimit := e0.mod.nolimit.keeps fun b o e => (e0.bs b o e).1
  refine codeAny_call_function hr.depth (KX _ _ lk) rfl S.co S.gen rfl (PySem.W.codeRec_of KX hcd) (hb _ _ _ _ (wpAny_newFunctionEnv_cells S.kind (fun ⟨n, v⟩ hy => ?_) fun env he s1 x => ?_))
  · rcases S.par n (List.of_mem_zip hy).1 with q | q
    · exact .inl q
    · exact .inr ⟨q, PySem.W.cellsFrom_some _ _ _ (.inl q)⟩
  subst he
  refine ⟨lim.keeps x.toInCall.keep, codeAny_func ?_⟩
  obtain ⟨t, ht, hq⟩ := hbody cdv A outer s H vs Q E (hr.deeper _) hsp
  refine wpAny_mono (ht.run [] s1 (L2.start N vs) H _ (inv_startW S e0 hl r x) hq) (fun fl s' hs => ?_) fun e s' hs => hs
  have fin : ∀ {σ' : L2.St} {H' : Hp} {v : V} {u : Value}, Inv (cxW P w K mg base N qual scope f cdv A outer s H E) [] σ' H' s' → RelV v u → Q v H' → CE outer P w H s Q u s' := fun {σ' H' v u} J rv q => ⟨v, H', J.os, J.bare, J.base, J.hok, rv, q⟩
  cases fl with
  | ret u =>
    obtain ⟨v, σ', H', J, rv, q⟩ := hs
    exact fin J rv q
  | next =>
    obtain ⟨σ', H', J, q⟩ := hs
    exact fin (v := V.non) (u := Value.none) J rfl q
  | brk =>
    obtain ⟨_, _, _, q⟩ := hs
    exact False.elim q
  | cont =>
    obtain ⟨_, _, _, q⟩ := hs
    exact False.elim q
end
section
variable {X : Cx} {k : Nat} {f : Addr} {fd : FuncData} {ps : List Str} {sp : Sp} {x n : Str} {q pos : Pos} {e : Expr} {es : List Expr} {te : L2.TE} {t : TA}
theorem pe_callW (F : FnW X.prog X.w X.K X.mg X.base k f fd ps sp) (hr : L2H.RoomH k X.A) (hg : Gl X x) (hm : X.mg x = some (.ref f)) (hk : PySem.W.keepIn X.K (.ref f) = true) (hb : Binds X.K fd ps []) (ha : PA X (e :: es) t) (hdb : (x == ("__debug__" : Str)) = false := by decide)
    (he : starEach (e :: es) X.env = (false, eval e X.env) :: starEach es X.env := by rfl) (hpl : (backTo pos (starEach es X.env)).any (·.1) = false := by rfl) : PE X (.Call (.Name x q) (e :: es) [] pos) (tCall sp [] E0 t) := by
  refine ⟨fun pins s σ H Q I h => wpAny_Call_Name_kw (ld_glob I hg hm (PySem.W.callWith_K (h₀ := X.base) I.ok.mod.kin hk (thn (ha.run pos pins s σ H _ I h) fun us s1 ⟨vs, H1, I1, r, q⟩ => ⟨I1.kIn, ?_⟩) he hpl) hdb)⟩
  have q' : sp vs H1 Q E0 := by
    have z : sp (vs ++ []) H1 Q E0 := q
    rw [List.append_nil] at z
    exact z
  have b := hb s1 us I1.kIn (by rw [List.append_nil, ← r.length]; exact F.len _ _ _ _ q')
  rw [List.append_nil] at b
  refine wpAny_call (codeAny_mono (F.run X.A X.stack s1 H1 ⟨us, []⟩ us vs Q E0 hr I1.env0 b r q') fun r s' hq => ?_)
  cases r with
  | error e => exact (show False from hq).elim
  | ok fl =>
    cases fl with
    | ret u => exact I1.after hq
    | next => exact False.elim hq
    | brk => exact False.elim hq
    | cont => exact False.elim hq
/-- a field of a caught error -/
def tXe (K : PySem.W.Frag) (n : Str) (te : L2.TE) : TE := fun σ H Q => te σ H fun x H1 => ∃ (a C dd : Addr) (fs : List (Str × V)) (v : V), x = .ref a ∧ XfC K C ∧ PySem.W.findIn K (.ref C) n = some none ∧ H1 a = some (excE a (.ref C) (some dd)) ∧ H1 dd = some (.xd fs) ∧ fs.lookup n = some v ∧ Q v H1
theorem pe_xe (he : PE X e te) (hb : attributeBase e n X.env (eval e X.env) = eval e X.env := by rfl) : PE X (.Attribute e n pos) (tXe X.K n te) := by
  refine ⟨fun pins s σ H Q I h => attr_of hb (thn (he.run pins s σ H _ I h) fun u s1 ⟨x, H1, I1, rx, a, C, dd, fs, v, ex, T, hno, ea, ed, l, q⟩ => ?_)⟩
  subst ex
  obtain rfl : u = Value.ref a := rx
  obtain ⟨⟨oe, vs, ha, hz, hd⟩, _, _⟩ := I1.hok a _ ea
  obtain ⟨mA, hns, hr⟩ := (show ObjOk X.prog X.w H1 s1.heap dd (.xd fs) from I1.hok dd _ ed)
  obtain ⟨od, ho, hl⟩ := lookIn_ns hns
  obtain ⟨u, hu, ru⟩ := RelO.some_of (v := v) (o := mA n) (by rw [← l]; exact hr n)
  have J : PySem.W.InstAt s1.heap a oe C (some od) := ⟨ha, hz.1, by unfold PySem.W.notCls; rw [hd] <;> rfl, by rw [hz.2]; exact ho⟩
  exact PySem.HandSPX.exc_get I1.kIn J T.ga T.gg T.exC (PySem.W.findObj_own T.hdC hno rfl (by rw [hl, hu])) (handed_of ru) ⟨v, H1, I1.tok _, ru, q⟩
end
end PW
/-! ### own errors and tables of code objects: the hook -/
namespace PW
open PySem PySem.Spec PyProof.Rows L2
/-- what the text's file and scope are -/
structure IsPG (P : Program) : Prop where
  file : ((P.main.file : Str) == ("/claim/cut.py" : Str)) = true
  sup : (P.main.scope.names.lookup ("super" : Str)).isSome = false
def fileB (K : PySem.W.Frag) (cd : Value) : Bool := match cd with
  | .ref a => (match K.lookup a with
    | some ⟨_, _, .fields vs, _⟩ => (match (vs[2]? : Option Value) with
      | some (Value.str f _) => decide (f = ("/claim/cut.py" : Str))
      | _ => false)
    | _ => false)
  | _ => false
theorem fileB_ok {K : PySem.W.Frag} {cd : Value} (h : fileB K cd = true) : ∃ (a : Addr) (cl : Value) (dd : Option Addr) (vs : Array Value) (sl : Array (Option Value)) (t : Tok), cd = .ref a ∧ K.lookup a = some ⟨cl, dd, .fields vs, sl⟩ ∧ vs[2]? = some (.str ("/claim/cut.py" : Str) t) := by
  cases cd with
  | ref a =>
    unfold fileB at h
    cases q : K.lookup a with
    | none =>
      simp only [q] at h
      cases h
    | some o =>
      obtain ⟨cl, dd, dt, sl⟩ := o
      simp only [q] at h
      cases dt with
      | fields vs =>
        cases q2 : vs[2]? with
        | none =>
          simp only [q2] at h
          cases h
        | some v =>
          simp only [q2] at h
          cases v with
          | str f t =>
            have e : f = ("/claim/cut.py" : Str) := of_decide_eq_true h
            subst e
            exact ⟨a, cl, dd, vs, sl, t, rfl, q, q2⟩
          | _ => cases h
      | _ => cases h
  | _ => cases h
def cellB (K : PySem.W.Frag) (C c : Addr) : Bool := match K.lookup c with
  | some ⟨_, _, .cell (some (.ref D)), _⟩ => decide (D = C)
  | _ => false
theorem cellB_ok {K : PySem.W.Frag} {C c : Addr} (h : cellB K C c = true) : ∃ (cl : Value) (dd : Option Addr) (sl : Array (Option Value)), K.lookup c = some ⟨cl, dd, .cell (some (.ref C)), sl⟩ := by
  unfold cellB at h
  cases q : K.lookup c with
  | none =>
    simp only [q] at h
    cases h
  | some o =>
    obtain ⟨cl, dd, dt, sl⟩ := o
    simp only [q] at h
    cases dt with
    | cell v =>
      cases v with
      | none => cases h
      | some v =>
        cases v with
        | ref D =>
          have e : D = C := of_decide_eq_true h
          subst e
          exact ⟨cl, dd, sl, rfl⟩
        | _ => cases h
    | _ => cases h
def oexB (b : PySem.W.EK) (K : PySem.W.Frag) (C : Addr) : Bool := (match K.lookup C with
  | some ⟨.type t, _, .cls cd, sl⟩ => decide (t = "type") && ((match cd.mro, sl.toList with
    | .ref C' :: bm, [_, _, _, _, some (.builtin n), _] => decide (C' = C) && (PySem.W.excTail b.tail bm && decide (n = b.newId))
    | _, _ => false) && (cd.hasDict && !cd.hasDel))
  | _ => false) && (decide (PySem.W.findIn K (.ref C) "__setattr__" = some (some (.builtin "object.__setattr__"))) && (decide (PySem.W.subIn K (.ref C) (.type "BaseException") = some true) && (decide (PySem.W.typeIn K (.ref C) = some (.type "type")) && PySem.W.keepIn K (.ref C))))
theorem oexB_ok {b : PySem.W.EK} {K : PySem.W.Frag} {C : Addr} (h : oexB b K C = true) : PySem.W.OexG b K C := by
  obtain ⟨h1, h2⟩ := He.ba h
  obtain ⟨h3, h4⟩ := He.ba h2
  obtain ⟨h5, h6⟩ := He.ba h4
  obtain ⟨h7, h8⟩ := He.ba h6
  refine ⟨?_, of_decide_eq_true h3, of_decide_eq_true h5, of_decide_eq_true h7, h8⟩
  cases q : K.lookup C with
  | none =>
    simp only [q] at h1
    cases h1
  | some o =>
    obtain ⟨oc, od, dt, sl⟩ := o
    simp only [q] at h1
    cases oc with
    | type t =>
      cases dt with
      | cls cd =>
        obtain ⟨e1, h9⟩ := He.ba h1
        obtain ⟨h10, h11⟩ := He.ba h9
        obtain ⟨h12, h13⟩ := He.ba h11
        obtain ⟨nm, bs, mro, ns, qn, hd, sn, sub, ab, col, del⟩ := cd
        obtain ⟨sl⟩ := sl
        dsimp only at h10 h12 h13
        have e1' : t = "type" := of_decide_eq_true e1
        subst e1'
        cases hd with
        | false => cases h12
        | true =>
          cases del with
          | true => cases h13
          | false =>
            split at h10
            · rename_i C' bm k0 k1 k2 k3 n k5
              obtain ⟨z1, z2⟩ := He.ba h10
              obtain ⟨z3, z4⟩ := He.ba z2
              have z5 : C' = C := of_decide_eq_true z1
              have z6 : n = b.newId := of_decide_eq_true z4
              subst z5 z6
              exact ⟨nm, qn, ns, bs, bm, sn, sub, ab, col, od, k0, k1, k2, k3, k5, rfl, z3⟩
            · cases h10
      | _ => cases h1
    | _ => cases dt <;> cases h1
/-- what is asked of an own error that is made -/
def mkB (b : PySem.W.EK) (K : PySem.W.Frag) (C : Addr) (ns : List Str) : Bool := oexB b K C && (xfB K C && (decide (PySem.W.findIn K (.ref C) "__init__" = some (some (.ref (He.ma K C "__init__")))) && (decide (PySem.W.typeIn K (.ref (He.ma K C "__init__")) = some (.type "function")) && (decide (PySem.W.nsIn K mainGlobals "super" = some none) &&
  (decide (PySem.W.nsIn K cStatics "thirdparty.any" = some none) && (decide (PySem.W.ks_superIn K C C "__init__" = some (some (.builtin b.ini))) && (decide (PySem.W.mroIn K C (.ref C) = some true) && (decide (PySem.W.subIn K (.ref C) (.type b.nm) = some true) && ns.all fun n => decide (PySem.W.findIn K (.ref C) n = some none)))))))))
structure MkC (b : PySem.W.EK) (K : PySem.W.Frag) (C : Addr) (ns : List Str) : Prop where
  oex : PySem.W.OexG b K C
  xf : XfC K C
  iC : PySem.W.findIn K (.ref C) "__init__" = some (some (.ref (He.ma K C "__init__")))
  tC : PySem.W.typeIn K (.ref (He.ma K C "__init__")) = some (.type "function")
  sup : PySem.W.nsIn K mainGlobals "super" = some none
  any : PySem.W.nsIn K cStatics "thirdparty.any" = some none
  mro : PySem.W.ks_superIn K C C "__init__" = some (some (.builtin b.ini))
  sub : PySem.W.mroIn K C (.ref C) = some true
  ve : PySem.W.subIn K (.ref C) (.type b.nm) = some true
  no : ∀ n ∈ ns, PySem.W.findIn K (.ref C) n = some none
theorem mkB_ok {b : PySem.W.EK} {K : PySem.W.Frag} {C : Addr} {ns : List Str} (h : mkB b K C ns = true) : MkC b K C ns := by
  obtain ⟨h1, h⟩ := He.ba h
  obtain ⟨h2, h⟩ := He.ba h
  obtain ⟨h3, h⟩ := He.ba h
  obtain ⟨h4, h⟩ := He.ba h
  obtain ⟨h5, h⟩ := He.ba h
  obtain ⟨h6, h⟩ := He.ba h
  obtain ⟨h7, h⟩ := He.ba h
  obtain ⟨h8, h⟩ := He.ba h
  obtain ⟨h9, h⟩ := He.ba h
  exact ⟨oexB_ok h1, xfB_ok h2, of_decide_eq_true h3, of_decide_eq_true h4, of_decide_eq_true h5, of_decide_eq_true h6, of_decide_eq_true h7, of_decide_eq_true h8, of_decide_eq_true h9, fun n hn => of_decide_eq_true (List.all_eq_true.mp h n hn)⟩
/-- an own error's __init__, with the cell of its class -/
structure DefX where
  cls : Str
  qual : Str
  params : Arguments
  body : List Stmt
  scope : Scope
def DefX.f (d : DefX) (K : PySem.W.Frag) : Addr := He.ma K (He.ga K d.cls) "__init__"
def fnWX (K : PySem.W.Frag) (d : DefX) : He.FnW := match K.lookup (d.f K) with
  | some ⟨_, _, .func fd, _⟩ => some (fd.name, fd.qualname, fd.params, fd.body, fd.scope, fd.globals, fd.closure.map (fun p => (p.1, 0)), fd.builtins)
  | _ => none
def DefX.val (d : DefX) : He.FnW := some (("__init__" : Str), d.qual, d.params, FuncBody.stmts d.body, d.scope, mainGlobals, [(("__class__" : Str), (0 : Addr))], builtinsNs)
def DefX.ok (K : PySem.W.Frag) (d : DefX) : Bool := match K.lookup (d.f K) with
  | some ⟨_, _, .func fd, _⟩ => PySem.W.codeIn K fd.code d.qual && (fileB K fd.code && (He.dflB K fd.defaults [] && fd.closure.all fun p => cellB K (He.ga K d.cls) p.2))
  | _ => false
theorem DefX.init {b : PySem.W.EK} {K : PySem.W.Frag} {d : DefX} {ns : List Str} (e : fnWX K d = d.val) (c : d.ok K = true) (m : MkC b K (He.ga K d.cls) ns) {P : Program} (hP : IsPG P) : PySem.W.InitFn b K P (He.ga K d.cls) (d.f K) d.qual d.params d.body d.scope := by
  refine ⟨?_, m.sup, hP.sup, m.any, m.mro, m.sub, m.ve⟩
  unfold fnWX at e
  unfold DefX.ok at c
  cases q : K.lookup (d.f K) with
  | none =>
    rw [q] at c
    cases c
  | some o =>
    obtain ⟨oc, od, dt, osl⟩ := o
    rw [q] at c e
    cases dt with
    | func fd =>
      obtain ⟨n1, n2, n3, n4, n5, n6, n7, n8, n9, n10, n11, n12, n13, n14, n15⟩ := fd
      have e2 : (some (n1, n2, n3, n4, n5, n6, n7.map (fun p => (p.1, 0)), n15) : He.FnW) = some (("__init__" : Str), d.qual, d.params, FuncBody.stmts d.body, d.scope, mainGlobals, [(("__class__" : Str), (0 : Addr))], builtinsNs) := e
      simp only [Option.some.injEq, Prod.mk.injEq] at e2
      obtain ⟨h1, h2, h3, h4, h5, h6, h7, h8⟩ := e2
      subst h1 h2 h3 h4 h5 h6 h8
      have c3 : (PySem.W.codeIn K n13 d.qual && (fileB K n13 && (He.dflB K n8 [] && n7.all fun p => cellB K (He.ga K d.cls) p.2))) = true := c
      obtain ⟨k1, k2⟩ := He.ba c3
      obtain ⟨k3, k4⟩ := He.ba k2
      obtain ⟨k5, k6⟩ := He.ba k4
      cases n7 with
      | nil => simp only [List.map_nil, reduceCtorEq] at h7
      | cons p r =>
        cases r with
        | cons p2 r2 => simp only [List.map_cons, List.cons.injEq, reduceCtorEq, and_false] at h7
        | nil =>
          obtain ⟨p1, cc⟩ := p
          have e7 : p1 = ("__class__" : Str) := by
            simp only [List.map_cons, List.map_nil, List.cons.injEq, Prod.mk.injEq, and_true] at h7
            exact h7
          subst e7
          obtain ⟨cl, cld, csl, lcc⟩ := cellB_ok (List.all_eq_true.mp k6 ("__class__", cc) List.mem_cons_self)
          obtain ⟨cda, ccl, cdd, vs, ccs, tf, ec, lcd, hvs⟩ := fileB_ok k3
          subst ec
          rcases He.dflB_ok k5 with ⟨_, z⟩ | ⟨z, _⟩
          · subst z
            exact ⟨oc, n9, n10, n11, n14, od, n12, osl, cc, cda, ccl, cl, cdd, cld, vs, ccs, csl, _, tf, rfl, k1, lcd, hvs, hP.file, lcc⟩
          · exact absurd rfl z
    | _ => cases c
abbrev AlN : Type := AlM × (List He.FnW × Bool)
abbrev frN (n : Nat) (g : Addr → Option Obj) : PySem.W.Frag := He.frT g (He.asD g n ++ [cStatics])
def obsN (n : Nat) (fa : List He.Fa) (fn : List He.DefD) (fs : List DefA) (fx : List DefX) (tf : List He.Defn) (ex : PySem.W.Frag → List Bool) (g : Addr → Option Obj) : AlN :=
  (obsM fa fn fs ex (frN n g), (fx.map (fnWX (frN n g)), (fx.all fun d => d.ok (frN n g)) && He.tabsB g tf (frN n g)))
def valN (fn : List He.DefD) (fs : List DefA) (fx : List DefX) : AlN := (valM fn fs, (fx.map DefX.val, true))
structure SaysN (fa : List He.Fa) (fn : List He.DefD) (fs : List DefA) (fx : List DefX) (tf : List He.Defn) (ex : PySem.W.Frag → List Bool) (h : Heap) (K : PySem.W.Frag) : Prop where
  m : SaysM fa fn fs ex K
  x : ∀ d ∈ fx, fnWX K d = d.val ∧ d.ok K = true
  hd : ∀ p ∈ tf, PySem.W.codeHdIn K (He.cT K p).1 (He.cT K p).2 = true
  out : ∀ p ∈ tf, K.lookup (He.cT K p).2 = none
  empty : ∀ p ∈ tf, h.get? (He.cT K p).2 = some { cls := .none, data := .fields #[] }
theorem saysN_of {n : Nat} {fa : List He.Fa} {fn : List He.DefD} {fs : List DefA} {fx : List DefX} {tf : List He.Defn} {ex : PySem.W.Frag → List Bool} {h : Heap} (e : obsN n fa fn fs fx tf ex h.get? = valN fn fs fx) : SaysN fa fn fs fx tf ex h (frN n h.get?) := by
  have e1 : obsM fa fn fs ex (frN n h.get?) = valM fn fs := congrArg (fun z : AlN => z.1) e
  have e2 : fx.map (fnWX (frN n h.get?)) = fx.map DefX.val := congrArg (fun z : AlN => z.2.1) e
  have e3 : ((fx.all fun d => d.ok (frN n h.get?)) && He.tabsB h.get? tf (frN n h.get?)) = true := congrArg (fun z : AlN => z.2.2) e
  obtain ⟨h1, h2⟩ := He.ba e3
  have key : ∀ p ∈ tf, PySem.W.codeHdIn (frN n h.get?) (He.cT (frN n h.get?) p).1 (He.cT (frN n h.get?) p).2 = true ∧ ∃ o, h.get? (He.cT (frN n h.get?) p).2 = some o ∧ He.emptyTab o = true := fun p hp => by
    obtain ⟨z1, z2⟩ := He.ba (List.all_eq_true.mp h2 p hp)
    refine ⟨z1, ?_⟩
    cases q : h.get? (He.cT (frN n h.get?) p).2 with
    | none =>
      rw [q] at z2
      cases z2
    | some o =>
      rw [q] at z2
      exact ⟨o, rfl, z2⟩
  refine ⟨saysM_of e1, fun d hd => ⟨map_mem e2 d hd, List.all_eq_true.mp h1 d hd⟩, fun p hp => (key p hp).1, fun p hp => ?_, fun p hp => ?_⟩
  · obtain ⟨_, o, q, z⟩ := key p hp
    exact He.frT_none q z
  · obtain ⟨_, o, q, z⟩ := key p hp
    rw [q, He.emptyTab_eq z]
def hookN (n : Nat) (fa : List He.Fa) (fn : List He.DefD) (fs : List DefA) (fx : List DefX) (tf : List He.Defn) (ex : PySem.W.Frag → List Bool) : PySem.W.Hook where
  α := AlN
  obs := fun s => obsN n fa fn fs fx tf ex s.heap.get?
  val := fun _ => valN fn fs fx
  says := fun _ h => ∃ K : PySem.W.Frag, K.In h ∧ SaysN fa fn fs fx tf ex h K
  of := fun _ _ e => ⟨_, He.frT_in, saysN_of e⟩
  keeps := fun _ _ _ ⟨K, hK, c⟩ k => ⟨K, PySem.W.Frag.In.keeps hK k, ⟨c.m, c.x, c.hd, c.out, fun p hp => k _ _ (c.empty p hp)⟩⟩
theorem obsN_eq {n : Nat} {fa : List He.Fa} {fn : List He.DefD} {fs : List DefA} {fx : List DefX} {tf : List He.Defn} {ex : PySem.W.Frag → List Bool} {g : Addr → Option Obj} {s : Shared} (h : ∀ a, g a = s.heap.get? a) : obsN n fa fn fs fx tf ex g = (hookN n fa fn fs fx tf ex).obs s := by
  have e : g = s.heap.get? := funext h
  rw [e] <;> rfl
/-- THE RULE for a def that makes lambdas: its code object is the one that is told -/
theorem FunD.okC {P : Program} {w : World} {K : PySem.W.Frag} {mg : Str → Option Value} {base : Heap} {x qual : Str} {params : Arguments} {body : List Stmt} {scope : Scope} {dvs : List V} {kws : List (Str × V)} {p : He.Defn} {fd : FuncData} {CX : CXT} {N ps : List Str} {k : Nat} {sp : Sp}
    (F : FunD K x qual params body scope dvs kws (He.fAd K p) fd) (S : FnScope N ps scope) (len : ∀ vs H Q E, sp vs H Q E → vs.length = ps.length)
    (hbody : ∀ (A : Around) (outer : List Env) (s : Shared) (H : Hp) (vs : List V) (Q : VK) (E : XK), Room k (A.deeper (envOfC qual scope s.heap.objs.size (He.fAd K p) (.ref (He.codeOf K p)))) → sp vs H Q E →
      ∃ t, PSs (cxOf CX P w K mg base N qual scope (He.fAd K p) (.ref (He.codeOf K p)) A outer s H E) body t ∧ t { nx := fun _ H' => Q .non H', rt := Q } (start N vs) H) : FnOk P w K mg base CX (k + 1) (He.fAd K p) fd ps sp := by
  obtain ⟨oc, od, dV, kV, doc, pm, an, cdv, ct, osl, rfl, lk, hcd, _, _⟩ := F.ex
  obtain ⟨c, rfl⟩ := He.codeIn_ref hcd
  have e := He.codeOf_eq lk rfl
  subst e
  exact fn_of lk hcd S len fun A outer s H vs Q E hr hsp => hbody A outer s H vs Q E hr hsp
end PW
/-! ### a dict of the top with text keys -/
namespace PW
open PySem PySem.Spec PyProof.Rows L2
def rKd (K : PySem.W.Frag) (d : Addr) : R2 := fun x y H Q => ∃ (z : Str) (u0 : Value) (v0 : V), x = .ref d ∧ y = .str z ∧ PySem.W.nsIn K d z = some (some u0) ∧ RelV v0 u0 ∧ Q v0 H
theorem ix_kd {X : Cx} {K : PySem.W.Frag} {w : World} {d : Addr} {es : Array DictEntry} {n : Nat} (hK : X.K = K) (hw : X.w = w) (D : KDict K w d es n) : IxR X (rKd K d) := by
  subst hK hw
  intro value slice pins s σ H x y v u Q I rx ry h hs
  obtain ⟨z, u0, v0, rfl, rfl, e, r, q⟩ := h
  cases rx
  obtain ⟨t, rfl⟩ := ry
  exact tail_any (kd_type D I) PySem.F.slot_dict_getitem.lookup (wpAny_getItem_of (PySem.strKind_is X.prog X.w z t) (PySem.W.mapOf_K (prog := X.prog) I.kIn D.at_ D.lit) (PySem.W.find_K D.at_ e) ⟨v0, H, I.tok _, r, q⟩) hs
theorem r_kd {K : PySem.W.Frag} {d : Addr} {kvs : List (Str × He.Dv)} {z : Str} {v : He.Dv} {x : V} {H : Hp} {Q : VK} (h : He.valsB K d kvs = true) (hq : (z, v) ∈ kvs) (hx : v.v K = x) (c : Q x H) : rKd K d (.ref d) (.str z) H Q := by
  subst hx
  obtain ⟨u, e, r⟩ := He.valsB_ok h hq
  exact ⟨z, u, _, rfl, rfl, e, r, c⟩
/-! ### the hook, with tables -/
abbrev AlO : Type := AlN × List (Option (List (Option (Str × Int))))
def obsO (n : Nat) (fa : List He.Fa) (fn : List He.DefD) (fs : List DefA) (fx : List DefX) (tf : List He.Defn) (ts : List He.Tab) (ex : PySem.W.Frag → List Bool) (g : Addr → Option Obj) : AlO :=
  (obsN n fa fn fs fx tf ex g, ts.map fun t => He.dicW (frN n g) (t.1 (frN n g)))
def valO (fn : List He.DefD) (fs : List DefA) (fx : List DefX) (ts : List He.Tab) (w : World) : AlO := (valN fn fs fx, ts.map fun t => some (He.keysIn w.params t.2))
def SaysTb (ts : List He.Tab) (w : World) (K : PySem.W.Frag) : Prop := (ts.map fun t => He.dicW K (t.1 K)) = ts.map fun t => some (He.keysIn w.params t.2)
def hookO (n : Nat) (fa : List He.Fa) (fn : List He.DefD) (fs : List DefA) (fx : List DefX) (tf : List He.Defn) (ts : List He.Tab) (ex : PySem.W.Frag → List Bool) : PySem.W.Hook where
  α := AlO
  obs := fun s => obsO n fa fn fs fx tf ts ex s.heap.get?
  val := fun w => valO fn fs fx ts w
  says := fun w h => ∃ K : PySem.W.Frag, K.In h ∧ SaysN fa fn fs fx tf ex h K ∧ SaysTb ts w K
  of := fun _ _ e => ⟨_, He.frT_in, saysN_of (congrArg (fun z : AlO => z.1) e), congrArg (fun z : AlO => z.2) e⟩
  keeps := fun _ _ _ ⟨K, hK, c, t⟩ k => ⟨K, PySem.W.Frag.In.keeps hK k, ⟨c.m, c.x, c.hd, c.out, fun p hp => k _ _ (c.empty p hp)⟩, t⟩
theorem obsO_eq {n : Nat} {fa : List He.Fa} {fn : List He.DefD} {fs : List DefA} {fx : List DefX} {tf : List He.Defn} {ts : List He.Tab} {ex : PySem.W.Frag → List Bool} {g : Addr → Option Obj} {s : Shared} (h : ∀ a, g a = s.heap.get? a) : obsO n fa fn fs fx tf ts ex g = (hookO n fa fn fs fx tf ts ex).obs s := by
  have e : g = s.heap.get? := funext h
  rw [e] <;> rfl
theorem SaysTb.tab {ts : List He.Tab} {w : World} {K : PySem.W.Frag} (c : SaysTb ts w K) (i : Nat) {t : He.Tab} (h : ts[i]? = some t := by rfl) : ∃ es n, KDict K w (t.1 K) es n := by
  have e2 : (ts.map fun t => He.dicW K (t.1 K))[i]? = (ts.map fun t => some (He.keysIn w.params t.2))[i]? := by rw [c]
  rw [List.getElem?_map, List.getElem?_map, h] at e2
  exact He.dicW_ok (Option.some.inj e2)
end PW
/-! ### a top that hashes: what the world says of one row is a Bool -/
namespace PW
open PySem PySem.Spec
def setFT (w : World) (f : String → Bool) : World := { w with params := { w.params with followText := f } }
def ftOf (w : World) (x : String) (b : Bool) : String → Bool := fun s => match decide (s = x) with
  | true => b
  | false => w.params.followText s
theorem setFT_eq (w : World) (x : String) : setFT w (ftOf w x (w.params.followText x)) = w := by
  have e : ftOf w x (w.params.followText x) = w.params.followText := by
    funext s
    unfold ftOf
    by_cases h : s = x
    · rw [decide_eq_true h, h]
    · rw [decide_eq_false h]
  rw [e]
  obtain ⟨d, p⟩ := w
  cases p
  rfl
end PW
/-! ### properties: the head's facts -/
namespace PW
open PySem PySem.Spec PyProof.Rows L2
/-- a property's getter -/
def prA (C m : Str) (K : PySem.W.Frag) : Addr := match PySem.W.recIn K (He.ma K (He.ga K C) m) "property" with
  | some (.ref g :: _) => g
  | _ => 0
def propB (K : PySem.W.Frag) (C : Addr) (f : Str) (p g : Addr) : Bool := He.eqO (PySem.W.findIn K (.ref C) f) (some (some (.ref p))) && (He.eqO (PySem.W.specialIn K (.ref p) "__get__") (some (some (.builtin "property.__get__"))) && (decide (PySem.W.takesIn K (.ref p) = some true) && (match PySem.W.recIn K p "property" with
    | some (.ref q :: _) => decide (q = g)
    | _ => false)))
theorem propB_ok {K : PySem.W.Frag} {C : Addr} {f : Str} {p g : Addr} (h : propB K C f p g = true) : PropOf K C f p g := by
  obtain ⟨h1, h⟩ := He.ba h
  obtain ⟨h2, h⟩ := He.ba h
  obtain ⟨h3, h4⟩ := He.ba h
  refine ⟨He.eqO_ok h1, He.eqO_ok h2, of_decide_eq_true h3, ?_⟩
  split at h4
  · rename_i q rest e
    rw [of_decide_eq_true h4] at e
    exact ⟨rest, e⟩
  · cases h4
end PW
/-! ### the top's run, cut at the ends of statements -/
namespace PW
open PySem PySem.W PySem.Calls PyProof.Rows HandSHeadRun
/-- to the end of a row of statements -/
def segF (st : SharedT → Thread → Option (SharedT × Thread)) (n0 : Nat) (ann : Option Value) : Nat → SharedT → Thread → Option (Flow × SharedT × Code × Pos)
  | 0, _, _ => none
  | m + 1, s, t => match endAt 1 t with
    | some f => some (f, s, t.code, t.pos)
    | none => match stepOk n0 ann t with
      | false => none
      | true => match st s t with
        | none => none
        | some r => frS r.1 fun s' => segF st n0 ann m s' r.2
/-- so many steps of the top -/
def goG (st : SharedT → Thread → Option (SharedT × Thread)) (n0 : Nat) (ann : Option Value) : Nat → SharedT → Thread → Option (SharedT × Thread)
  | 0, s, t => some (s, t)
  | m + 1, s, t => match through t with
    | true => none
    | false => match stepOk n0 ann t with
      | false => none
      | true => match st s t with
        | none => none
        | some r => frS r.1 fun s' => goG st n0 ann m s' r.2
section
variable {tb : String → Option Builtin} {p : Program} {w : World} {n0 : Nat} {ann : Option Value}
theorem segF_run : ∀ {m : Nat} {s s' : SharedT} {t : Thread} {f : Flow} {c : Code} {q : Pos}, segF (stepT (denote tb) p w) n0 ann m s t = some (f, s', c, q) → segRunT tb p w n0 ann 1 m s t = some (f, s', c, q)
  | 0, _, _, _, _, _, _, h => by cases h
  | m + 1, s, s', t, f, c, q, h => by
    rw [segRunT]
    rw [segF] at h
    cases e1 : endAt 1 t with
    | some g =>
      rw [e1] at h
      exact h
    | none =>
      rw [e1] at h
      cases e2 : stepOk n0 ann t with
      | false =>
        rw [e2] at h
        cases h
      | true =>
        rw [e2] at h
        cases e3 : stepT (denote tb) p w s t with
        | none =>
          rw [e3] at h
          cases h
        | some r =>
          rw [e3] at h
          simp only [frS_eq] at h
          exact segF_run h
theorem goG_run : ∀ {m : Nat} {s s' : SharedT} {t t' : Thread}, goG (stepT (denote tb) p w) n0 ann m s t = some (s', t') → topGo tb p w n0 ann m s.abs t = some (s'.abs, t')
  | 0, _, _, _, _, h => by
    cases h
    rfl
  | m + 1, s, s', t, t', h => by
    rw [topGo]
    rw [goG] at h
    cases e1 : through t with
    | true =>
      rw [e1] at h
      cases h
    | false =>
      rw [e1] at h
      cases e2 : stepOk n0 ann t with
      | false =>
        rw [e2] at h
        cases h
      | true =>
        rw [e2] at h
        cases e3 : stepT (denote tb) p w s t with
        | none =>
          rw [e3] at h
          cases h
        | some r =>
          rw [e3] at h
          simp only [frS_eq] at h
          have e4 := stepT_spec e3
          rw [e4]
          exact goG_run h
end
/-- a row of statements behind others -/
theorem run_app {p : Program} {w : World} {n0 : Nat} {ann : Option Value} {env : Env} {q : Pos} {n N : Nat} {s s' : SharedT} {r : Shared} {l rest : List Stmt} {c : Code} {pos p' : Pos}
    (h : segF (stepT (denote treeTable) p w) n0 ann n s (piecesOf l env c pos [topFrame q]) = some (.next, s', c, p'))
    (k : topRun treeTable p w n0 ann N s'.abs (restOf rest env c p' [topFrame q]) = some r) :
    topRun treeTable p w n0 ann (n + N) s.abs (restOf (l ++ rest) env c pos [topFrame q]) = some r :=
  piece_app (segRun_of (segF_run h)) k
/-- the boot's heap as a tree -/
noncomputable def bootTree (P : Params) : PySem.W.BT := match putAll (boot_heap P).objs.toList .nil 0 with
  | some r => r.1
  | none => .nil
def insAll : PySem.W.BT → List (Nat × Obj) → PySem.W.BT
  | t, [] => t
  | t, x :: r => insAll (t.ins x.1 x.2) r
/-- a state of the top's run -/
noncomputable def stAt (T : Params → PySem.W.BT) (n toks : Nat) (w : World) (os : OsState) : SharedT := ⟨T w.params, n, (boot_heap w.params).life, #[], boot_drawn, toks, os⟩
/-- a fact at both answers of the world to one row -/
theorem by_row {P : World → Prop} (x : String) (h1 : ∀ w, P (setFT w (ftOf w x true))) (h0 : ∀ w, P (setFT w (ftOf w x false))) (w : World) : P w := by
  have h : ∀ b, P (setFT w (ftOf w x b)) := fun b => match b with
    | true => h1 w
    | false => h0 w
  have z := h (w.params.followText x)
  rwa [setFT_eq] at z
/-- a law's row holds by its top's run in pieces -/
theorem head_left {r : OpenRow} {q : Program} {H : Hook} {loose : List PySem.Str} {d : DefRec} {N : Nat}
    (left : LeftO r.prog q loose (fun s => xlAt q [] s && recOk r.toRowW.records s) H.obs H.val N true)
    (hdef : defOf q r.name = some (d, [])) (hp : r.prog.theDef r.name = some (d.params, d.body, d.scope)) (hk : kwWritten? d.params.kwonlyargs d.params.kw_defaults = some [])
    (hwr : (!r.writes || r.records.isEmpty) = true) (k1 : r.wellSaid = true) (hc : (chainsOk q && opensWell r.prog && (frees r.toRowW && r.within.isEmpty)) = true) (hb : r.prog.bare) (hw : r.toRowW.promised)
    (call : WalkO q loose (XL q []) H.says r.toRowW d [] fun f vs => PySem.call f vs) : r.Holds := by
  have hx : ∀ s : Shared, (xlAt q [] s && recOk r.toRowW.records s) = true → xlAt q [] s = true ∧ recOk r.toRowW.records s = true := fun s z => Bool.and_eq_true_iff.mp z
  refine holds_open (XP := XL q []) (YP := H.says) left ?_ ?_ ?_ ?_ hdef hp hk ?_ hwr k1 hc hb hw call
  · exact H.of
  · exact H.keeps
  · exact fun s z => xl_of s (hx s z).1
  · exact XL.keeps
  · exact fun s z => recFacts_of (hx s z).2
/-- the looks of kmHook, off the tree -/
theorem km_look {K : Params → Frag} {as ts : List Addr} {e : ∀ P, as = (K P).map (·.1)} {s : SharedT} {w : World} {g : Addr → Option Obj} (hg : ∀ a, getT s a = g a)
    (h1 : as.map g = (K w.params).map fun p => some p.2) (h2 : ts.map g = ts.map fun _ => some (tabObj #[])) : (kmHook K as e ts).obs s.abs = (kmHook K as e ts).val w := by
  have e1 : s.abs.heap.get? = g := funext fun a => (getT_eq s a).symm.trans (hg a)
  have e2 : (kmHook K as e ts).obs s.abs = (as.map s.abs.heap.get?, ts.map s.abs.heap.get?) := rfl
  rw [e2, e1, h1, h2]
  rfl
/-- LeftO of a run in pieces -/
theorem left_of {p q : Program} {loose : List PySem.Str} {Xt : Shared → Bool} {H : Hook} {T : Params → PySem.W.BT} {n k m0 M : Nat} {ann : Option Value}
    (e : opening p = plainProg p.main.scope.names) (f : ∀ s, fenceModules? p s = some s)
    (size : ∀ w : World, ((boot_heap w.params).isNs mainGlobals && (#[] : Array GenState).size == 0, (boot_heap w.params).objs.size, (boot_heap w.params).nsMap mainGlobals "__annotations__") = (true, m0, ann))
    (run : ∀ (w : World) (os : OsState), topRun treeTable p w m0 ann M ⟨boot_heap w.params, #[], boot_drawn, boot_toks, os⟩ (topStub p) = some (stAt T n k w os).abs) (le : Nat.ble M 100000 = true)
    (la : ∀ (w : World) (os : OsState), looksF p (boot_heap w.params) (stAt T n k w os).abs = true)
    (lb : ∀ (w : World) (os : OsState), openSeen q loose (importedModules p.main.body) Xt true (stAt T n k w os).abs = openGood q loose)
    (lc : ∀ (w : World) (os : OsState), H.obs (stAt T n k w os).abs = H.val w) : LeftO p q loose Xt H.obs H.val 100000 true := by
  have ea : ∀ (w : World) (os : OsState), (stAt T n k w os).abs = ⟨absHeap (T w.params) n (boot_heap w.params).life, #[], boot_drawn, k, os⟩ := fun _ _ => rfl
  refine LeftO.of_pieces (H₀ := boot_heap) (H₁ := fun P => absHeap (T P) n (boot_heap P).life) (gs₀ := #[]) (gs₁ := #[]) (d₀ := boot_drawn) (d₁ := boot_drawn) (k₀ := boot_toks) (k₁ := k) (m₀ := m0) (ann := ann) (M := M) ?_ size ?_ le ?_
  · exact boot_open e (Nat.ble_eq_true_of_le (by omega)) f
  · intro w os
    rw [run w os, ea]
  · intro w
    funext os
    have a1 := la w os
    have a2 := lb w os
    have a3 := lc w os
    rw [ea] at a1 a2 a3
    show (looksF p (boot_heap w.params) ⟨absHeap (T w.params) n (boot_heap w.params).life, #[], boot_drawn, k, os⟩, openSeen q loose (importedModules p.main.body) Xt true ⟨absHeap (T w.params) n (boot_heap w.params).life, #[], boot_drawn, k, os⟩, H.obs ⟨absHeap (T w.params) n (boot_heap w.params).life, #[], boot_drawn, k, os⟩) = _
    rw [a1, a2, a3]
end PW
local macro_rules | `(tactic| walk_at "lst") => `(tactic| first | with_reducible assumption | (with_reducible exact L2.SqT.of L2.upd_same) | (with_reducible exact L2.SqL.of L2.upd_same) | ((with_reducible refine' PW.Ex.tupN ?h ?q); (case h => with_reducible assumption); (case q => walk_at "lst")) | ((with_reducible refine' PW.Ex.lstN ?h ?q); (case h => with_reducible assumption); (case q => walk_at "lst")) | ((with_reducible refine' L2.SqL.of ?h); (case h => walk_at "hp")) | ((with_reducible refine' L2.SqT.of ?h); (case h => walk_at "hp")))
local macro_rules | `(tactic| walk_at "K") => `(tactic| try simp only [PW.nox_K, PW.cx_K])
local macro_rules | `(tactic| walk_at "hp") => `(tactic| first | with_reducible assumption | (with_reducible exact L2.upd_same) | ((with_reducible refine' (L2.upd_ne ?n).trans ?h); (case' n => walk_at "ne"); (case' h => walk_at "hp")))
local macro_rules | `(tactic| walk_at "ne") => `(tactic| first | with_reducible assumption | (with_reducible exact Ne.symm (by with_reducible assumption)) | (with_reducible exact L2.ne_of_none (by with_reducible assumption) (by with_reducible assumption)) | (with_reducible exact Ne.symm (L2.ne_of_none (by with_reducible assumption) (by with_reducible assumption))) | exact PW.ne_ofK (by with_reducible assumption) (by with_reducible assumption) (by rfl))
local macro_rules | `(tactic| walk_at "g1") => `(tactic| first
  | refine PW.Step.imp ?_
  | ((with_reducible refine' PW.r_I ?h ?_); (case h => walk_at "cond"))
  | ((with_reducible refine' PW.r_ixL ?h ?a ?_); (case h => walk_at "lst"); (case a => first | rfl | exact PW.atI0))
  | ((with_reducible refine' PW.r_ixT ?h ?a ?_); (case h => walk_at "lst"); (case a => first | rfl | exact PW.atI0))
  | ((with_reducible refine' PW.r_setL ?h ?a ?_); (case h => walk_at "hp"); (case a => rfl))
  | ((with_reducible refine' PW.r_lst1 ?h ?_); (case h => first | decide | (simp only [List.length_cons, List.length_nil]; omega)))
  | ((with_reducible refine' PW.r_ifT' ?e ?_); (case e => with_reducible exact PW.dec_self))
  | ((with_reducible refine' PW.r_ifF' ?e ?_); (case e => exact PW.dec_kind rfl))
  | ((with_reducible refine' PW.r_ifF' ?e ?_); (case e => with_reducible exact PW.ndec_self))
  | ((with_reducible refine' PW.r_ifT' ?e ?_); (case e => exact PW.ndec_kind rfl))
  | ((with_reducible refine' PW.r_ifT' ?e ?_); (case e => decide))
  | ((with_reducible refine' PW.r_ifF' ?e ?_); (case e => decide))
  | ((with_reducible refine' PW.r_cLenL ?h ?_); (case h => walk_at "lst"))
  | ((with_reducible refine' PW.r_cLenT ?h ?_); (case h => walk_at "lst"))
  | ((with_reducible refine' PW.r_cLenS ?h ?_); (case h => walk_at "size"))
  | ((with_reducible refine' PW.r_addS ?h ?_); (case h => walk_at "size"))
  | ((with_reducible refine' PW.r_slL ?h ?_); (case h => walk_at "lst"))
  | ((with_reducible refine' PW.r_slS ?h ?_); (case h => walk_at "size"))
  | ((with_reducible refine' PW.r_gtup ?h ?l ?_); (case h => walk_at "lst"); (case l => rfl))
  | ((with_reducible refine' PW.r_isi ?h ?e ?_); (case h => walk_at "ty"); (case e => walk_at "kit"))
  | ((with_reducible refine' PW.r_isiT2 ?ht ?h ?e1 ?e2 ?_); (case ht => walk_at "hp"); (case h => walk_at "ty"); (case e1 => walk_at "kit"); (case e2 => walk_at "kit"))
  | ((with_reducible refine' PW.r_ixqL ?h ?a ?_); (case h => walk_at "lst"); (case a => first | rfl | exact PW.atI0))
  | ((with_reducible refine' PW.r_ixqT ?h ?a ?_); (case h => walk_at "lst"); (case a => first | rfl | exact PW.atI0))
  | ((with_reducible refine' PW.r_inT ?h ?a ?b ?_); (case h => walk_at "lst"); (case a => rfl); (case b => rfl))
  | ((with_reducible refine' PW.r_inL ?h ?a ?b ?_); (case h => walk_at "lst"); (case a => rfl); (case b => rfl))
  | ((with_reducible refine' PW.r_ninT ?h ?a ?b ?_); (case h => walk_at "lst"); (case a => rfl); (case b => rfl))
  | ((with_reducible refine' PW.r_ninL ?h ?a ?b ?_); (case h => walk_at "lst"); (case a => rfl); (case b => rfl))
  | ((with_reducible refine' PW.rng1 ?h1 ?h2 ?_); (case h1 => omega); (case h2 => omega))
  | ((with_reducible refine' PW.rng2 ?h1 ?h2 ?h3 ?h4 ?_); (case h1 => omega); (case h2 => omega); (case h3 => omega); (case h4 => omega))
  | ((with_reducible refine' PW.r_rep ?h ?a ?b ?c ?_); (case h => walk_at "hp"); (case a => omega); (case b => omega); (case c => walk_at "len"))
  | (with_reducible refine' PW.r_and3 rfl rfl ?_)
  | ((with_reducible refine' PW.wkL ?h ?_); (case h => walk_at "lst"))
  | ((with_reducible refine' PW.wkT ?h ?_); (case h => walk_at "lst"))
  | ((with_reducible refine' PW.wkE ?h ?_); (case h => walk_at "lst"))
  | ((with_reducible refine' PW.r_cListL ?h ?_); (case h => walk_at "lst"))
  | ((with_reducible refine' PW.r_cListT ?h ?_); (case h => walk_at "lst"))
  | ((with_reducible refine' PW.r_cTupleL ?h ?_); (case h => walk_at "lst"))
  | ((with_reducible refine' PW.r_fld ?h ?c ?n ?l ?_); (case h => walk_at "hp"); (case c => first | with_reducible assumption | assumption); (case n => first | with_reducible assumption | assumption); (case l => rfl))
  | ((with_reducible refine' PW.r_methC ?h ?l ?_); (case h => walk_at "hp"); (case l => rfl))
  | ((with_reducible refine' PW.r_rev ?h ?_); (case h => walk_at "lst"))
  | ((with_reducible refine' PW.r_eqEL ?h ?a ?_); (case h => walk_at "lst"); (case a => walk_at "lst"))
  | ((with_reducible refine' PW.r_eqET ?h ?a ?_); (case h => walk_at "lst"); (case a => walk_at "lst"))
  | ((with_reducible refine' PW.r_neET ?h ?a ?_); (case h => walk_at "lst"); (case a => walk_at "lst"))
  | ((with_reducible refine' PW.r_tyL ?h ?_); (case h => walk_at "lst"))
  | ((with_reducible refine' PW.r_sfld ?h ?c ?n ?l ?_); (case h => walk_at "hp"); (case c => first | with_reducible assumption | assumption); (case n => first | with_reducible assumption | assumption); (case l => exact Nat.le_of_ble_eq_true rfl))
  | ((with_reducible refine' PW.r_append ?h ?l ?_); (case h => walk_at "hp"); (case l => walk_at "len"))
  | ((with_reducible refine' PW.r_isiO ?h ?e ?_); (case h => walk_at "ty"); (case e => first | with_reducible assumption | assumption))
  | ((with_reducible refine' PW.r_isiC ?h ?e ?_); (case h => walk_at "ty"); (case e => first | with_reducible assumption | assumption)))
local macro_rules | `(tactic| walk_at "go") => `(tactic| repeat (walk_at "g1"))
local macro_rules | `(tactic| walk_at "cond") => `(tactic| first | with_reducible assumption | omega | ((with_reducible refine PW.cmx ?_ ?_ ?_ ?_) <;> omega) | ((with_reducible refine PW.cdw ?_ ?_) <;> omega) | ((with_reducible refine PW.cdw2 ?_ ?_) <;> with_reducible assumption) | ((with_reducible refine PW.cpow ?_ ?_ ?_ ?_) <;> omega))
local macro_rules | `(tactic| walk_at "size") => `(tactic| first | with_reducible assumption | exact Nat.le_trans (by with_reducible assumption) (by decide))
local macro_rules | `(tactic| walk_at "ty") => `(tactic| first | with_reducible assumption | exact .base (.int _) | exact .base (.str _) | exact .base (.bl _) | exact .base .non | exact .base (.lst (by walk_at "hp")) | exact .base (.tup (by walk_at "hp")) | assumption)
local macro_rules | `(tactic| walk_at "kit") => `(tactic| first | exact PW.kb_NoneType_bool | exact PW.kb_NoneType_int | exact PW.kb_NoneType_str | exact PW.kb_NoneType_list | exact PW.kb_NoneType_tuple | exact PW.kb_NoneType_dict | exact PW.kb_bool_bool | exact PW.kb_bool_int | exact PW.kb_bool_str | exact PW.kb_bool_list | exact PW.kb_bool_tuple | exact PW.kb_bool_dict | exact PW.kb_int_bool | exact PW.kb_int_int | exact PW.kb_int_str | exact PW.kb_int_list | exact PW.kb_int_tuple | exact PW.kb_int_dict | exact PW.kb_str_bool | exact PW.kb_str_int | exact PW.kb_str_str | exact PW.kb_str_list | exact PW.kb_str_tuple | exact PW.kb_str_dict | exact PW.kb_list_bool | exact PW.kb_list_int | exact PW.kb_list_str | exact PW.kb_list_list | exact PW.kb_list_tuple | exact PW.kb_list_dict | exact PW.kb_tuple_bool | exact PW.kb_tuple_int | exact PW.kb_tuple_str | exact PW.kb_tuple_list | exact PW.kb_tuple_tuple | exact PW.kb_tuple_dict)
local macro_rules | `(tactic| walk_at "len") => `(tactic| first | decide | (refine PW.len_ok ?_; simp only [List.length_cons, List.length_nil]; omega) | (simp only [List.length_cons, List.length_nil]; omega))
namespace PW
open PySem PySem.Spec PyProof.Rows L2
/-! ### the text by places -/
def top (i : Nat) : Stmt := PySem.Challenge.pw_powerwish_k72_bounds_of_periods_and_of_p.main.body.getD i (.Pass ⟨0, 0, 0, 0⟩)
abbrev s_common : Stmt := top 17
abbrev n_common : List Str := ["one", "other"]
abbrev p_common : List Str := ["one", "other"]
theorem sc_common : FnScope n_common p_common (defScope s_common) := ⟨rfl, rfl, rfl, by decide +kernel, rfl, by decide +kernel, by decide +kernel⟩
abbrev s_bits : Stmt := top 18
abbrev n_bits : List Str := ["number"]
abbrev p_bits : List Str := ["number"]
theorem sc_bits : FnScope n_bits p_bits (defScope s_bits) := ⟨rfl, rfl, rfl, by decide +kernel, rfl, by decide +kernel, by decide +kernel⟩
abbrev s_is_name : Stmt := top 39
abbrev n_is_name : List Str := ["value", "sign"]
abbrev p_is_name : List Str := ["value"]
theorem sc_is_name : FnScope n_is_name p_is_name (defScope s_is_name) := ⟨rfl, rfl, rfl, by decide +kernel, rfl, by decide +kernel, by decide +kernel⟩
abbrev s_parts_of : Stmt := top 47
abbrev n_parts_of : List Str := ["term"]
abbrev p_parts_of : List Str := ["term"]
theorem sc_parts_of : FnScope n_parts_of p_parts_of (defScope s_parts_of) := ⟨rfl, rfl, rfl, by decide +kernel, rfl, by decide +kernel, by decide +kernel⟩
abbrev s_names_within : Stmt := top 48
abbrev n_names_within : List Str := ["term", "found", "part"]
abbrev p_names_within : List Str := ["term"]
theorem sc_names_within : FnScope n_names_within p_names_within (defScope s_names_within) := ⟨rfl, rfl, rfl, by decide +kernel, rfl, by decide +kernel, by decide +kernel⟩
abbrev s_calls_within : Stmt := top 49
abbrev n_calls_within : List Str := ["term", "found", "part"]
abbrev p_calls_within : List Str := ["term"]
theorem sc_calls_within : FnScope n_calls_within p_calls_within (defScope s_calls_within) := ⟨rfl, rfl, rfl, by decide +kernel, rfl, by decide +kernel, by decide +kernel⟩
abbrev s_need_flat : Stmt := top 51
abbrev n_need_flat : List Str := ["term", "unknowns", "word", "name", "part"]
abbrev p_need_flat : List Str := ["term", "unknowns"]
theorem sc_need_flat : FnScope n_need_flat p_need_flat (defScope s_need_flat) := ⟨rfl, rfl, rfl, by decide +kernel, rfl, by decide +kernel, by decide +kernel⟩
abbrev s_multiples : Stmt := top 52
abbrev n_multiples : List Str := ["term", "unknown", "word", "powers", "plain", "more", "further"]
abbrev p_multiples : List Str := ["term", "unknown"]
theorem sc_multiples : FnScope n_multiples p_multiples (defScope s_multiples) := ⟨rfl, rfl, rfl, by decide +kernel, rfl, by decide +kernel, by decide +kernel⟩
abbrev s_without : Stmt := top 53
abbrev n_without : List Str := ["term", "unknowns", "word"]
abbrev p_without : List Str := ["term", "unknowns"]
theorem sc_without : FnScope n_without p_without (defScope s_without) := ⟨rfl, rfl, rfl, by decide +kernel, rfl, by decide +kernel, by decide +kernel⟩
abbrev s_comparisons : Stmt := top 61
abbrev n_comparisons : List Str := ["condition"]
abbrev p_comparisons : List Str := ["condition"]
theorem sc_comparisons : FnScope n_comparisons p_comparisons (defScope s_comparisons) := ⟨rfl, rfl, rfl, by decide +kernel, rfl, by decide +kernel, by decide +kernel⟩
abbrev s_terms_of : Stmt := top 62
abbrev n_terms_of : List Str := ["comparison"]
abbrev p_terms_of : List Str := ["comparison"]
theorem sc_terms_of : FnScope n_terms_of p_terms_of (defScope s_terms_of) := ⟨rfl, rfl, rfl, by decide +kernel, rfl, by decide +kernel, by decide +kernel⟩
abbrev s_condition_names : Stmt := top 63
abbrev n_condition_names : List Str := ["condition", "found", "comparison", "term"]
abbrev p_condition_names : List Str := ["condition"]
theorem sc_condition_names : FnScope n_condition_names p_condition_names (defScope s_condition_names) := ⟨rfl, rfl, rfl, by decide +kernel, rfl, by decide +kernel, by decide +kernel⟩
abbrev s_condition_calls : Stmt := top 64
abbrev n_condition_calls : List Str := ["condition", "found", "comparison", "term"]
abbrev p_condition_calls : List Str := ["condition"]
theorem sc_condition_calls : FnScope n_condition_calls p_condition_calls (defScope s_condition_calls) := ⟨rfl, rfl, rfl, by decide +kernel, rfl, by decide +kernel, by decide +kernel⟩
abbrev s_order_of_two : Stmt := top 71
abbrev n_order_of_two : List Str := ["divisor", "found", "rest"]
abbrev p_order_of_two : List Str := ["divisor"]
theorem sc_order_of_two : FnScope n_order_of_two p_order_of_two (defScope s_order_of_two) := ⟨rfl, rfl, rfl, by decide +kernel, rfl, by decide +kernel, by decide +kernel⟩
abbrev s_odd_part : Stmt := top 72
abbrev n_odd_part : List Str := ["number"]
abbrev p_odd_part : List Str := ["number"]
theorem sc_odd_part : FnScope n_odd_part p_odd_part (defScope s_odd_part) := ⟨rfl, rfl, rfl, by decide +kernel, rfl, by decide +kernel, by decide +kernel⟩
abbrev s_joint : Stmt := top 73
abbrev n_joint : List Str := ["one", "other"]
abbrev p_joint : List Str := ["one", "other"]
theorem sc_joint : FnScope n_joint p_joint (defScope s_joint) := ⟨rfl, rfl, rfl, by decide +kernel, rfl, by decide +kernel, by decide +kernel⟩
abbrev s_difference : Stmt := top 74
abbrev n_difference : List Str := ["comparison"]
abbrev p_difference : List Str := ["comparison"]
theorem sc_difference : FnScope n_difference p_difference (defScope s_difference) := ⟨rfl, rfl, rfl, by decide +kernel, rfl, by decide +kernel, by decide +kernel⟩
abbrev s_period_of : Stmt := top 75
abbrev n_period_of : List Str := ["rows", "unknown", "found", "comparison", "powers", "plain"]
abbrev p_period_of : List Str := ["rows", "unknown"]
theorem sc_period_of : FnScope n_period_of p_period_of (defScope s_period_of) := ⟨rfl, rfl, rfl, by decide +kernel, rfl, by decide +kernel, by decide +kernel⟩
abbrev s_forms_of : Stmt := top 76
abbrev n_forms_of : List Str := ["rows", "unknown", "found", "comparison", "term", "powers", "plain"]
abbrev p_forms_of : List Str := ["rows", "unknown"]
theorem sc_forms_of : FnScope n_forms_of p_forms_of (defScope s_forms_of) := ⟨rfl, rfl, rfl, by decide +kernel, rfl, by decide +kernel, by decide +kernel⟩
abbrev s_need_names : Stmt := top 77
abbrev n_need_names : List Str := ["names", "at", "name"]
abbrev p_need_names : List Str := ["names"]
theorem sc_need_names : FnScope n_need_names p_need_names (defScope s_need_names) := ⟨rfl, rfl, rfl, by decide +kernel, rfl, by decide +kernel, by decide +kernel⟩
abbrev s_still_small : Stmt := top 80
abbrev n_still_small : List Str := ["powers", "plain"]
abbrev p_still_small : List Str := ["powers", "plain"]
theorem sc_still_small : FnScope n_still_small p_still_small (defScope s_still_small) := ⟨rfl, rfl, rfl, by decide +kernel, rfl, by decide +kernel, by decide +kernel⟩
abbrev s_shifted : Stmt := top 82
abbrev n_shifted : List Str := ["term", "many"]
abbrev p_shifted : List Str := ["term", "many"]
theorem sc_shifted : FnScope n_shifted p_shifted (defScope s_shifted) := ⟨rfl, rfl, rfl, by decide +kernel, rfl, by decide +kernel, by decide +kernel⟩
abbrev s_opposite : Stmt := top 83
abbrev n_opposite : List Str := ["term"]
abbrev p_opposite : List Str := ["term"]
theorem sc_opposite : FnScope n_opposite p_opposite (defScope s_opposite) := ⟨rfl, rfl, rfl, by decide +kernel, rfl, by decide +kernel, by decide +kernel⟩
abbrev s_bases : Stmt := top 84
abbrev n_bases : List Str := ["powers", "plain", "rest", "sizes", "size"]
abbrev p_bases : List Str := ["powers", "plain", "rest"]
theorem sc_bases : FnScope n_bases p_bases (defScope s_bases) := ⟨rfl, rfl, rfl, by decide +kernel, rfl, by decide +kernel, by decide +kernel⟩
abbrev s_reach_of : Stmt := top 85
abbrev n_reach_of : List Str := ["powers", "period"]
abbrev p_reach_of : List Str := ["powers", "period"]
theorem sc_reach_of : FnScope n_reach_of p_reach_of (defScope s_reach_of) := ⟨rfl, rfl, rfl, by decide +kernel, rfl, by decide +kernel, by decide +kernel⟩
abbrev s__law_pull : Stmt := top 88
abbrev n__law_pull : List Str := ["_law_bag_here", "_law_many_z", "_law_cell", "_law_got", "_law_seed"]
abbrev p__law_pull : List Str := ["_law_bag_here", "_law_many_z"]
theorem sc__law_pull : FnScope n__law_pull p__law_pull (defScope s__law_pull) := ⟨rfl, rfl, rfl, by decide +kernel, rfl, by decide +kernel, by decide +kernel⟩
abbrev s__law_of : Stmt := top 89
abbrev n__law_of : List Str := ["_law_bag_here", "_law_some"]
abbrev p__law_of : List Str := ["_law_bag_here", "_law_some"]
theorem sc__law_of : FnScope n__law_of p__law_of (defScope s__law_of) := ⟨rfl, rfl, rfl, by decide +kernel, rfl, by decide +kernel, by decide +kernel⟩
abbrev s__law_same : Stmt := top 90
abbrev n__law_same : List Str := ["_law_found", "_law_due", "_law_one_z", "_law_other_z"]
abbrev p__law_same : List Str := ["_law_found", "_law_due"]
theorem sc__law_same : FnScope n__law_same p__law_same (defScope s__law_same) := ⟨rfl, rfl, rfl, by decide +kernel, rfl, by decide +kernel, by decide +kernel⟩
abbrev s__law_bag : Stmt := top 91
abbrev n__law_bag : List Str := ["_law_script"]
abbrev p__law_bag : List Str := ["_law_script"]
theorem sc__law_bag : FnScope n__law_bag p__law_bag (defScope s__law_bag) := ⟨rfl, rfl, rfl, by decide +kernel, rfl, by decide +kernel, by decide +kernel⟩
abbrev s__law_field : Stmt := top 92
abbrev n__law_field : List Str := ["_law_e"]
abbrev p__law_field : List Str := ["_law_e"]
theorem sc__law_field : FnScope n__law_field p__law_field (defScope s__law_field) := ⟨rfl, rfl, rfl, by decide +kernel, rfl, by decide +kernel, by decide +kernel⟩
abbrev s__law_why : Stmt := top 93
abbrev n__law_why : List Str := ["_law_ask_z", "_law_e"]
abbrev p__law_why : List Str := ["_law_ask_z"]
theorem sc__law_why : FnScope n__law_why p__law_why (defScope s__law_why) := ⟨rfl, rfl, rfl, by decide +kernel, rfl, by decide +kernel, by decide +kernel⟩
abbrev s_law : Stmt := top 94
abbrev n_law : List Str := ["_law_script", "_law_bag_here", "_law_y", "_law_pairs_z", "_law_turn", "_law_one_z", "_law_other_z", "_law_period_z", "_law_pair", "_law_due", "_law_wide", "_law_k", "_law_many_z", "_law_plan"]
abbrev p_law : List Str := ["_law_script"]
theorem sc_law : FnScope n_law p_law (defScope s_law) := ⟨rfl, rfl, rfl, by decide +kernel, rfl, by decide +kernel, by decide +kernel⟩
abbrev s_Wish___init__ : Stmt := inClass (top 78) 1
abbrev n_Wish___init__ : List Str := ["self", "given", "unknown", "condition", "names", "name", "rows", "comparison", "term", "powers", "plain"]
abbrev p_Wish___init__ : List Str := ["self", "given", "unknown", "condition"]
theorem sc_Wish___init__ : FnScope n_Wish___init__ p_Wish___init__ (defScope s_Wish___init__) := ⟨rfl, rfl, rfl, by decide +kernel, rfl, by decide +kernel, by decide +kernel⟩
abbrev s_Wish_period : Stmt := inClass (top 78) 6
abbrev n_Wish_period : List Str := ["self"]
abbrev p_Wish_period : List Str := ["self"]
theorem sc_Wish_period : FnScope n_Wish_period p_Wish_period (defScope s_Wish_period) := ⟨rfl, rfl, rfl, by decide +kernel, rfl, by decide +kernel, by decide +kernel⟩
abbrev s_Wish_forms : Stmt := inClass (top 78) 7
abbrev n_Wish_forms : List Str := ["self"]
abbrev p_Wish_forms : List Str := ["self"]
theorem sc_Wish_forms : FnScope n_Wish_forms p_Wish_forms (defScope s_Wish_forms) := ⟨rfl, rfl, rfl, by decide +kernel, rfl, by decide +kernel, by decide +kernel⟩
abbrev s_Wish_need_plain : Stmt := inClass (top 78) 9
abbrev n_Wish_need_plain : List Str := ["self", "name"]
abbrev p_Wish_need_plain : List Str := ["self"]
theorem sc_Wish_need_plain : FnScope n_Wish_need_plain p_Wish_need_plain (defScope s_Wish_need_plain) := ⟨rfl, rfl, rfl, by decide +kernel, rfl, by decide +kernel, by decide +kernel⟩
abbrev s_Plan___init__ : Stmt := inClass (top 86) 0
abbrev n_Plan___init__ : List Str := ["self", "wish", "forms", "period", "small", "powers", "plain", "rest", "rows", "base", "number", "more"]
abbrev p_Plan___init__ : List Str := ["self", "wish"]
theorem sc_Plan___init__ : FnScope n_Plan___init__ p_Plan___init__ (defScope s_Plan___init__) := ⟨rfl, rfl, rfl, by decide +kernel, rfl, by decide +kernel, by decide +kernel⟩
abbrev s_Plan_wish : Stmt := inClass (top 86) 1
abbrev n_Plan_wish : List Str := ["self"]
abbrev p_Plan_wish : List Str := ["self"]
theorem sc_Plan_wish : FnScope n_Plan_wish p_Plan_wish (defScope s_Plan_wish) := ⟨rfl, rfl, rfl, by decide +kernel, rfl, by decide +kernel, by decide +kernel⟩
abbrev s_Plan_terms : Stmt := inClass (top 86) 2
abbrev n_Plan_terms : List Str := ["self"]
abbrev p_Plan_terms : List Str := ["self"]
theorem sc_Plan_terms : FnScope n_Plan_terms p_Plan_terms (defScope s_Plan_terms) := ⟨rfl, rfl, rfl, by decide +kernel, rfl, by decide +kernel, by decide +kernel⟩
abbrev s_Plan___len__ : Stmt := inClass (top 86) 5
abbrev n_Plan___len__ : List Str := ["self"]
abbrev p_Plan___len__ : List Str := ["self"]
theorem sc_Plan___len__ : FnScope n_Plan___len__ p_Plan___len__ (defScope s_Plan___len__) := ⟨rfl, rfl, rfl, by decide +kernel, rfl, by decide +kernel, by decide +kernel⟩
abbrev s_InvalidName___init__ : Stmt := inClass (top 5) 0
abbrev dx_InvalidName : DefX := ⟨"InvalidName", "InvalidName.__init__", defArgs s_InvalidName___init__, defBody s_InvalidName___init__, defScope s_InvalidName___init__⟩
abbrev s_DuplicateName___init__ : Stmt := inClass (top 6) 0
abbrev dx_DuplicateName : DefX := ⟨"DuplicateName", "DuplicateName.__init__", defArgs s_DuplicateName___init__, defBody s_DuplicateName___init__, defScope s_DuplicateName___init__⟩
abbrev s_NotFlat___init__ : Stmt := inClass (top 7) 0
abbrev dx_NotFlat : DefX := ⟨"NotFlat", "NotFlat.__init__", defArgs s_NotFlat___init__, defBody s_NotFlat___init__, defScope s_NotFlat___init__⟩
abbrev s_LimitReached___init__ : Stmt := inClass (top 8) 0
abbrev dx_LimitReached : DefX := ⟨"LimitReached", "LimitReached.__init__", defArgs s_LimitReached___init__, defBody s_LimitReached___init__, defScope s_LimitReached___init__⟩
abbrev s_UnknownName___init__ : Stmt := inClass (top 10) 0
abbrev dx_UnknownName : DefX := ⟨"UnknownName", "UnknownName.__init__", defArgs s_UnknownName___init__, defBody s_UnknownName___init__, defScope s_UnknownName___init__⟩
/-! ### what the top has made -/
structure Txt (K : PySem.W.Frag) (mg : Str → Option Value) : Prop where
  g_common : mg "common" = some (.ref (He.ga K "common"))
  g_bits : mg "bits" = some (.ref (He.ga K "bits"))
  g_is_name : mg "is_name" = some (.ref (He.ga K "is_name"))
  g_parts_of : mg "parts_of" = some (.ref (He.ga K "parts_of"))
  g_names_within : mg "names_within" = some (.ref (He.ga K "names_within"))
  g_calls_within : mg "calls_within" = some (.ref (He.ga K "calls_within"))
  g_need_flat : mg "need_flat" = some (.ref (He.ga K "need_flat"))
  g_multiples : mg "multiples" = some (.ref (He.ga K "multiples"))
  g_without : mg "without" = some (.ref (He.ga K "without"))
  g_comparisons : mg "comparisons" = some (.ref (He.ga K "comparisons"))
  g_terms_of : mg "terms_of" = some (.ref (He.ga K "terms_of"))
  g_condition_names : mg "condition_names" = some (.ref (He.ga K "condition_names"))
  g_condition_calls : mg "condition_calls" = some (.ref (He.ga K "condition_calls"))
  g_order_of_two : mg "order_of_two" = some (.ref (He.ga K "order_of_two"))
  g_odd_part : mg "odd_part" = some (.ref (He.ga K "odd_part"))
  g_joint : mg "joint" = some (.ref (He.ga K "joint"))
  g_difference : mg "difference" = some (.ref (He.ga K "difference"))
  g_period_of : mg "period_of" = some (.ref (He.ga K "period_of"))
  g_forms_of : mg "forms_of" = some (.ref (He.ga K "forms_of"))
  g_need_names : mg "need_names" = some (.ref (He.ga K "need_names"))
  g_still_small : mg "still_small" = some (.ref (He.ga K "still_small"))
  g_shifted : mg "shifted" = some (.ref (He.ga K "shifted"))
  g_opposite : mg "opposite" = some (.ref (He.ga K "opposite"))
  g_bases : mg "bases" = some (.ref (He.ga K "bases"))
  g_reach_of : mg "reach_of" = some (.ref (He.ga K "reach_of"))
  g__law_pull : mg "_law_pull" = some (.ref (He.ga K "_law_pull"))
  g__law_of : mg "_law_of" = some (.ref (He.ga K "_law_of"))
  g__law_same : mg "_law_same" = some (.ref (He.ga K "_law_same"))
  g__law_bag : mg "_law_bag" = some (.ref (He.ga K "_law_bag"))
  g__law_field : mg "_law_field" = some (.ref (He.ga K "_law_field"))
  g__law_why : mg "_law_why" = some (.ref (He.ga K "_law_why"))
  g_law : mg "law" = some (.ref (He.ga K "law"))
  g_WishError : mg "WishError" = some (.ref (He.ga K "WishError"))
  g_Missing : mg "Missing" = some (.ref (He.ga K "Missing"))
  g_InvalidNumber : mg "InvalidNumber" = some (.ref (He.ga K "InvalidNumber"))
  g_InvalidText : mg "InvalidText" = some (.ref (He.ga K "InvalidText"))
  g_InvalidName : mg "InvalidName" = some (.ref (He.ga K "InvalidName"))
  g_DuplicateName : mg "DuplicateName" = some (.ref (He.ga K "DuplicateName"))
  g_NotFlat : mg "NotFlat" = some (.ref (He.ga K "NotFlat"))
  g_LimitReached : mg "LimitReached" = some (.ref (He.ga K "LimitReached"))
  g_WrongCount : mg "WrongCount" = some (.ref (He.ga K "WrongCount"))
  g_UnknownName : mg "UnknownName" = some (.ref (He.ga K "UnknownName"))
  g_NothingLeft : mg "NothingLeft" = some (.ref (He.ga K "NothingLeft"))
  g_Tower : mg "Tower" = some (.ref (He.ga K "Tower"))
  g_Reader : mg "Reader" = some (.ref (He.ga K "Reader"))
  g_Wish : mg "Wish" = some (.ref (He.ga K "Wish"))
  g_Plan : mg "Plan" = some (.ref (He.ga K "Plan"))
  c_PLAIN : ∃ t, mg "PLAIN" = some (.int 256 t)
  c_SMALL : ∃ t, mg "SMALL" = some (.int 18446744073709551616 t)
  c_MOST_DIVISOR : ∃ t, mg "MOST_DIVISOR" = some (.int 1000 t)
  c_LETTERS : ∃ t, mg "LETTERS" = some (.str "abcdefghijklmnopqrstuvwxyz" t)
  c_DIGITS : ∃ t, mg "DIGITS" = some (.str "0123456789" t)
  g_RESERVED : mg "RESERVED" = some (.ref (He.ga K "RESERVED"))
  t_RESERVED : ∀ H : Hp, SqT K H (He.ga K "RESERVED") ([(.str "len"), (.str "mod"), (.str "and"), (.str "or"), (.str "not"), (.str "true")] : List V)
  c_MOST_LETTERS : ∃ t, mg "MOST_LETTERS" = some (.int 6 t)
  c_MOST_DIGITS : ∃ t, mg "MOST_DIGITS" = some (.int 9 t)
  c_MOST_FACTOR : ∃ t, mg "MOST_FACTOR" = some (.int 99 t)
  c_MOST_DEPTH : ∃ t, mg "MOST_DEPTH" = some (.int 20 t)
  c_MOST_ARGUMENTS : ∃ t, mg "MOST_ARGUMENTS" = some (.int 3 t)
  c_MOST_MODULUS : ∃ t, mg "MOST_MODULUS" = some (.int 12 t)
  c_MOST_GIVEN : ∃ t, mg "MOST_GIVEN" = some (.int 3 t)
  c_MOST_COMPARISONS : ∃ t, mg "MOST_COMPARISONS" = some (.int 6 t)
  c_MOST_PERIOD : ∃ t, mg "MOST_PERIOD" = some (.int 60 t)
  c_MOST_MULTIPLE : ∃ t, mg "MOST_MULTIPLE" = some (.int 999 t)
  f_abs : mg "abs" = none
  f_all : mg "all" = none
  f_isinstance : mg "isinstance" = none
  f_str : mg "str" = none
  f_len : mg "len" = none
  f_list : mg "list" = none
  f_enumerate : mg "enumerate" = none
  f_int : mg "int" = none
  f_tuple : mg "tuple" = none
  f_bool : mg "bool" = none
  f_zip : mg "zip" = none
  f_range : mg "range" = none
  f_super : mg "super" = none
  f_property : mg "property" = none
  f_max : mg "max" = none
  d_common : FunD K "common" "common" (defArgs s_common) (defBody s_common) (defScope s_common) [] [] (He.fAd K ("common", none)) (fdOf K (He.fAd K ("common", none)))
  d_bits : FunD K "bits" "bits" (defArgs s_bits) (defBody s_bits) (defScope s_bits) [] [] (He.fAd K ("bits", none)) (fdOf K (He.fAd K ("bits", none)))
  d_is_name : FunD K "is_name" "is_name" (defArgs s_is_name) (defBody s_is_name) (defScope s_is_name) [] [] (He.fAd K ("is_name", none)) (fdOf K (He.fAd K ("is_name", none)))
  d_parts_of : FunD K "parts_of" "parts_of" (defArgs s_parts_of) (defBody s_parts_of) (defScope s_parts_of) [] [] (He.fAd K ("parts_of", none)) (fdOf K (He.fAd K ("parts_of", none)))
  d_names_within : FunD K "names_within" "names_within" (defArgs s_names_within) (defBody s_names_within) (defScope s_names_within) [] [] (He.fAd K ("names_within", none)) (fdOf K (He.fAd K ("names_within", none)))
  d_calls_within : FunD K "calls_within" "calls_within" (defArgs s_calls_within) (defBody s_calls_within) (defScope s_calls_within) [] [] (He.fAd K ("calls_within", none)) (fdOf K (He.fAd K ("calls_within", none)))
  d_need_flat : FunD K "need_flat" "need_flat" (defArgs s_need_flat) (defBody s_need_flat) (defScope s_need_flat) [] [] (He.fAd K ("need_flat", none)) (fdOf K (He.fAd K ("need_flat", none)))
  d_multiples : FunD K "multiples" "multiples" (defArgs s_multiples) (defBody s_multiples) (defScope s_multiples) [] [] (He.fAd K ("multiples", none)) (fdOf K (He.fAd K ("multiples", none)))
  d_without : FunD K "without" "without" (defArgs s_without) (defBody s_without) (defScope s_without) [] [] (He.fAd K ("without", none)) (fdOf K (He.fAd K ("without", none)))
  d_comparisons : FunD K "comparisons" "comparisons" (defArgs s_comparisons) (defBody s_comparisons) (defScope s_comparisons) [] [] (He.fAd K ("comparisons", none)) (fdOf K (He.fAd K ("comparisons", none)))
  d_terms_of : FunD K "terms_of" "terms_of" (defArgs s_terms_of) (defBody s_terms_of) (defScope s_terms_of) [] [] (He.fAd K ("terms_of", none)) (fdOf K (He.fAd K ("terms_of", none)))
  d_condition_names : FunD K "condition_names" "condition_names" (defArgs s_condition_names) (defBody s_condition_names) (defScope s_condition_names) [] [] (He.fAd K ("condition_names", none)) (fdOf K (He.fAd K ("condition_names", none)))
  d_condition_calls : FunD K "condition_calls" "condition_calls" (defArgs s_condition_calls) (defBody s_condition_calls) (defScope s_condition_calls) [] [] (He.fAd K ("condition_calls", none)) (fdOf K (He.fAd K ("condition_calls", none)))
  d_order_of_two : FunD K "order_of_two" "order_of_two" (defArgs s_order_of_two) (defBody s_order_of_two) (defScope s_order_of_two) [] [] (He.fAd K ("order_of_two", none)) (fdOf K (He.fAd K ("order_of_two", none)))
  d_odd_part : FunD K "odd_part" "odd_part" (defArgs s_odd_part) (defBody s_odd_part) (defScope s_odd_part) [] [] (He.fAd K ("odd_part", none)) (fdOf K (He.fAd K ("odd_part", none)))
  d_joint : FunD K "joint" "joint" (defArgs s_joint) (defBody s_joint) (defScope s_joint) [] [] (He.fAd K ("joint", none)) (fdOf K (He.fAd K ("joint", none)))
  d_difference : FunD K "difference" "difference" (defArgs s_difference) (defBody s_difference) (defScope s_difference) [] [] (He.fAd K ("difference", none)) (fdOf K (He.fAd K ("difference", none)))
  d_period_of : FunD K "period_of" "period_of" (defArgs s_period_of) (defBody s_period_of) (defScope s_period_of) [] [] (He.fAd K ("period_of", none)) (fdOf K (He.fAd K ("period_of", none)))
  d_forms_of : FunD K "forms_of" "forms_of" (defArgs s_forms_of) (defBody s_forms_of) (defScope s_forms_of) [] [] (He.fAd K ("forms_of", none)) (fdOf K (He.fAd K ("forms_of", none)))
  d_need_names : FunD K "need_names" "need_names" (defArgs s_need_names) (defBody s_need_names) (defScope s_need_names) [] [] (He.fAd K ("need_names", none)) (fdOf K (He.fAd K ("need_names", none)))
  d_still_small : FunD K "still_small" "still_small" (defArgs s_still_small) (defBody s_still_small) (defScope s_still_small) [] [] (He.fAd K ("still_small", none)) (fdOf K (He.fAd K ("still_small", none)))
  d_shifted : FunD K "shifted" "shifted" (defArgs s_shifted) (defBody s_shifted) (defScope s_shifted) [] [] (He.fAd K ("shifted", none)) (fdOf K (He.fAd K ("shifted", none)))
  d_opposite : FunD K "opposite" "opposite" (defArgs s_opposite) (defBody s_opposite) (defScope s_opposite) [] [] (He.fAd K ("opposite", none)) (fdOf K (He.fAd K ("opposite", none)))
  d_bases : FunD K "bases" "bases" (defArgs s_bases) (defBody s_bases) (defScope s_bases) [] [] (He.fAd K ("bases", none)) (fdOf K (He.fAd K ("bases", none)))
  d_reach_of : FunD K "reach_of" "reach_of" (defArgs s_reach_of) (defBody s_reach_of) (defScope s_reach_of) [] [] (He.fAd K ("reach_of", none)) (fdOf K (He.fAd K ("reach_of", none)))
  d__law_pull : FunD K "_law_pull" "_law_pull" (defArgs s__law_pull) (defBody s__law_pull) (defScope s__law_pull) [] [] (He.fAd K ("_law_pull", none)) (fdOf K (He.fAd K ("_law_pull", none)))
  d__law_of : FunD K "_law_of" "_law_of" (defArgs s__law_of) (defBody s__law_of) (defScope s__law_of) [] [] (He.fAd K ("_law_of", none)) (fdOf K (He.fAd K ("_law_of", none)))
  d__law_same : FunD K "_law_same" "_law_same" (defArgs s__law_same) (defBody s__law_same) (defScope s__law_same) [] [] (He.fAd K ("_law_same", none)) (fdOf K (He.fAd K ("_law_same", none)))
  d__law_bag : FunD K "_law_bag" "_law_bag" (defArgs s__law_bag) (defBody s__law_bag) (defScope s__law_bag) [] [] (He.fAd K ("_law_bag", none)) (fdOf K (He.fAd K ("_law_bag", none)))
  d__law_field : FunD K "_law_field" "_law_field" (defArgs s__law_field) (defBody s__law_field) (defScope s__law_field) [] [] (He.fAd K ("_law_field", none)) (fdOf K (He.fAd K ("_law_field", none)))
  d__law_why : FunD K "_law_why" "_law_why" (defArgs s__law_why) (defBody s__law_why) (defScope s__law_why) [] [] (He.fAd K ("_law_why", none)) (fdOf K (He.fAd K ("_law_why", none)))
  d_law : FunD K "law" "law" (defArgs s_law) (defBody s_law) (defScope s_law) [] [] (He.fAd K ("law", none)) (fdOf K (He.fAd K ("law", none)))
  k_Wish : Cls K (He.ga K "Wish")
  i_Wish : C8.InsC K (He.ga K "Wish")
  it_Wish : IsTys K (He.ga K "Wish")
  n_Wish_rows : NoAttr K (He.ga K "Wish") "rows"
  n_Wish_own_period : NoAttr K (He.ga K "Wish") "own_period"
  n_Wish_own_given : NoAttr K (He.ga K "Wish") "own_given"
  n_Wish_own_unknown : NoAttr K (He.ga K "Wish") "own_unknown"
  n_Wish_own_condition : NoAttr K (He.ga K "Wish") "own_condition"
  mk_Wish : Mk K (He.ga K "Wish") (He.ma K (He.ga K "Wish") "__init__")
  d_Wish___init__ : FunD K "__init__" "Wish.__init__" (defArgs s_Wish___init__) (defBody s_Wish___init__) (defScope s_Wish___init__) [] [] (He.fAd K ("Wish", some "__init__")) (fdOf K (He.fAd K ("Wish", some "__init__")))
  m_Wish___init__ : Meth K (He.ga K "Wish") "__init__" (He.ma K (He.ga K "Wish") "__init__")
  d_Wish_period : FunD K "period" "Wish.period" (defArgs s_Wish_period) (defBody s_Wish_period) (defScope s_Wish_period) [] [] (prA "Wish" "period" K) (fdOf K (prA "Wish" "period" K))
  pr_Wish_period : PropOf K (He.ga K "Wish") "period" (He.ma K (He.ga K "Wish") "period") (prA "Wish" "period" K)
  d_Wish_forms : FunD K "forms" "Wish.forms" (defArgs s_Wish_forms) (defBody s_Wish_forms) (defScope s_Wish_forms) [] [] (He.fAd K ("Wish", some "forms")) (fdOf K (He.fAd K ("Wish", some "forms")))
  m_Wish_forms : Meth K (He.ga K "Wish") "forms" (He.ma K (He.ga K "Wish") "forms")
  d_Wish_need_plain : FunD K "need_plain" "Wish.need_plain" (defArgs s_Wish_need_plain) (defBody s_Wish_need_plain) (defScope s_Wish_need_plain) [] [] (He.fAd K ("Wish", some "need_plain")) (fdOf K (He.fAd K ("Wish", some "need_plain")))
  m_Wish_need_plain : Meth K (He.ga K "Wish") "need_plain" (He.ma K (He.ga K "Wish") "need_plain")
  k_Plan : Cls K (He.ga K "Plan")
  i_Plan : C8.InsC K (He.ga K "Plan")
  it_Plan : IsTys K (He.ga K "Plan")
  n_Plan_rows : NoAttr K (He.ga K "Plan") "rows"
  n_Plan_own_wish : NoAttr K (He.ga K "Plan") "own_wish"
  mk_Plan : Mk K (He.ga K "Plan") (He.ma K (He.ga K "Plan") "__init__")
  d_Plan___init__ : FunD K "__init__" "Plan.__init__" (defArgs s_Plan___init__) (defBody s_Plan___init__) (defScope s_Plan___init__) [] [] (He.fAd K ("Plan", some "__init__")) (fdOf K (He.fAd K ("Plan", some "__init__")))
  m_Plan___init__ : Meth K (He.ga K "Plan") "__init__" (He.ma K (He.ga K "Plan") "__init__")
  d_Plan_wish : FunD K "wish" "Plan.wish" (defArgs s_Plan_wish) (defBody s_Plan_wish) (defScope s_Plan_wish) [] [] (prA "Plan" "wish" K) (fdOf K (prA "Plan" "wish" K))
  pr_Plan_wish : PropOf K (He.ga K "Plan") "wish" (He.ma K (He.ga K "Plan") "wish") (prA "Plan" "wish" K)
  d_Plan_terms : FunD K "terms" "Plan.terms" (defArgs s_Plan_terms) (defBody s_Plan_terms) (defScope s_Plan_terms) [] [] (He.fAd K ("Plan", some "terms")) (fdOf K (He.fAd K ("Plan", some "terms")))
  m_Plan_terms : Meth K (He.ga K "Plan") "terms" (He.ma K (He.ga K "Plan") "terms")
  d_Plan___len__ : FunD K "__len__" "Plan.__len__" (defArgs s_Plan___len__) (defBody s_Plan___len__) (defScope s_Plan___len__) [] [] (He.fAd K ("Plan", some "__len__")) (fdOf K (He.fAd K ("Plan", some "__len__")))
  m_Plan___len__ : Meth K (He.ga K "Plan") "__len__" (He.ma K (He.ga K "Plan") "__len__")
  x_InvalidName : MkC .ve K (He.ga K "InvalidName") ["tag", "name"]
  xm_InvalidName : PySem.W.exmAny K (.ref (He.ga K "InvalidName")) [.ref (He.ga K "WishError"), .ref (He.ga K "Missing"), .ref (He.ga K "NothingLeft")] = some true
  xi_InvalidName : ∀ {P : Program}, IsPG P → PySem.W.InitFn .ve K P (He.ga K "InvalidName") (He.ma K (He.ga K "InvalidName") "__init__") "InvalidName.__init__" (defArgs s_InvalidName___init__) (defBody s_InvalidName___init__) (defScope s_InvalidName___init__)
  x_DuplicateName : MkC .ve K (He.ga K "DuplicateName") ["tag", "name"]
  xm_DuplicateName : PySem.W.exmAny K (.ref (He.ga K "DuplicateName")) [.ref (He.ga K "WishError"), .ref (He.ga K "Missing"), .ref (He.ga K "NothingLeft")] = some true
  xi_DuplicateName : ∀ {P : Program}, IsPG P → PySem.W.InitFn .ve K P (He.ga K "DuplicateName") (He.ma K (He.ga K "DuplicateName") "__init__") "DuplicateName.__init__" (defArgs s_DuplicateName___init__) (defBody s_DuplicateName___init__) (defScope s_DuplicateName___init__)
  x_NotFlat : MkC .ve K (He.ga K "NotFlat") ["tag", "name"]
  xm_NotFlat : PySem.W.exmAny K (.ref (He.ga K "NotFlat")) [.ref (He.ga K "WishError"), .ref (He.ga K "Missing"), .ref (He.ga K "NothingLeft")] = some true
  xi_NotFlat : ∀ {P : Program}, IsPG P → PySem.W.InitFn .ve K P (He.ga K "NotFlat") (He.ma K (He.ga K "NotFlat") "__init__") "NotFlat.__init__" (defArgs s_NotFlat___init__) (defBody s_NotFlat___init__) (defScope s_NotFlat___init__)
  x_LimitReached : MkC .ve K (He.ga K "LimitReached") ["tag", "limit"]
  xm_LimitReached : PySem.W.exmAny K (.ref (He.ga K "LimitReached")) [.ref (He.ga K "WishError"), .ref (He.ga K "Missing"), .ref (He.ga K "NothingLeft")] = some true
  xi_LimitReached : ∀ {P : Program}, IsPG P → PySem.W.InitFn .ve K P (He.ga K "LimitReached") (He.ma K (He.ga K "LimitReached") "__init__") "LimitReached.__init__" (defArgs s_LimitReached___init__) (defBody s_LimitReached___init__) (defScope s_LimitReached___init__)
  x_UnknownName : MkC .le K (He.ga K "UnknownName") ["tag", "name"]
  xm_UnknownName : PySem.W.exmAny K (.ref (He.ga K "UnknownName")) [.ref (He.ga K "WishError"), .ref (He.ga K "Missing"), .ref (He.ga K "NothingLeft")] = some true
  xi_UnknownName : ∀ {P : Program}, IsPG P → PySem.W.InitFn .le K P (He.ga K "UnknownName") (He.ma K (He.ga K "UnknownName") "__init__") "UnknownName.__init__" (defArgs s_UnknownName___init__) (defBody s_UnknownName___init__) (defScope s_UnknownName___init__)
section
variable {K : PySem.W.Frag} {mg : Str → Option Value}
theorem b_common (T : Txt K mg) : Binds K (fdOf K (He.fAd K ("common", none))) p_common [] := FunD.bindsN (ps := p_common) T.d_common fun _ _ _ _ _ _ us hl => match us, hl with | [_, _], _ => rfl
theorem b_bits (T : Txt K mg) : Binds K (fdOf K (He.fAd K ("bits", none))) p_bits [] := FunD.bindsN (ps := p_bits) T.d_bits fun _ _ _ _ _ _ us hl => match us, hl with | [_], _ => rfl
theorem b_is_name (T : Txt K mg) : Binds K (fdOf K (He.fAd K ("is_name", none))) p_is_name [] := FunD.bindsN (ps := p_is_name) T.d_is_name fun _ _ _ _ _ _ us hl => match us, hl with | [_], _ => rfl
theorem b_parts_of (T : Txt K mg) : Binds K (fdOf K (He.fAd K ("parts_of", none))) p_parts_of [] := FunD.bindsN (ps := p_parts_of) T.d_parts_of fun _ _ _ _ _ _ us hl => match us, hl with | [_], _ => rfl
theorem b_names_within (T : Txt K mg) : Binds K (fdOf K (He.fAd K ("names_within", none))) p_names_within [] := FunD.bindsN (ps := p_names_within) T.d_names_within fun _ _ _ _ _ _ us hl => match us, hl with | [_], _ => rfl
theorem b_calls_within (T : Txt K mg) : Binds K (fdOf K (He.fAd K ("calls_within", none))) p_calls_within [] := FunD.bindsN (ps := p_calls_within) T.d_calls_within fun _ _ _ _ _ _ us hl => match us, hl with | [_], _ => rfl
theorem b_need_flat (T : Txt K mg) : Binds K (fdOf K (He.fAd K ("need_flat", none))) p_need_flat [] := FunD.bindsN (ps := p_need_flat) T.d_need_flat fun _ _ _ _ _ _ us hl => match us, hl with | [_, _], _ => rfl
theorem b_multiples (T : Txt K mg) : Binds K (fdOf K (He.fAd K ("multiples", none))) p_multiples [] := FunD.bindsN (ps := p_multiples) T.d_multiples fun _ _ _ _ _ _ us hl => match us, hl with | [_, _], _ => rfl
theorem b_without (T : Txt K mg) : Binds K (fdOf K (He.fAd K ("without", none))) p_without [] := FunD.bindsN (ps := p_without) T.d_without fun _ _ _ _ _ _ us hl => match us, hl with | [_, _], _ => rfl
theorem b_comparisons (T : Txt K mg) : Binds K (fdOf K (He.fAd K ("comparisons", none))) p_comparisons [] := FunD.bindsN (ps := p_comparisons) T.d_comparisons fun _ _ _ _ _ _ us hl => match us, hl with | [_], _ => rfl
theorem b_terms_of (T : Txt K mg) : Binds K (fdOf K (He.fAd K ("terms_of", none))) p_terms_of [] := FunD.bindsN (ps := p_terms_of) T.d_terms_of fun _ _ _ _ _ _ us hl => match us, hl with | [_], _ => rfl
theorem b_condition_names (T : Txt K mg) : Binds K (fdOf K (He.fAd K ("condition_names", none))) p_condition_names [] := FunD.bindsN (ps := p_condition_names) T.d_condition_names fun _ _ _ _ _ _ us hl => match us, hl with | [_], _ => rfl
theorem b_condition_calls (T : Txt K mg) : Binds K (fdOf K (He.fAd K ("condition_calls", none))) p_condition_calls [] := FunD.bindsN (ps := p_condition_calls) T.d_condition_calls fun _ _ _ _ _ _ us hl => match us, hl with | [_], _ => rfl
theorem b_order_of_two (T : Txt K mg) : Binds K (fdOf K (He.fAd K ("order_of_two", none))) p_order_of_two [] := FunD.bindsN (ps := p_order_of_two) T.d_order_of_two fun _ _ _ _ _ _ us hl => match us, hl with | [_], _ => rfl
theorem b_odd_part (T : Txt K mg) : Binds K (fdOf K (He.fAd K ("odd_part", none))) p_odd_part [] := FunD.bindsN (ps := p_odd_part) T.d_odd_part fun _ _ _ _ _ _ us hl => match us, hl with | [_], _ => rfl
theorem b_joint (T : Txt K mg) : Binds K (fdOf K (He.fAd K ("joint", none))) p_joint [] := FunD.bindsN (ps := p_joint) T.d_joint fun _ _ _ _ _ _ us hl => match us, hl with | [_, _], _ => rfl
theorem b_difference (T : Txt K mg) : Binds K (fdOf K (He.fAd K ("difference", none))) p_difference [] := FunD.bindsN (ps := p_difference) T.d_difference fun _ _ _ _ _ _ us hl => match us, hl with | [_], _ => rfl
theorem b_period_of (T : Txt K mg) : Binds K (fdOf K (He.fAd K ("period_of", none))) p_period_of [] := FunD.bindsN (ps := p_period_of) T.d_period_of fun _ _ _ _ _ _ us hl => match us, hl with | [_, _], _ => rfl
theorem b_forms_of (T : Txt K mg) : Binds K (fdOf K (He.fAd K ("forms_of", none))) p_forms_of [] := FunD.bindsN (ps := p_forms_of) T.d_forms_of fun _ _ _ _ _ _ us hl => match us, hl with | [_, _], _ => rfl
theorem b_need_names (T : Txt K mg) : Binds K (fdOf K (He.fAd K ("need_names", none))) p_need_names [] := FunD.bindsN (ps := p_need_names) T.d_need_names fun _ _ _ _ _ _ us hl => match us, hl with | [_], _ => rfl
theorem b_still_small (T : Txt K mg) : Binds K (fdOf K (He.fAd K ("still_small", none))) p_still_small [] := FunD.bindsN (ps := p_still_small) T.d_still_small fun _ _ _ _ _ _ us hl => match us, hl with | [_, _], _ => rfl
theorem b_shifted (T : Txt K mg) : Binds K (fdOf K (He.fAd K ("shifted", none))) p_shifted [] := FunD.bindsN (ps := p_shifted) T.d_shifted fun _ _ _ _ _ _ us hl => match us, hl with | [_, _], _ => rfl
theorem b_opposite (T : Txt K mg) : Binds K (fdOf K (He.fAd K ("opposite", none))) p_opposite [] := FunD.bindsN (ps := p_opposite) T.d_opposite fun _ _ _ _ _ _ us hl => match us, hl with | [_], _ => rfl
theorem b_bases (T : Txt K mg) : Binds K (fdOf K (He.fAd K ("bases", none))) p_bases [] := FunD.bindsN (ps := p_bases) T.d_bases fun _ _ _ _ _ _ us hl => match us, hl with | [_, _, _], _ => rfl
theorem b_reach_of (T : Txt K mg) : Binds K (fdOf K (He.fAd K ("reach_of", none))) p_reach_of [] := FunD.bindsN (ps := p_reach_of) T.d_reach_of fun _ _ _ _ _ _ us hl => match us, hl with | [_, _], _ => rfl
theorem b__law_pull (T : Txt K mg) : Binds K (fdOf K (He.fAd K ("_law_pull", none))) p__law_pull [] := FunD.bindsN (ps := p__law_pull) T.d__law_pull fun _ _ _ _ _ _ us hl => match us, hl with | [_, _], _ => rfl
theorem b__law_of (T : Txt K mg) : Binds K (fdOf K (He.fAd K ("_law_of", none))) p__law_of [] := FunD.bindsN (ps := p__law_of) T.d__law_of fun _ _ _ _ _ _ us hl => match us, hl with | [_, _], _ => rfl
theorem b__law_same (T : Txt K mg) : Binds K (fdOf K (He.fAd K ("_law_same", none))) p__law_same [] := FunD.bindsN (ps := p__law_same) T.d__law_same fun _ _ _ _ _ _ us hl => match us, hl with | [_, _], _ => rfl
theorem b__law_bag (T : Txt K mg) : Binds K (fdOf K (He.fAd K ("_law_bag", none))) p__law_bag [] := FunD.bindsN (ps := p__law_bag) T.d__law_bag fun _ _ _ _ _ _ us hl => match us, hl with | [_], _ => rfl
theorem b__law_field (T : Txt K mg) : Binds K (fdOf K (He.fAd K ("_law_field", none))) p__law_field [] := FunD.bindsN (ps := p__law_field) T.d__law_field fun _ _ _ _ _ _ us hl => match us, hl with | [_], _ => rfl
theorem b__law_why (T : Txt K mg) : Binds K (fdOf K (He.fAd K ("_law_why", none))) p__law_why [] := FunD.bindsN (ps := p__law_why) T.d__law_why fun _ _ _ _ _ _ us hl => match us, hl with | [_], _ => rfl
theorem b_law (T : Txt K mg) : Binds K (fdOf K (He.fAd K ("law", none))) p_law [] := FunD.bindsN (ps := p_law) T.d_law fun _ _ _ _ _ _ us hl => match us, hl with | [_], _ => rfl
theorem b_Wish___init__ (T : Txt K mg) : Binds K (fdOf K (He.fAd K ("Wish", some "__init__"))) p_Wish___init__ [] := FunD.bindsN (ps := p_Wish___init__) T.d_Wish___init__ fun _ _ _ _ _ _ us hl => match us, hl with | [_, _, _, _], _ => rfl
theorem b_Wish_period (T : Txt K mg) : Binds K (fdOf K (prA "Wish" "period" K)) p_Wish_period [] := FunD.bindsN (ps := p_Wish_period) T.d_Wish_period fun _ _ _ _ _ _ us hl => match us, hl with | [_], _ => rfl
theorem b_Wish_forms (T : Txt K mg) : Binds K (fdOf K (He.fAd K ("Wish", some "forms"))) p_Wish_forms [] := FunD.bindsN (ps := p_Wish_forms) T.d_Wish_forms fun _ _ _ _ _ _ us hl => match us, hl with | [_], _ => rfl
theorem b_Wish_need_plain (T : Txt K mg) : Binds K (fdOf K (He.fAd K ("Wish", some "need_plain"))) p_Wish_need_plain [] := FunD.bindsN (ps := p_Wish_need_plain) T.d_Wish_need_plain fun _ _ _ _ _ _ us hl => match us, hl with | [_], _ => rfl
theorem b_Plan___init__ (T : Txt K mg) : Binds K (fdOf K (He.fAd K ("Plan", some "__init__"))) p_Plan___init__ [] := FunD.bindsN (ps := p_Plan___init__) T.d_Plan___init__ fun _ _ _ _ _ _ us hl => match us, hl with | [_, _], _ => rfl
theorem b_Plan_wish (T : Txt K mg) : Binds K (fdOf K (prA "Plan" "wish" K)) p_Plan_wish [] := FunD.bindsN (ps := p_Plan_wish) T.d_Plan_wish fun _ _ _ _ _ _ us hl => match us, hl with | [_], _ => rfl
theorem b_Plan_terms (T : Txt K mg) : Binds K (fdOf K (He.fAd K ("Plan", some "terms"))) p_Plan_terms [] := FunD.bindsN (ps := p_Plan_terms) T.d_Plan_terms fun _ _ _ _ _ _ us hl => match us, hl with | [_], _ => rfl
theorem b_Plan___len__ (T : Txt K mg) : Binds K (fdOf K (He.fAd K ("Plan", some "__len__"))) p_Plan___len__ [] := FunD.bindsN (ps := p_Plan___len__) T.d_Plan___len__ fun _ _ _ _ _ _ us hl => match us, hl with | [_], _ => rfl
end
end PW
/-! ### the states at the ends of statements: looked up by a run of the machine, laid out as terms -/
namespace PW
open Lean PySem PySem.W PySem.Calls
def prg : Program := PySem.Challenge.pw_powerwish_k72_bounds_of_periods_and_of_p
structure Snp where
  steps : Nat
  s : Shared
  pos : Pos
structure Trc where
  n0 : Nat
  tok0 : Nat
  ann : Option Value
  k0 : Nat
  ta : Thread
  q : Pos
  env : Env
  s0 : Shared
  sa : Shared
  blk : Snp
  all : List Snp
  fin : Nat × Shared
def oneMore (env : Env) (n0 : Nat) (ann : Option Value) (c : Code) (q : Pos) (acc : Except String (Shared × Pos × List Snp)) (st : Stmt) : Except String (Shared × Pos × List Snp) := do
  let (s, pos, l) ← acc
  let (m, s2, p2) ← segCount prg (aWorld 2) n0 ann 100000 0 s (pieceOf st env c pos [topFrame q])
  return (s2, p2, ⟨m, s2, p2⟩ :: l)
def traceX : Except String Trc := do
  let w := aWorld 2
  match fencedOpening table prg w 600 with
  | none => .error "opening"
  | some s0 =>
    let n0 := s0.heap.objs.size
    let ann := s0.heap.nsMap mainGlobals "__annotations__"
    let (k0, sa, ta) ← preCount prg w n0 ann 100000 0 s0 (topStub prg)
    match ta.code, ta.stack with
    | .body b env, [.ret _ _ _ _ _ q _] =>
      let (kb, sb, pb) ← segCount prg w n0 ann 100000 0 sa (blockOf b env ta.code ta.pos [topFrame q])
      let (s, pos, l) ← b.foldl (oneMore env n0 ann ta.code q) (.ok (sb, pb, []))
      let (kf, sf) ← finCount prg w n0 ann 1000 0 s ⟨doneF .next, ta.code, pos, [topFrame q]⟩
      return ⟨n0, s0.toks, ann, k0, ta, q, env, s0, sa, ⟨kb, sb, pb⟩, l.reverse, (kf, sf)⟩
    | _, _ => .error "no body"
/-! terms -/
abbrev Tm_ := TSyntax `term
def ap (f : Name) (xs : Array Tm_) : Tm_ := if xs.isEmpty then ⟨mkCIdent f⟩ else Syntax.mkApp (mkCIdent f) xs
def qN (n : Nat) : Tm_ := ⟨Syntax.mkNumLit (toString n)⟩
def qI : Int → Tm_
  | .ofNat n => ap ``Int.ofNat #[qN n]
  | .negSucc n => ap ``Int.negSucc #[qN n]
def qB (b : Bool) : Tm_ := ap (if b then ``Bool.true else ``Bool.false) #[]
def qT (s : String) : Tm_ := ⟨Syntax.mkStrLit s⟩
def qS (x : PySem.Str) : Tm_ := ap ``PySem.Str.ofString #[qT x.toString]
def qL (xs : List Tm_) : Tm_ := xs.foldr (fun x r => ap ``List.cons #[x, r]) (ap ``List.nil #[])
def qA (xs : List Tm_) : Tm_ := ap ``List.toArray #[qL xs]
def qO (x : Option Tm_) : Tm_ := match x with
  | none => ap ``Option.none #[]
  | some x => ap ``Option.some #[x]
def qP (a b : Tm_) : Tm_ := ap ``Prod.mk #[a, b]
def qV : Value → Tm_
  | .none => ap ``Value.none #[]
  | .ellipsis => ap ``Value.ellipsis #[]
  | .notImplemented => ap ``Value.notImplemented #[]
  | .bool b => ap ``Value.bool #[qB b]
  | .int i t => ap ``Value.int #[qI i, qN t]
  | .str x t => ap ``Value.str #[qS x, qN t]
  | .type x => ap ``Value.type #[qT x]
  | .builtin x => ap ``Value.builtin #[qT x]
  | .ref a => ap ``Value.ref #[qN a]
  | _ => ⟨mkIdent `noSuchValue⟩
def qE (e : DictEntry) : Tm_ := ap ``DictEntry.mk #[match e.key with
  | .str x _ => ap ``PyData.keyHash #[⟨mkIdent `P⟩, qS x]
  | _ => qI e.hash, qV e.key, qV e.val]
/-- the place of a def in the text, by its qualified name and its number of parameters -/
def defIn (x : PySem.Str) (n : Nat) : List Stmt → Nat → Option Nat
  | [], _ => none
  | .FunctionDef y a _ _ _ _ _ _ _ _ :: r, i => if y == x && a.args.length == n then some i else defIn x n r (i + 1)
  | _ :: r, i => defIn x n r (i + 1)
def clsIn (x : String) : List Stmt → Nat → Option (Nat × List Stmt)
  | [], _ => none
  | .ClassDef y _ _ b _ _ _ _ _ _ _ :: r, i => if PySem.Str.toString y == x then some (i, b) else clsIn x r (i + 1)
  | _ :: r, i => clsIn x r (i + 1)
def qF (f : FuncData) : Tm_ :=
  let n := f.params.args.length
  let t (i : Nat) : Tm_ := Syntax.mkApp (mkIdent `PW.top) #[qN i]
  let st : Tm_ := match f.qualname.toString.splitOn "." with
    | [c, _] => (match clsIn c prg.main.body 0 with
      | some (i, b) => (match defIn f.name n b 0 with
        | some j => ap ``L2.inClass #[t i, qN j]
        | none => ⟨mkIdent `noSuchMethod⟩)
      | none => ⟨mkIdent `noSuchClass⟩)
    | _ => (match defIn f.name n prg.main.body 0 with
      | some i => t i
      | none => ⟨mkIdent `noSuchDef⟩)
  ap ``FuncData.mk #[qS f.name, qS f.qualname, ap ``L2.defArgs #[st], ap ``FuncBody.stmts #[ap ``L2.defBody #[st]], ap ``L2.defScope #[st], qN f.globals, qL (f.closure.map fun p => qP (qS p.1) (qN p.2)), qV f.defaults, qV f.kwdefaults, qV f.doc, qV f.pyModule,
    qO (f.annotations.map qN), qV f.code, qV f.closureTuple, qN f.builtins]
def qC (c : ClassData) : Tm_ := ap ``ClassData.mk #[qS c.name, qL (c.bases.map qV), qL (c.mro.map qV), qN c.ns, qS c.qualname, qB c.hasDict, qL (c.slotNames.map qS), qL (c.subclasses.map qV), qB c.abstract, qO (c.collection.map qB), qB c.hasDel]
def qD : Data → Tm_
  | .plain => ap ``Data.plain #[]
  | .prim v => ap ``Data.prim #[qV v]
  | .seq xs n => ap ``Data.seq #[qA (xs.toList.map qV), qN n]
  | .dict es n => ap ``Data.dict #[qA (es.toList.map qE), qN n]
  | .cell v => ap ``Data.cell #[qO (v.map qV)]
  | .func f => ap ``Data.func #[qF f]
  | .cls c => ap ``Data.cls #[qC c]
  | .fields vs => ap ``Data.fields #[qA (vs.toList.map qV)]
  | .freed => ap ``Data.freed #[]
  | _ => ⟨mkIdent `noSuchData⟩
def qJ (o : Obj) : Tm_ := ap ``Obj.mk #[qV o.cls, qO (o.dict.map qN), qD o.data, qA (o.slots.toList.map fun v => qO (v.map qV))]
/-- the objects of s' that s does not have so -/
def delta (s s' : Shared) : List (Nat × Obj) := (List.range s'.heap.objs.size).filterMap fun i => match s.heap.objs[i]?, s'.heap.objs[i]? with
  | some a, some b => if sameObjNow a b then none else some (i, b)
  | _, some b => some (i, b)
  | _, none => none
def qDl (s s' : Shared) : Tm_ := qL ((delta s s').map fun x => qP (qN x.1) (qJ x.2))
/-- the written heap: what the names reach, in that order -/
def qK (n : Nat) (s : Shared) : Tm_ := qL ((He.frT s.heap.get? (He.asD s.heap.get? n ++ [cStatics])).map fun x => qP (qN x.1) (qJ x.2))
/-- the tables of code objects of these defs -/
def tabsAt (n : Nat) (s : Shared) (ps : List He.Defn) : List Nat := ps.map fun p => (He.cT (He.frT s.heap.get? (He.asD s.heap.get? n ++ [cStatics])) p).2
def addrsAt (n : Nat) (s : Shared) : List Nat := (He.frT s.heap.get? (He.asD s.heap.get? n ++ [cStatics])).map fun x => x.1
/-- a def's name as written: C.m or f -/
def defnOf (x : String) : He.Defn := match x.splitOn "." with
  | [c, m] => (PySem.Str.ofString c, some (PySem.Str.ofString m))
  | _ => (PySem.Str.ofString x, none)
def qPos (p : Pos) : Tm_ := ap ``Pos.mk #[qN p.line, qN p.col, qN p.endLine, qN p.endCol]
/-- behind so many statements -/
def stB (t : Trc) (n : Nat) : Shared := if n == 0 then t.blk.s else match t.all[n - 1]? with
  | some x => x.s
  | none => t.blk.s
def posB (t : Trc) (n : Nat) : Pos := if n == 0 then t.blk.pos else match t.all[n - 1]? with
  | some x => x.pos
  | none => t.blk.pos
def stepsB (t : Trc) (a b : Nat) : Nat := ((t.all.drop a).take (b - a)).foldl (fun m x => m + x.steps) 0
def nums (s : String) : List Nat := (s.splitOn " ").filterMap String.toNat?
end PW
local macro_rules | `(tactic| walk_at $s:str) => do
  let x := s.getString
  if !x.startsWith "top " then Lean.Macro.throwUnsupported
  match PW.traceX with
  | .error _ => Lean.Macro.throwUnsupported
  | .ok t =>
    let a := PW.nums x
    match (x.splitOn " ")[1]?, a with
    | some "trace", _ => `(tactic| (trace $(Lean.Syntax.mkStrLit s!"n0 {t.n0} tok0 {t.tok0} k0 {t.k0} sa {t.sa.heap.objs.size} {t.sa.toks} blk {t.blk.steps} {t.blk.s.heap.objs.size} {t.blk.s.toks} fin {t.fin.1} {t.fin.2.heap.objs.size} {t.fin.2.toks} steps {t.all.map fun x => [x.steps, x.s.heap.objs.size, x.s.toks]}"):str; exact trivial))
    | some "ann", _ => `(tactic| exact $(PW.qO (t.ann.map PW.qV)))
    | some "code", _ => `(tactic| exact $(PW.qV t.env.code))
    | some "frame", _ => `(tactic| exact $(PW.qN (t.env.frame.getD 0)))
    | some "q", _ => `(tactic| exact $(PW.qPos t.q))
    | some "posA", _ => `(tactic| exact $(PW.qPos t.ta.pos))
    | some "pos", [n] => `(tactic| exact $(PW.qPos (PW.posB t n)))
    | some "da", _ => `(tactic| exact $(PW.qDl t.s0 t.sa))
    | some "db", _ => `(tactic| exact $(PW.qDl t.sa t.blk.s))
    | some "df", _ => `(tactic| exact $(PW.qDl (PW.stB t t.all.length) t.fin.2))
    | some "addrs", [n] => `(tactic| exact $(PW.qL ((PW.addrsAt n t.fin.2).map PW.qN)))
    | some "tabs", [n] => `(tactic| exact $(PW.qL ((PW.tabsAt n t.fin.2 (((x.splitOn " ").drop 3).map PW.defnOf)).map PW.qN)))
    | some "frag", [n] => `(tactic| exact $(PW.qK n t.fin.2))
    | some "d", [n, m] => `(tactic| exact $(PW.qDl (PW.stB t n) (PW.stB t m)))
    | _, _ => Lean.Macro.throwUnsupported
namespace PW
open PySem PySem.W PySem.Calls PyProof.Rows HandSHeadRun
def annV : Option Value := by walk_at "top ann"
def codeV : Value := by walk_at "top code"
def frameA : Nat := by walk_at "top frame"
def posQ : Pos := by walk_at "top q"
def posA : Pos := by walk_at "top posA"
abbrev bE : List Stmt := behindTheImports prg
def envT : Env := { scope := prg.main.scope, locals := mainNs, globals := mainNs, cells := [], code := codeV, frame := some frameA }
def codeT : Code := .body bE envT
noncomputable def da (P : Params) : List (Nat × Obj) := by walk_at "top da"
noncomputable def db (P : Params) : List (Nat × Obj) := by walk_at "top db"
noncomputable def TA (P : Params) : PySem.W.BT := insAll (bootTree P) (da P)
noncomputable def T0 (P : Params) : PySem.W.BT := insAll (TA P) (db P)
noncomputable abbrev SA (w : World) (os : OsState) : SharedT := stAt TA 15 187 w os
noncomputable abbrev S0 (w : World) (os : OsState) : SharedT := stAt T0 15 187 w os
def pos0 : Pos := by walk_at "top pos 0"
noncomputable def d1 (P : Params) : List (Nat × Obj) := by walk_at "top d 0 3"
noncomputable def T1 (P : Params) : PySem.W.BT := insAll (T0 P) (d1 P)
noncomputable abbrev S1 (w : World) (os : OsState) : SharedT := stAt T1 41 225 w os
def pos1 : Pos := by walk_at "top pos 3"
def ls1 : List Stmt := (bE.drop 0).take 3
noncomputable def d2 (P : Params) : List (Nat × Obj) := by walk_at "top d 3 5"
noncomputable def T2 (P : Params) : PySem.W.BT := insAll (T1 P) (d2 P)
noncomputable abbrev S2 (w : World) (os : OsState) : SharedT := stAt T2 83 279 w os
def pos2 : Pos := by walk_at "top pos 5"
def ls2 : List Stmt := (bE.drop 3).take 2
noncomputable def d3 (P : Params) : List (Nat × Obj) := by walk_at "top d 5 7"
noncomputable def T3 (P : Params) : PySem.W.BT := insAll (T2 P) (d3 P)
noncomputable abbrev S3 (w : World) (os : OsState) : SharedT := stAt T3 125 335 w os
def pos3 : Pos := by walk_at "top pos 7"
def ls3 : List Stmt := (bE.drop 5).take 2
noncomputable def d4 (P : Params) : List (Nat × Obj) := by walk_at "top d 7 9"
noncomputable def T4 (P : Params) : PySem.W.BT := insAll (T3 P) (d4 P)
noncomputable abbrev S4 (w : World) (os : OsState) : SharedT := stAt T4 167 391 w os
def pos4 : Pos := by walk_at "top pos 9"
def ls4 : List Stmt := (bE.drop 7).take 2
noncomputable def d5 (P : Params) : List (Nat × Obj) := by walk_at "top d 9 11"
noncomputable def T5 (P : Params) : PySem.W.BT := insAll (T4 P) (d5 P)
noncomputable abbrev S5 (w : World) (os : OsState) : SharedT := stAt T5 209 447 w os
def pos5 : Pos := by walk_at "top pos 11"
def ls5 : List Stmt := (bE.drop 9).take 2
noncomputable def d6 (P : Params) : List (Nat × Obj) := by walk_at "top d 11 26"
noncomputable def T6 (P : Params) : PySem.W.BT := insAll (T5 P) (d6 P)
noncomputable abbrev S6 (w : World) (os : OsState) : SharedT := stAt T6 299 577 w os
def pos6 : Pos := by walk_at "top pos 26"
def ls6 : List Stmt := (bE.drop 11).take 15
noncomputable def d7 (P : Params) : List (Nat × Obj) := by walk_at "top d 26 29"
noncomputable def T7 (P : Params) : PySem.W.BT := insAll (T6 P) (d7 P)
noncomputable abbrev S7 (w : World) (os : OsState) : SharedT := stAt T7 318 606 w os
def pos7 : Pos := by walk_at "top pos 29"
def ls7 : List Stmt := (bE.drop 26).take 3
noncomputable def d8 (P : Params) : List (Nat × Obj) := by walk_at "top d 29 30"
noncomputable def T8 (P : Params) : PySem.W.BT := insAll (T7 P) (d8 P)
noncomputable abbrev S8 (w : World) (os : OsState) : SharedT := stAt T8 471 802 w os
def pos8 : Pos := by walk_at "top pos 30"
def ls8 : List Stmt := (bE.drop 29).take 1
noncomputable def d9 (P : Params) : List (Nat × Obj) := by walk_at "top d 30 42"
noncomputable def T9 (P : Params) : PySem.W.BT := insAll (T8 P) (d9 P)
noncomputable abbrev S9 (w : World) (os : OsState) : SharedT := stAt T9 554 927 w os
def pos9 : Pos := by walk_at "top pos 42"
def ls9 : List Stmt := (bE.drop 30).take 12
noncomputable def d10 (P : Params) : List (Nat × Obj) := by walk_at "top d 42 62"
noncomputable def T10 (P : Params) : PySem.W.BT := insAll (T9 P) (d10 P)
noncomputable abbrev S10 (w : World) (os : OsState) : SharedT := stAt T10 672 1093 w os
def pos10 : Pos := by walk_at "top pos 62"
def ls10 : List Stmt := (bE.drop 42).take 20
noncomputable def d11 (P : Params) : List (Nat × Obj) := by walk_at "top d 62 78"
noncomputable def T11 (P : Params) : PySem.W.BT := insAll (T10 P) (d11 P)
noncomputable abbrev S11 (w : World) (os : OsState) : SharedT := stAt T11 749 1206 w os
def pos11 : Pos := by walk_at "top pos 78"
def ls11 : List Stmt := (bE.drop 62).take 16
noncomputable def d12 (P : Params) : List (Nat × Obj) := by walk_at "top d 78 79"
noncomputable def T12 (P : Params) : PySem.W.BT := insAll (T11 P) (d12 P)
noncomputable abbrev S12 (w : World) (os : OsState) : SharedT := stAt T12 850 1344 w os
def pos12 : Pos := by walk_at "top pos 79"
def ls12 : List Stmt := (bE.drop 78).take 1
noncomputable def d13 (P : Params) : List (Nat × Obj) := by walk_at "top d 79 86"
noncomputable def T13 (P : Params) : PySem.W.BT := insAll (T12 P) (d13 P)
noncomputable abbrev S13 (w : World) (os : OsState) : SharedT := stAt T13 883 1385 w os
def pos13 : Pos := by walk_at "top pos 86"
def ls13 : List Stmt := (bE.drop 79).take 7
noncomputable def d14 (P : Params) : List (Nat × Obj) := by walk_at "top d 86 91"
noncomputable def T14 (P : Params) : PySem.W.BT := insAll (T13 P) (d14 P)
noncomputable abbrev S14 (w : World) (os : OsState) : SharedT := stAt T14 966 1491 w os
def pos14 : Pos := by walk_at "top pos 91"
def ls14 : List Stmt := (bE.drop 86).take 5
noncomputable def d15 (P : Params) : List (Nat × Obj) := by walk_at "top d 91 95"
noncomputable def T15 (P : Params) : PySem.W.BT := insAll (T14 P) (d15 P)
noncomputable abbrev S15 (w : World) (os : OsState) : SharedT := stAt T15 994 1533 w os
def pos15 : Pos := by walk_at "top pos 95"
def ls15 : List Stmt := (bE.drop 91).take 4
end PW
namespace PW
open PySem PySem.W PySem.Calls PyProof.Rows HandSHeadRun
theorem preT (w : World) (os : OsState) : goG (stepT (denote treeTable) prg w) 11 annV 12 (bootT w os (bootTree w.params, 11)) (topStub prg) = some (SA w os, ⟨denote treeTable codeT, codeT, posA, [topFrame posQ]⟩) := by
  rw [stepQ_eq, denQ_eq, tabQ_eq]
  kernel_rfl
theorem blkT (w : World) (os : OsState) : segF (stepT (denote treeTable) prg w) 11 annV 1 (SA w os) (blockOf bE envT codeT posA [topFrame posQ]) = some (.next, S0 w os, codeT, pos0) := by
  rw [stepQ_eq, denQ_eq, tabQ_eq]
  kernel_rfl
theorem pc1 (w : World) : ∀ os : OsState, segF (stepT (denote treeTable) prg (w)) 11 annV 382 (S0 (w) os) (piecesOf ls1 envT codeT pos0 [topFrame posQ]) = some (.next, S1 (w) os, codeT, pos1) := by
  intro os
  rw [stepQ_eq, denQ_eq, tabQ_eq]
  kernel_rfl
theorem pc2 (w : World) : ∀ os : OsState, segF (stepT (denote treeTable) prg (w)) 11 annV 523 (S1 (w) os) (piecesOf ls2 envT codeT pos1 [topFrame posQ]) = some (.next, S2 (w) os, codeT, pos2) := by
  intro os
  rw [stepQ_eq, denQ_eq, tabQ_eq]
  kernel_rfl
theorem pc3 (w : World) : ∀ os : OsState, segF (stepT (denote treeTable) prg (w)) 11 annV 525 (S2 (w) os) (piecesOf ls3 envT codeT pos2 [topFrame posQ]) = some (.next, S3 (w) os, codeT, pos3) := by
  intro os
  rw [stepQ_eq, denQ_eq, tabQ_eq]
  kernel_rfl
theorem pc4 (w : World) : ∀ os : OsState, segF (stepT (denote treeTable) prg (w)) 11 annV 525 (S3 (w) os) (piecesOf ls4 envT codeT pos3 [topFrame posQ]) = some (.next, S4 (w) os, codeT, pos4) := by
  intro os
  rw [stepQ_eq, denQ_eq, tabQ_eq]
  kernel_rfl
theorem pc5 (w : World) : ∀ os : OsState, segF (stepT (denote treeTable) prg (w)) 11 annV 525 (S4 (w) os) (piecesOf ls5 envT codeT pos4 [topFrame posQ]) = some (.next, S5 (w) os, codeT, pos5) := by
  intro os
  rw [stepQ_eq, denQ_eq, tabQ_eq]
  kernel_rfl
theorem pc6 (w : World) : ∀ os : OsState, segF (stepT (denote treeTable) prg (w)) 11 annV 594 (S5 (w) os) (piecesOf ls6 envT codeT pos5 [topFrame posQ]) = some (.next, S6 (w) os, codeT, pos6) := by
  intro os
  rw [stepQ_eq, denQ_eq, tabQ_eq]
  kernel_rfl
theorem pc7 (w : World) : ∀ os : OsState, segF (stepT (denote treeTable) prg (w)) 11 annV 94 (S6 (w) os) (piecesOf ls7 envT codeT pos6 [topFrame posQ]) = some (.next, S7 (w) os, codeT, pos7) := by
  intro os
  rw [stepQ_eq, denQ_eq, tabQ_eq]
  kernel_rfl
theorem pc8 (w : World) : ∀ os : OsState, segF (stepT (denote treeTable) prg (w)) 11 annV 957 (S7 (w) os) (piecesOf ls8 envT codeT pos7 [topFrame posQ]) = some (.next, S8 (w) os, codeT, pos8) := by
  intro os
  rw [stepQ_eq, denQ_eq, tabQ_eq]
  kernel_rfl
theorem pc9 (w : World) : ∀ os : OsState, segF (stepT (denote treeTable) prg (w)) 11 annV 594 (S8 (w) os) (piecesOf ls9 envT codeT pos8 [topFrame posQ]) = some (.next, S9 (w) os, codeT, pos9) := by
  intro os
  rw [stepQ_eq, denQ_eq, tabQ_eq]
  kernel_rfl
theorem pc10_true (w : World) : ∀ os : OsState, segF (stepT (denote treeTable) prg (setFT w (ftOf w "special-get-raises" true))) 11 annV 586 (S9 (setFT w (ftOf w "special-get-raises" true)) os) (piecesOf ls10 envT codeT pos9 [topFrame posQ]) = some (.next, S10 (setFT w (ftOf w "special-get-raises" true)) os, codeT, pos10) := by
  intro os
  rw [stepQ_eq, denQ_eq, tabQ_eq]
  kernel_rfl
theorem pc10_false (w : World) : ∀ os : OsState, segF (stepT (denote treeTable) prg (setFT w (ftOf w "special-get-raises" false))) 11 annV 586 (S9 (setFT w (ftOf w "special-get-raises" false)) os) (piecesOf ls10 envT codeT pos9 [topFrame posQ]) = some (.next, S10 (setFT w (ftOf w "special-get-raises" false)) os, codeT, pos10) := by
  intro os
  rw [stepQ_eq, denQ_eq, tabQ_eq]
  kernel_rfl
theorem pc10 (w : World) : ∀ os : OsState, segF (stepT (denote treeTable) prg (w)) 11 annV 586 (S9 (w) os) (piecesOf ls10 envT codeT pos9 [topFrame posQ]) = some (.next, S10 (w) os, codeT, pos10) := by_row (P := fun w => ∀ os : OsState, segF (stepT (denote treeTable) prg (w)) 11 annV 586 (S9 (w) os) (piecesOf ls10 envT codeT pos9 [topFrame posQ]) = some (.next, S10 (w) os, codeT, pos10)) "special-get-raises" pc10_true pc10_false w
theorem pc11 (w : World) : ∀ os : OsState, segF (stepT (denote treeTable) prg (w)) 11 annV 391 (S10 (w) os) (piecesOf ls11 envT codeT pos10 [topFrame posQ]) = some (.next, S11 (w) os, codeT, pos11) := by
  intro os
  rw [stepQ_eq, denQ_eq, tabQ_eq]
  kernel_rfl
theorem pc12 (w : World) : ∀ os : OsState, segF (stepT (denote treeTable) prg (w)) 11 annV 953 (S11 (w) os) (piecesOf ls12 envT codeT pos11 [topFrame posQ]) = some (.next, S12 (w) os, codeT, pos12) := by
  intro os
  rw [stepQ_eq, denQ_eq, tabQ_eq]
  kernel_rfl
theorem pc13 (w : World) : ∀ os : OsState, segF (stepT (denote treeTable) prg (w)) 11 annV 164 (S12 (w) os) (piecesOf ls13 envT codeT pos12 [topFrame posQ]) = some (.next, S13 (w) os, codeT, pos13) := by
  intro os
  rw [stepQ_eq, denQ_eq, tabQ_eq]
  kernel_rfl
theorem pc14 (w : World) : ∀ os : OsState, segF (stepT (denote treeTable) prg (w)) 11 annV 573 (S13 (w) os) (piecesOf ls14 envT codeT pos13 [topFrame posQ]) = some (.next, S14 (w) os, codeT, pos14) := by
  intro os
  rw [stepQ_eq, denQ_eq, tabQ_eq]
  kernel_rfl
theorem pc15 (w : World) : ∀ os : OsState, segF (stepT (denote treeTable) prg (w)) 11 annV 131 (S14 (w) os) (piecesOf ls15 envT codeT pos14 [topFrame posQ]) = some (.next, S15 (w) os, codeT, pos15) := by
  intro os
  rw [stepQ_eq, denQ_eq, tabQ_eq]
  kernel_rfl
end PW
namespace PW
open PySem PySem.W PySem.Calls PyProof.Rows HandSHeadRun
noncomputable abbrev SF (w : World) (os : OsState) : SharedT := S15 w os
theorem bE_eq : ls1 ++ (ls2 ++ (ls3 ++ (ls4 ++ (ls5 ++ (ls6 ++ (ls7 ++ (ls8 ++ (ls9 ++ (ls10 ++ (ls11 ++ (ls12 ++ (ls13 ++ (ls14 ++ (ls15 ++ [])))))))))))))) = bE := by kernel_rfl
theorem bootTree_eq (P : Params) : putAll (boot_heap P).objs.toList .nil 0 = some (bootTree P, 11) := by kernel_rfl
theorem boot_abs (w : World) (os : OsState) : (bootT w os (bootTree w.params, 11)).abs = ⟨boot_heap w.params, #[], boot_drawn, boot_toks, os⟩ := by
  have e := putAll_heap (bootTree_eq w.params)
  show (⟨absHeap (bootTree w.params) 11 (boot_heap w.params).life, #[], boot_drawn, boot_toks, os⟩ : Shared) = _
  rw [e]
theorem endT (w : World) (os : OsState) : goF (stepT (denote treeTable) prg w) 11 annV 2 (SF w os) ⟨doneF .next, codeT, pos15, [topFrame posQ]⟩ = some (SF w os) := by
  rw [stepQ_eq, denQ_eq, tabQ_eq]
  kernel_rfl
abbrev stepsAll : Nat := 12 + (1 + (382 + (523 + (525 + (525 + (525 + (594 + (94 + (957 + (594 + (586 + (391 + (953 + (164 + (573 + (131 + (2)))))))))))))))))
theorem runT (w : World) (os : OsState) : topRun treeTable prg w 11 annV (stepsAll) ⟨boot_heap w.params, #[], boot_drawn, boot_toks, os⟩ (topStub prg) = some (SF w os).abs := by
  have h15 := piece_nil (env := envT) (goF_ok (endT w os))
  have h14 := run_app (pc15 w os) h15
  have h13 := run_app (pc14 w os) h14
  have h12 := run_app (pc13 w os) h13
  have h11 := run_app (pc12 w os) h12
  have h10 := run_app (pc11 w os) h11
  have h9 := run_app (pc10 w os) h10
  have h8 := run_app (pc9 w os) h9
  have h7 := run_app (pc8 w os) h8
  have h6 := run_app (pc7 w os) h7
  have h5 := run_app (pc6 w os) h6
  have h4 := run_app (pc5 w os) h5
  have h3 := run_app (pc4 w os) h4
  have h2 := run_app (pc3 w os) h3
  have h1 := run_app (pc2 w os) h2
  have h0 := run_app (pc1 w os) h1
  rw [bE_eq] at h0
  have hb := piece_block (segRun_of (segF_run (blkT w os))) h0
  have ht := go_top (goG_run (preT w os)) hb
  rw [boot_abs] at ht
  exact ht
def loose0 : List PySem.Str := ["WishError", "Missing", "InvalidNumber", "InvalidText", "InvalidName", "DuplicateName", "NotFlat", "LimitReached", "WrongCount", "UnknownName", "NothingLeft", "PLAIN", "SMALL", "MOST_DIVISOR", "is_whole", "common", "bits", "doubled", "power_rest", "totient", "ordered", "gathered", "settled", "tower_of", "is_number", "total", "rest_of", "Tower", "LETTERS", "DIGITS"]
def loose1 : List PySem.Str := ["RESERVED", "MOST_LETTERS", "MOST_DIGITS", "MOST_FACTOR", "MOST_DEPTH", "MOST_ARGUMENTS", "is_name", "Reader", "read_number", "read_arguments", "read_pair", "read_word", "read_term", "term_text", "parts_of", "names_within", "calls_within", "worth", "need_flat", "multiples", "without", "MOST_MODULUS", "SIGNS", "read_comparison", "read_condition", "parse_condition", "condition_text", "comparisons", "terms_of", "condition_names"]
def loose2 : List PySem.Str := ["condition_calls", "judged", "MOST_GIVEN", "MOST_COMPARISONS", "MOST_PERIOD", "MOST_MULTIPLE", "order_of_two", "odd_part", "joint", "difference", "period_of", "forms_of", "need_names", "Wish", "still_small", "shifted", "opposite", "bases", "reach_of", "Plan", "_law_pull", "_law_of", "_law_same", "_law_bag", "_law_field", "_law_why"]
def loose : List PySem.Str := loose0 ++ loose1 ++ loose2
abbrev R : OpenRow := OpenLaw.row PySem.Challenge.rw_powerwish_k72_bounds_of_periods_and_of_p
def vw : Program := view prg [94]
abbrev seeX (s : Shared) : Bool := xlAt vw [] s && recOk (OpenRow.toRowW R).records s
theorem lookA (w : World) (os : OsState) : looksF prg (boot_heap w.params) (SF w os).abs = true := by kernel_rfl
theorem lookB (w : World) (os : OsState) : openSeen vw loose (importedModules prg.main.body) seeX true (SF w os).abs = openGood vw loose := by
  rw [seenQ_eq]
  kernel_rfl
end PW
namespace PW
open PySem PySem.Spec PyProof.Rows L2
noncomputable abbrev gT (w : World) : Addr → Option Obj := HandSHeadRun.getT (SF w {})
noncomputable def KL (P : Params) : PySem.W.Frag := by walk_at "top frag 6"
noncomputable abbrev KH (w : World) : PySem.W.Frag := KL w.params
def asL : List Addr := by walk_at "top addrs 6"
def tsL : List Addr := by walk_at "top tabs 6 law"
theorem asL_eq (P : Params) : asL = (KL P).map (·.1) := by kernel_rfl
noncomputable def hk : PySem.W.Hook := PySem.W.kmHook KL asL asL_eq tsL
theorem lookK (w : World) : asL.map (gT w) = (KL w.params).map fun p => some p.2 := by kernel_rfl
theorem lookT (w : World) : tsL.map (gT w) = tsL.map fun _ => some (PySem.W.tabObj #[]) := by kernel_rfl
theorem lookC (w : World) (os : PySem.OsState) : hk.obs (SF w os).abs = hk.val w := km_look (g := gT w) (fun a => by kernel_rfl) (lookK w) (lookT w)
end PW
namespace PW
open PySem PySem.W PySem.Calls PyProof.Rows HandSHeadRun
theorem open_eq : opening prg = plainProg prg.main.scope.names := by kernel_rfl
theorem fence_eq (s : Shared) : fenceModules? prg s = some s := by kernel_rfl
theorem size_eq (w : World) : ((boot_heap w.params).isNs mainGlobals && (#[] : Array GenState).size == 0, (boot_heap w.params).objs.size, (boot_heap w.params).nsMap mainGlobals "__annotations__") = (true, 11, annV) := by kernel_rfl
theorem left : LeftO prg vw loose seeX hk.obs hk.val 100000 true := left_of (T := T15) (n := 994) (k := 1533) (m0 := 11) (ann := annV) (M := stepsAll) open_eq fence_eq size_eq runT (by kernel_rfl) lookA lookB lookC
end PW
namespace PW
open PySem PySem.Spec PyProof.Rows L2
def d_common : He.DefD := ⟨("common", none), "common", "common", defArgs s_common, defBody s_common, defScope s_common, [], []⟩
def d_bits : He.DefD := ⟨("bits", none), "bits", "bits", defArgs s_bits, defBody s_bits, defScope s_bits, [], []⟩
def d_is_name : He.DefD := ⟨("is_name", none), "is_name", "is_name", defArgs s_is_name, defBody s_is_name, defScope s_is_name, [], []⟩
def d_parts_of : He.DefD := ⟨("parts_of", none), "parts_of", "parts_of", defArgs s_parts_of, defBody s_parts_of, defScope s_parts_of, [], []⟩
def d_names_within : He.DefD := ⟨("names_within", none), "names_within", "names_within", defArgs s_names_within, defBody s_names_within, defScope s_names_within, [], []⟩
def d_calls_within : He.DefD := ⟨("calls_within", none), "calls_within", "calls_within", defArgs s_calls_within, defBody s_calls_within, defScope s_calls_within, [], []⟩
def d_need_flat : He.DefD := ⟨("need_flat", none), "need_flat", "need_flat", defArgs s_need_flat, defBody s_need_flat, defScope s_need_flat, [], []⟩
def d_multiples : He.DefD := ⟨("multiples", none), "multiples", "multiples", defArgs s_multiples, defBody s_multiples, defScope s_multiples, [], []⟩
def d_without : He.DefD := ⟨("without", none), "without", "without", defArgs s_without, defBody s_without, defScope s_without, [], []⟩
def d_comparisons : He.DefD := ⟨("comparisons", none), "comparisons", "comparisons", defArgs s_comparisons, defBody s_comparisons, defScope s_comparisons, [], []⟩
def d_terms_of : He.DefD := ⟨("terms_of", none), "terms_of", "terms_of", defArgs s_terms_of, defBody s_terms_of, defScope s_terms_of, [], []⟩
def d_condition_names : He.DefD := ⟨("condition_names", none), "condition_names", "condition_names", defArgs s_condition_names, defBody s_condition_names, defScope s_condition_names, [], []⟩
def d_condition_calls : He.DefD := ⟨("condition_calls", none), "condition_calls", "condition_calls", defArgs s_condition_calls, defBody s_condition_calls, defScope s_condition_calls, [], []⟩
def d_order_of_two : He.DefD := ⟨("order_of_two", none), "order_of_two", "order_of_two", defArgs s_order_of_two, defBody s_order_of_two, defScope s_order_of_two, [], []⟩
def d_odd_part : He.DefD := ⟨("odd_part", none), "odd_part", "odd_part", defArgs s_odd_part, defBody s_odd_part, defScope s_odd_part, [], []⟩
def d_joint : He.DefD := ⟨("joint", none), "joint", "joint", defArgs s_joint, defBody s_joint, defScope s_joint, [], []⟩
def d_difference : He.DefD := ⟨("difference", none), "difference", "difference", defArgs s_difference, defBody s_difference, defScope s_difference, [], []⟩
def d_period_of : He.DefD := ⟨("period_of", none), "period_of", "period_of", defArgs s_period_of, defBody s_period_of, defScope s_period_of, [], []⟩
def d_forms_of : He.DefD := ⟨("forms_of", none), "forms_of", "forms_of", defArgs s_forms_of, defBody s_forms_of, defScope s_forms_of, [], []⟩
def d_need_names : He.DefD := ⟨("need_names", none), "need_names", "need_names", defArgs s_need_names, defBody s_need_names, defScope s_need_names, [], []⟩
def d_still_small : He.DefD := ⟨("still_small", none), "still_small", "still_small", defArgs s_still_small, defBody s_still_small, defScope s_still_small, [], []⟩
def d_shifted : He.DefD := ⟨("shifted", none), "shifted", "shifted", defArgs s_shifted, defBody s_shifted, defScope s_shifted, [], []⟩
def d_opposite : He.DefD := ⟨("opposite", none), "opposite", "opposite", defArgs s_opposite, defBody s_opposite, defScope s_opposite, [], []⟩
def d_bases : He.DefD := ⟨("bases", none), "bases", "bases", defArgs s_bases, defBody s_bases, defScope s_bases, [], []⟩
def d_reach_of : He.DefD := ⟨("reach_of", none), "reach_of", "reach_of", defArgs s_reach_of, defBody s_reach_of, defScope s_reach_of, [], []⟩
def d__law_pull : He.DefD := ⟨("_law_pull", none), "_law_pull", "_law_pull", defArgs s__law_pull, defBody s__law_pull, defScope s__law_pull, [], []⟩
def d__law_of : He.DefD := ⟨("_law_of", none), "_law_of", "_law_of", defArgs s__law_of, defBody s__law_of, defScope s__law_of, [], []⟩
def d__law_same : He.DefD := ⟨("_law_same", none), "_law_same", "_law_same", defArgs s__law_same, defBody s__law_same, defScope s__law_same, [], []⟩
def d__law_bag : He.DefD := ⟨("_law_bag", none), "_law_bag", "_law_bag", defArgs s__law_bag, defBody s__law_bag, defScope s__law_bag, [], []⟩
def d__law_field : He.DefD := ⟨("_law_field", none), "_law_field", "_law_field", defArgs s__law_field, defBody s__law_field, defScope s__law_field, [], []⟩
def d__law_why : He.DefD := ⟨("_law_why", none), "_law_why", "_law_why", defArgs s__law_why, defBody s__law_why, defScope s__law_why, [], []⟩
def d_law : He.DefD := ⟨("law", none), "law", "law", defArgs s_law, defBody s_law, defScope s_law, [], []⟩
def d_Wish___init__ : He.DefD := ⟨("Wish", some "__init__"), "__init__", "Wish.__init__", defArgs s_Wish___init__, defBody s_Wish___init__, defScope s_Wish___init__, [], []⟩
def d_Wish_forms : He.DefD := ⟨("Wish", some "forms"), "forms", "Wish.forms", defArgs s_Wish_forms, defBody s_Wish_forms, defScope s_Wish_forms, [], []⟩
def d_Wish_need_plain : He.DefD := ⟨("Wish", some "need_plain"), "need_plain", "Wish.need_plain", defArgs s_Wish_need_plain, defBody s_Wish_need_plain, defScope s_Wish_need_plain, [], []⟩
def d_Plan___init__ : He.DefD := ⟨("Plan", some "__init__"), "__init__", "Plan.__init__", defArgs s_Plan___init__, defBody s_Plan___init__, defScope s_Plan___init__, [], []⟩
def d_Plan_terms : He.DefD := ⟨("Plan", some "terms"), "terms", "Plan.terms", defArgs s_Plan_terms, defBody s_Plan_terms, defScope s_Plan_terms, [], []⟩
def d_Plan___len__ : He.DefD := ⟨("Plan", some "__len__"), "__len__", "Plan.__len__", defArgs s_Plan___len__, defBody s_Plan___len__, defScope s_Plan___len__, [], []⟩
def d_Wish_period : DefA := ⟨prA "Wish" "period", "period", "Wish.period", defArgs s_Wish_period, defBody s_Wish_period, defScope s_Wish_period⟩
def d_Plan_wish : DefA := ⟨prA "Plan" "wish", "wish", "Plan.wish", defArgs s_Plan_wish, defBody s_Plan_wish, defScope s_Plan_wish⟩
def fn0 : List He.DefD := [d_common, d_bits, d_is_name, d_parts_of, d_names_within, d_calls_within, d_need_flat, d_multiples]
def fn1 : List He.DefD := [d_without, d_comparisons, d_terms_of, d_condition_names, d_condition_calls, d_order_of_two, d_odd_part, d_joint]
def fn2 : List He.DefD := [d_difference, d_period_of, d_forms_of, d_need_names, d_still_small, d_shifted, d_opposite, d_bases]
def fn3 : List He.DefD := [d_reach_of, d__law_pull, d__law_of, d__law_same, d__law_bag, d__law_field, d__law_why, d_law]
def fn4 : List He.DefD := [d_Wish___init__, d_Wish_forms, d_Wish_need_plain, d_Plan___init__, d_Plan_terms, d_Plan___len__]
def fn : List He.DefD := fn0 ++ fn1 ++ fn2 ++ fn3 ++ fn4
def fs0 : List DefA := [d_Wish_period, d_Plan_wish]
def fs : List DefA := fs0
def fa0 : List He.Fa := [.glo "common", .glo "bits", .glo "is_name", .glo "parts_of", .glo "names_within", .glo "calls_within", .glo "need_flat", .glo "multiples", .glo "without", .glo "comparisons", .glo "terms_of", .glo "condition_names", .glo "condition_calls", .glo "order_of_two", .glo "odd_part", .glo "joint", .glo "difference", .glo "period_of", .glo "forms_of", .glo "need_names"]
def fa1 : List He.Fa := [.glo "still_small", .glo "shifted", .glo "opposite", .glo "bases", .glo "reach_of", .glo "_law_pull", .glo "_law_of", .glo "_law_same", .glo "_law_bag", .glo "_law_field", .glo "_law_why", .glo "law", .glo "WishError", .glo "Missing", .glo "InvalidNumber", .glo "InvalidText", .glo "InvalidName", .glo "DuplicateName", .glo "NotFlat", .glo "LimitReached"]
def fa2 : List He.Fa := [.glo "WrongCount", .glo "UnknownName", .glo "NothingLeft", .glo "Tower", .glo "Reader", .glo "Wish", .glo "Plan", .int "PLAIN" 256, .int "SMALL" 18446744073709551616, .int "MOST_DIVISOR" 1000, .str "LETTERS" "abcdefghijklmnopqrstuvwxyz", .str "DIGITS" "0123456789", .glo "RESERVED", .int "MOST_LETTERS" 6, .int "MOST_DIGITS" 9, .int "MOST_FACTOR" 99, .int "MOST_DEPTH" 20, .int "MOST_ARGUMENTS" 3, .int "MOST_MODULUS" 12, .int "MOST_GIVEN" 3]
def fa3 : List He.Fa := [.int "MOST_COMPARISONS" 6, .int "MOST_PERIOD" 60, .int "MOST_MULTIPLE" 999, .free "abs", .free "all", .free "isinstance", .free "str", .free "len", .free "list", .free "enumerate", .free "int", .free "tuple", .free "bool", .free "zip", .free "range", .free "super", .free "property", .free "max", .cls "Wish", .noat "Wish" "rows"]
def fa4 : List He.Fa := [.noat "Wish" "own_period", .noat "Wish" "own_given", .noat "Wish" "own_unknown", .noat "Wish" "own_condition", .mkr "Wish", .meth "Wish" "__init__", .meth "Wish" "forms", .meth "Wish" "need_plain", .cls "Plan", .noat "Plan" "rows", .noat "Plan" "own_wish", .mkr "Plan", .meth "Plan" "__init__", .meth "Plan" "terms", .meth "Plan" "__len__"]
def fa : List He.Fa := fa0 ++ fa1 ++ fa2 ++ fa3 ++ fa4
def ex0 (K : PySem.W.Frag) : List Bool := [He.tupB K "RESERVED" [(.str "len"), (.str "mod"), (.str "and"), (.str "or"), (.str "not"), (.str "true")], insB K (He.ga K "Wish"), isTysB K (He.ga K "Wish"), propB K (He.ga K "Wish") "period" (He.ma K (He.ga K "Wish") "period") (prA "Wish" "period" K)]
def ex1 (K : PySem.W.Frag) : List Bool := [insB K (He.ga K "Plan"), isTysB K (He.ga K "Plan"), propB K (He.ga K "Plan") "wish" (He.ma K (He.ga K "Plan") "wish") (prA "Plan" "wish" K), mkB .ve K (He.ga K "InvalidName") ["tag", "name"]]
def ex2 (K : PySem.W.Frag) : List Bool := [decide (PySem.W.exmAny K (.ref (He.ga K "InvalidName")) [.ref (He.ga K "WishError"), .ref (He.ga K "Missing"), .ref (He.ga K "NothingLeft")] = some true), mkB .ve K (He.ga K "DuplicateName") ["tag", "name"], decide (PySem.W.exmAny K (.ref (He.ga K "DuplicateName")) [.ref (He.ga K "WishError"), .ref (He.ga K "Missing"), .ref (He.ga K "NothingLeft")] = some true), mkB .ve K (He.ga K "NotFlat") ["tag", "name"]]
def ex3 (K : PySem.W.Frag) : List Bool := [decide (PySem.W.exmAny K (.ref (He.ga K "NotFlat")) [.ref (He.ga K "WishError"), .ref (He.ga K "Missing"), .ref (He.ga K "NothingLeft")] = some true), mkB .ve K (He.ga K "LimitReached") ["tag", "limit"], decide (PySem.W.exmAny K (.ref (He.ga K "LimitReached")) [.ref (He.ga K "WishError"), .ref (He.ga K "Missing"), .ref (He.ga K "NothingLeft")] = some true), mkB .le K (He.ga K "UnknownName") ["tag", "name"]]
def ex4 (K : PySem.W.Frag) : List Bool := [decide (PySem.W.exmAny K (.ref (He.ga K "UnknownName")) [.ref (He.ga K "WishError"), .ref (He.ga K "Missing"), .ref (He.ga K "NothingLeft")] = some true)]
def ex (K : PySem.W.Frag) : List Bool := ex0 K ++ ex1 K ++ ex2 K ++ ex3 K ++ ex4 K
theorem fa0_ok (w : World) : (fa0.all fun f => f.ok (KH w)) = true := by kernel_rfl
theorem fa1_ok (w : World) : (fa1.all fun f => f.ok (KH w)) = true := by kernel_rfl
theorem fa2_ok (w : World) : (fa2.all fun f => f.ok (KH w)) = true := by kernel_rfl
theorem fa3_ok (w : World) : (fa3.all fun f => f.ok (KH w)) = true := by kernel_rfl
theorem fa4_ok (w : World) : (fa4.all fun f => f.ok (KH w)) = true := by kernel_rfl
theorem fn0_ok (w : World) : (fn0.all fun d => d.ok (KH w)) = true := by kernel_rfl
theorem fn0_v (w : World) : (fn0.map fun d => He.fnW (KH w) d.at_) = fn0.map He.DefD.val := by kernel_rfl
theorem fn1_ok (w : World) : (fn1.all fun d => d.ok (KH w)) = true := by kernel_rfl
theorem fn1_v (w : World) : (fn1.map fun d => He.fnW (KH w) d.at_) = fn1.map He.DefD.val := by kernel_rfl
theorem fn2_ok (w : World) : (fn2.all fun d => d.ok (KH w)) = true := by kernel_rfl
theorem fn2_v (w : World) : (fn2.map fun d => He.fnW (KH w) d.at_) = fn2.map He.DefD.val := by kernel_rfl
theorem fn3_ok (w : World) : (fn3.all fun d => d.ok (KH w)) = true := by kernel_rfl
theorem fn3_v (w : World) : (fn3.map fun d => He.fnW (KH w) d.at_) = fn3.map He.DefD.val := by kernel_rfl
theorem fn4_ok (w : World) : (fn4.all fun d => d.ok (KH w)) = true := by kernel_rfl
theorem fn4_v (w : World) : (fn4.map fun d => He.fnW (KH w) d.at_) = fn4.map He.DefD.val := by kernel_rfl
theorem fs0_ok (w : World) : (fs0.all fun d => d.ok (KH w)) = true := by kernel_rfl
theorem fs0_v (w : World) : fs0.map (fnWA (KH w)) = fs0.map DefA.val := by kernel_rfl
theorem ex0_ok (w : World) : (ex0 (KH w)).all id = true := by kernel_rfl
theorem ex1_ok (w : World) : (ex1 (KH w)).all id = true := by kernel_rfl
theorem ex2_ok (w : World) : (ex2 (KH w)).all id = true := by kernel_rfl
theorem ex3_ok (w : World) : (ex3 (KH w)).all id = true := by kernel_rfl
theorem ex4_ok (w : World) : (ex4 (KH w)).all id = true := by kernel_rfl
theorem fa_ok (w : World) : (fa.all fun f => f.ok (KH w)) = true := by
  show List.all (fa0 ++ fa1 ++ fa2 ++ fa3 ++ fa4) _ = true
  simp only [List.all_append, Bool.and_eq_true]
  exact ⟨⟨⟨⟨fa0_ok w, fa1_ok w⟩, fa2_ok w⟩, fa3_ok w⟩, fa4_ok w⟩
theorem fn_ok (w : World) : (fn.all fun d => d.ok (KH w)) = true := by
  show List.all (fn0 ++ fn1 ++ fn2 ++ fn3 ++ fn4) _ = true
  simp only [List.all_append, Bool.and_eq_true]
  exact ⟨⟨⟨⟨fn0_ok w, fn1_ok w⟩, fn2_ok w⟩, fn3_ok w⟩, fn4_ok w⟩
theorem fs_ok (w : World) : (fs.all fun d => d.ok (KH w)) = true := by
  show List.all (fs0) _ = true
  exact fs0_ok w
theorem ex_ok (w : World) : (ex (KH w)).all id = true := by
  show List.all (ex0 (KH w) ++ ex1 (KH w) ++ ex2 (KH w) ++ ex3 (KH w) ++ ex4 (KH w)) _ = true
  simp only [List.all_append, Bool.and_eq_true]
  exact ⟨⟨⟨⟨ex0_ok w, ex1_ok w⟩, ex2_ok w⟩, ex3_ok w⟩, ex4_ok w⟩
theorem fn_v (w : World) : (fn.map fun d => He.fnW (KH w) d.at_) = fn.map He.DefD.val := by
  show List.map _ (fn0 ++ fn1 ++ fn2 ++ fn3 ++ fn4) = List.map _ (fn0 ++ fn1 ++ fn2 ++ fn3 ++ fn4)
  simp only [List.map_append, fn0_v w, fn1_v w, fn2_v w, fn3_v w, fn4_v w]
theorem fs_v (w : World) : fs.map (fnWA (KH w)) = fs.map DefA.val := by
  show List.map _ fs0 = List.map _ fs0
  exact fs0_v w
theorem saysM (w : World) : SaysM fa fn fs ex (KH w) := by
  refine saysM_of ?_
  unfold obsM valM He.obsD He.valD
  rw [fa_ok w, fn_ok w, fs_ok w, ex_ok w, fn_v w, fs_v w]
  rfl
def fx : List DefX := [dx_InvalidName, dx_DuplicateName, dx_NotFlat, dx_LimitReached, dx_UnknownName]
def tf : List He.Defn := [("law", none)]
theorem dx_InvalidName_v (w : World) : fnWX (KH w) dx_InvalidName = dx_InvalidName.val := by kernel_rfl
theorem dx_InvalidName_ok (w : World) : dx_InvalidName.ok (KH w) = true := by kernel_rfl
theorem dx_DuplicateName_v (w : World) : fnWX (KH w) dx_DuplicateName = dx_DuplicateName.val := by kernel_rfl
theorem dx_DuplicateName_ok (w : World) : dx_DuplicateName.ok (KH w) = true := by kernel_rfl
theorem dx_NotFlat_v (w : World) : fnWX (KH w) dx_NotFlat = dx_NotFlat.val := by kernel_rfl
theorem dx_NotFlat_ok (w : World) : dx_NotFlat.ok (KH w) = true := by kernel_rfl
theorem dx_LimitReached_v (w : World) : fnWX (KH w) dx_LimitReached = dx_LimitReached.val := by kernel_rfl
theorem dx_LimitReached_ok (w : World) : dx_LimitReached.ok (KH w) = true := by kernel_rfl
theorem dx_UnknownName_v (w : World) : fnWX (KH w) dx_UnknownName = dx_UnknownName.val := by kernel_rfl
theorem dx_UnknownName_ok (w : World) : dx_UnknownName.ok (KH w) = true := by kernel_rfl
theorem fx_ok (w : World) : ∀ d ∈ fx, fnWX (KH w) d = d.val ∧ d.ok (KH w) = true := List.forall_mem_cons.mpr ⟨⟨dx_InvalidName_v w, dx_InvalidName_ok w⟩, List.forall_mem_cons.mpr ⟨⟨dx_DuplicateName_v w, dx_DuplicateName_ok w⟩, List.forall_mem_cons.mpr ⟨⟨dx_NotFlat_v w, dx_NotFlat_ok w⟩, List.forall_mem_cons.mpr ⟨⟨dx_LimitReached_v w, dx_LimitReached_ok w⟩, List.forall_mem_cons.mpr ⟨⟨dx_UnknownName_v w, dx_UnknownName_ok w⟩, fun _ h => nomatch h⟩⟩⟩⟩⟩
theorem tf_hd (w : World) : (tf.all fun p => PySem.W.codeHdIn (KH w) (He.cT (KH w) p).1 (He.cT (KH w) p).2) = true := by kernel_rfl
theorem tf_out (w : World) : (tf.all fun p => ((KH w).lookup (He.cT (KH w) p).2).isNone) = true := by kernel_rfl
noncomputable def tA (w : World) : List Addr := tf.map fun p => (He.cT (KH w) p).2
def ts : List He.Tab := []
theorem saysTb (w : World) : SaysTb ts w (KH w) := by
  unfold SaysTb
  kernel_rfl
theorem saysN {as : List Addr} {w : World} {h : Heap} (ha : tA w = as) (Y : ∀ P ∈ as, h.get? P = some (PySem.W.tabObj #[])) : SaysN fa fn fs fx tf ex h (KH w) := by
  subst ha
  refine ⟨saysM w, fx_ok w, fun p hp => List.all_eq_true.mp (tf_hd w) p hp, fun p hp => ?_, fun p hp => Y _ (List.mem_map.mpr ⟨p, hp, rfl⟩)⟩
  have := List.all_eq_true.mp (tf_out w) p hp
  simpa using this
theorem txt_of {K : PySem.W.Frag} {h : Heap} {mg : Str → Option Value} (X : K.In h) (G : h.Ns mainGlobals mg) (c0 : SaysN fa fn fs fx tf ex h K) (c : SaysM fa fn fs ex K) : Txt K mg where
  g_common := He.glo_ok X G (c.d.fact 0 (f := .glo "common") rfl)
  g_bits := He.glo_ok X G (c.d.fact 1 (f := .glo "bits") rfl)
  g_is_name := He.glo_ok X G (c.d.fact 2 (f := .glo "is_name") rfl)
  g_parts_of := He.glo_ok X G (c.d.fact 3 (f := .glo "parts_of") rfl)
  g_names_within := He.glo_ok X G (c.d.fact 4 (f := .glo "names_within") rfl)
  g_calls_within := He.glo_ok X G (c.d.fact 5 (f := .glo "calls_within") rfl)
  g_need_flat := He.glo_ok X G (c.d.fact 6 (f := .glo "need_flat") rfl)
  g_multiples := He.glo_ok X G (c.d.fact 7 (f := .glo "multiples") rfl)
  g_without := He.glo_ok X G (c.d.fact 8 (f := .glo "without") rfl)
  g_comparisons := He.glo_ok X G (c.d.fact 9 (f := .glo "comparisons") rfl)
  g_terms_of := He.glo_ok X G (c.d.fact 10 (f := .glo "terms_of") rfl)
  g_condition_names := He.glo_ok X G (c.d.fact 11 (f := .glo "condition_names") rfl)
  g_condition_calls := He.glo_ok X G (c.d.fact 12 (f := .glo "condition_calls") rfl)
  g_order_of_two := He.glo_ok X G (c.d.fact 13 (f := .glo "order_of_two") rfl)
  g_odd_part := He.glo_ok X G (c.d.fact 14 (f := .glo "odd_part") rfl)
  g_joint := He.glo_ok X G (c.d.fact 15 (f := .glo "joint") rfl)
  g_difference := He.glo_ok X G (c.d.fact 16 (f := .glo "difference") rfl)
  g_period_of := He.glo_ok X G (c.d.fact 17 (f := .glo "period_of") rfl)
  g_forms_of := He.glo_ok X G (c.d.fact 18 (f := .glo "forms_of") rfl)
  g_need_names := He.glo_ok X G (c.d.fact 19 (f := .glo "need_names") rfl)
  g_still_small := He.glo_ok X G (c.d.fact 20 (f := .glo "still_small") rfl)
  g_shifted := He.glo_ok X G (c.d.fact 21 (f := .glo "shifted") rfl)
  g_opposite := He.glo_ok X G (c.d.fact 22 (f := .glo "opposite") rfl)
  g_bases := He.glo_ok X G (c.d.fact 23 (f := .glo "bases") rfl)
  g_reach_of := He.glo_ok X G (c.d.fact 24 (f := .glo "reach_of") rfl)
  g__law_pull := He.glo_ok X G (c.d.fact 25 (f := .glo "_law_pull") rfl)
  g__law_of := He.glo_ok X G (c.d.fact 26 (f := .glo "_law_of") rfl)
  g__law_same := He.glo_ok X G (c.d.fact 27 (f := .glo "_law_same") rfl)
  g__law_bag := He.glo_ok X G (c.d.fact 28 (f := .glo "_law_bag") rfl)
  g__law_field := He.glo_ok X G (c.d.fact 29 (f := .glo "_law_field") rfl)
  g__law_why := He.glo_ok X G (c.d.fact 30 (f := .glo "_law_why") rfl)
  g_law := He.glo_ok X G (c.d.fact 31 (f := .glo "law") rfl)
  g_WishError := He.glo_ok X G (c.d.fact 32 (f := .glo "WishError") rfl)
  g_Missing := He.glo_ok X G (c.d.fact 33 (f := .glo "Missing") rfl)
  g_InvalidNumber := He.glo_ok X G (c.d.fact 34 (f := .glo "InvalidNumber") rfl)
  g_InvalidText := He.glo_ok X G (c.d.fact 35 (f := .glo "InvalidText") rfl)
  g_InvalidName := He.glo_ok X G (c.d.fact 36 (f := .glo "InvalidName") rfl)
  g_DuplicateName := He.glo_ok X G (c.d.fact 37 (f := .glo "DuplicateName") rfl)
  g_NotFlat := He.glo_ok X G (c.d.fact 38 (f := .glo "NotFlat") rfl)
  g_LimitReached := He.glo_ok X G (c.d.fact 39 (f := .glo "LimitReached") rfl)
  g_WrongCount := He.glo_ok X G (c.d.fact 40 (f := .glo "WrongCount") rfl)
  g_UnknownName := He.glo_ok X G (c.d.fact 41 (f := .glo "UnknownName") rfl)
  g_NothingLeft := He.glo_ok X G (c.d.fact 42 (f := .glo "NothingLeft") rfl)
  g_Tower := He.glo_ok X G (c.d.fact 43 (f := .glo "Tower") rfl)
  g_Reader := He.glo_ok X G (c.d.fact 44 (f := .glo "Reader") rfl)
  g_Wish := He.glo_ok X G (c.d.fact 45 (f := .glo "Wish") rfl)
  g_Plan := He.glo_ok X G (c.d.fact 46 (f := .glo "Plan") rfl)
  c_PLAIN := He.int_ok X G (c.d.fact 47 (f := .int "PLAIN" 256) rfl)
  c_SMALL := He.int_ok X G (c.d.fact 48 (f := .int "SMALL" 18446744073709551616) rfl)
  c_MOST_DIVISOR := He.int_ok X G (c.d.fact 49 (f := .int "MOST_DIVISOR" 1000) rfl)
  c_LETTERS := He.str_ok X G (c.d.fact 50 (f := .str "LETTERS" "abcdefghijklmnopqrstuvwxyz") rfl)
  c_DIGITS := He.str_ok X G (c.d.fact 51 (f := .str "DIGITS" "0123456789") rfl)
  g_RESERVED := He.glo_ok X G (c.d.fact 52 (f := .glo "RESERVED") rfl)
  t_RESERVED := fun H => He.tupB_ok (vs := [(.str "len"), (.str "mod"), (.str "and"), (.str "or"), (.str "not"), (.str "true")]) (exN c.b 0 rfl) H
  c_MOST_LETTERS := He.int_ok X G (c.d.fact 53 (f := .int "MOST_LETTERS" 6) rfl)
  c_MOST_DIGITS := He.int_ok X G (c.d.fact 54 (f := .int "MOST_DIGITS" 9) rfl)
  c_MOST_FACTOR := He.int_ok X G (c.d.fact 55 (f := .int "MOST_FACTOR" 99) rfl)
  c_MOST_DEPTH := He.int_ok X G (c.d.fact 56 (f := .int "MOST_DEPTH" 20) rfl)
  c_MOST_ARGUMENTS := He.int_ok X G (c.d.fact 57 (f := .int "MOST_ARGUMENTS" 3) rfl)
  c_MOST_MODULUS := He.int_ok X G (c.d.fact 58 (f := .int "MOST_MODULUS" 12) rfl)
  c_MOST_GIVEN := He.int_ok X G (c.d.fact 59 (f := .int "MOST_GIVEN" 3) rfl)
  c_MOST_COMPARISONS := He.int_ok X G (c.d.fact 60 (f := .int "MOST_COMPARISONS" 6) rfl)
  c_MOST_PERIOD := He.int_ok X G (c.d.fact 61 (f := .int "MOST_PERIOD" 60) rfl)
  c_MOST_MULTIPLE := He.int_ok X G (c.d.fact 62 (f := .int "MOST_MULTIPLE" 999) rfl)
  f_abs := He.free_ok X G (c.d.fact 63 (f := .free "abs") rfl)
  f_all := He.free_ok X G (c.d.fact 64 (f := .free "all") rfl)
  f_isinstance := He.free_ok X G (c.d.fact 65 (f := .free "isinstance") rfl)
  f_str := He.free_ok X G (c.d.fact 66 (f := .free "str") rfl)
  f_len := He.free_ok X G (c.d.fact 67 (f := .free "len") rfl)
  f_list := He.free_ok X G (c.d.fact 68 (f := .free "list") rfl)
  f_enumerate := He.free_ok X G (c.d.fact 69 (f := .free "enumerate") rfl)
  f_int := He.free_ok X G (c.d.fact 70 (f := .free "int") rfl)
  f_tuple := He.free_ok X G (c.d.fact 71 (f := .free "tuple") rfl)
  f_bool := He.free_ok X G (c.d.fact 72 (f := .free "bool") rfl)
  f_zip := He.free_ok X G (c.d.fact 73 (f := .free "zip") rfl)
  f_range := He.free_ok X G (c.d.fact 74 (f := .free "range") rfl)
  f_super := He.free_ok X G (c.d.fact 75 (f := .free "super") rfl)
  f_property := He.free_ok X G (c.d.fact 76 (f := .free "property") rfl)
  f_max := He.free_ok X G (c.d.fact 77 (f := .free "max") rfl)
  d_common := funD_of (c.d.def_ 0 (d := d_common) rfl)
  d_bits := funD_of (c.d.def_ 1 (d := d_bits) rfl)
  d_is_name := funD_of (c.d.def_ 2 (d := d_is_name) rfl)
  d_parts_of := funD_of (c.d.def_ 3 (d := d_parts_of) rfl)
  d_names_within := funD_of (c.d.def_ 4 (d := d_names_within) rfl)
  d_calls_within := funD_of (c.d.def_ 5 (d := d_calls_within) rfl)
  d_need_flat := funD_of (c.d.def_ 6 (d := d_need_flat) rfl)
  d_multiples := funD_of (c.d.def_ 7 (d := d_multiples) rfl)
  d_without := funD_of (c.d.def_ 8 (d := d_without) rfl)
  d_comparisons := funD_of (c.d.def_ 9 (d := d_comparisons) rfl)
  d_terms_of := funD_of (c.d.def_ 10 (d := d_terms_of) rfl)
  d_condition_names := funD_of (c.d.def_ 11 (d := d_condition_names) rfl)
  d_condition_calls := funD_of (c.d.def_ 12 (d := d_condition_calls) rfl)
  d_order_of_two := funD_of (c.d.def_ 13 (d := d_order_of_two) rfl)
  d_odd_part := funD_of (c.d.def_ 14 (d := d_odd_part) rfl)
  d_joint := funD_of (c.d.def_ 15 (d := d_joint) rfl)
  d_difference := funD_of (c.d.def_ 16 (d := d_difference) rfl)
  d_period_of := funD_of (c.d.def_ 17 (d := d_period_of) rfl)
  d_forms_of := funD_of (c.d.def_ 18 (d := d_forms_of) rfl)
  d_need_names := funD_of (c.d.def_ 19 (d := d_need_names) rfl)
  d_still_small := funD_of (c.d.def_ 20 (d := d_still_small) rfl)
  d_shifted := funD_of (c.d.def_ 21 (d := d_shifted) rfl)
  d_opposite := funD_of (c.d.def_ 22 (d := d_opposite) rfl)
  d_bases := funD_of (c.d.def_ 23 (d := d_bases) rfl)
  d_reach_of := funD_of (c.d.def_ 24 (d := d_reach_of) rfl)
  d__law_pull := funD_of (c.d.def_ 25 (d := d__law_pull) rfl)
  d__law_of := funD_of (c.d.def_ 26 (d := d__law_of) rfl)
  d__law_same := funD_of (c.d.def_ 27 (d := d__law_same) rfl)
  d__law_bag := funD_of (c.d.def_ 28 (d := d__law_bag) rfl)
  d__law_field := funD_of (c.d.def_ 29 (d := d__law_field) rfl)
  d__law_why := funD_of (c.d.def_ 30 (d := d__law_why) rfl)
  d_law := funD_of (c.d.def_ 31 (d := d_law) rfl)
  k_Wish := He.cls_ok (c.d.fact 78 (f := .cls "Wish") rfl)
  i_Wish := insB_ok (He.cls_ok (c.d.fact 78 (f := .cls "Wish") rfl)) (exN c.b 1 rfl)
  it_Wish := isTysB_ok (exN c.b 2 rfl)
  n_Wish_rows := He.noat_ok (c.d.fact 79 (f := .noat "Wish" "rows") rfl)
  n_Wish_own_period := He.noat_ok (c.d.fact 80 (f := .noat "Wish" "own_period") rfl)
  n_Wish_own_given := He.noat_ok (c.d.fact 81 (f := .noat "Wish" "own_given") rfl)
  n_Wish_own_unknown := He.noat_ok (c.d.fact 82 (f := .noat "Wish" "own_unknown") rfl)
  n_Wish_own_condition := He.noat_ok (c.d.fact 83 (f := .noat "Wish" "own_condition") rfl)
  mk_Wish := He.mkr_ok (c.d.fact 84 (f := .mkr "Wish") rfl)
  d_Wish___init__ := funD_of (c.d.def_ 32 (d := d_Wish___init__) rfl)
  m_Wish___init__ := He.meth_ok (c.d.fact 85 (f := .meth "Wish" "__init__") rfl)
  d_Wish_period := funD_of (c.s d_Wish_period (List.mem_of_getElem? (i := 0) rfl))
  pr_Wish_period := propB_ok (exN c.b 3 rfl)
  d_Wish_forms := funD_of (c.d.def_ 33 (d := d_Wish_forms) rfl)
  m_Wish_forms := He.meth_ok (c.d.fact 86 (f := .meth "Wish" "forms") rfl)
  d_Wish_need_plain := funD_of (c.d.def_ 34 (d := d_Wish_need_plain) rfl)
  m_Wish_need_plain := He.meth_ok (c.d.fact 87 (f := .meth "Wish" "need_plain") rfl)
  k_Plan := He.cls_ok (c.d.fact 88 (f := .cls "Plan") rfl)
  i_Plan := insB_ok (He.cls_ok (c.d.fact 88 (f := .cls "Plan") rfl)) (exN c.b 4 rfl)
  it_Plan := isTysB_ok (exN c.b 5 rfl)
  n_Plan_rows := He.noat_ok (c.d.fact 89 (f := .noat "Plan" "rows") rfl)
  n_Plan_own_wish := He.noat_ok (c.d.fact 90 (f := .noat "Plan" "own_wish") rfl)
  mk_Plan := He.mkr_ok (c.d.fact 91 (f := .mkr "Plan") rfl)
  d_Plan___init__ := funD_of (c.d.def_ 35 (d := d_Plan___init__) rfl)
  m_Plan___init__ := He.meth_ok (c.d.fact 92 (f := .meth "Plan" "__init__") rfl)
  d_Plan_wish := funD_of (c.s d_Plan_wish (List.mem_of_getElem? (i := 1) rfl))
  pr_Plan_wish := propB_ok (exN c.b 6 rfl)
  d_Plan_terms := funD_of (c.d.def_ 36 (d := d_Plan_terms) rfl)
  m_Plan_terms := He.meth_ok (c.d.fact 93 (f := .meth "Plan" "terms") rfl)
  d_Plan___len__ := funD_of (c.d.def_ 37 (d := d_Plan___len__) rfl)
  m_Plan___len__ := He.meth_ok (c.d.fact 94 (f := .meth "Plan" "__len__") rfl)
  x_InvalidName := mkB_ok (exN c.b 7 rfl)
  xm_InvalidName := of_decide_eq_true (exN c.b 8 rfl)
  xi_InvalidName := fun {P} hP => DefX.init (d := dx_InvalidName) (c0.x dx_InvalidName (List.mem_of_getElem? (i := 0) rfl)).1 (c0.x dx_InvalidName (List.mem_of_getElem? (i := 0) rfl)).2 (mkB_ok (exN c.b 7 rfl)) hP
  x_DuplicateName := mkB_ok (exN c.b 9 rfl)
  xm_DuplicateName := of_decide_eq_true (exN c.b 10 rfl)
  xi_DuplicateName := fun {P} hP => DefX.init (d := dx_DuplicateName) (c0.x dx_DuplicateName (List.mem_of_getElem? (i := 1) rfl)).1 (c0.x dx_DuplicateName (List.mem_of_getElem? (i := 1) rfl)).2 (mkB_ok (exN c.b 9 rfl)) hP
  x_NotFlat := mkB_ok (exN c.b 11 rfl)
  xm_NotFlat := of_decide_eq_true (exN c.b 12 rfl)
  xi_NotFlat := fun {P} hP => DefX.init (d := dx_NotFlat) (c0.x dx_NotFlat (List.mem_of_getElem? (i := 2) rfl)).1 (c0.x dx_NotFlat (List.mem_of_getElem? (i := 2) rfl)).2 (mkB_ok (exN c.b 11 rfl)) hP
  x_LimitReached := mkB_ok (exN c.b 13 rfl)
  xm_LimitReached := of_decide_eq_true (exN c.b 14 rfl)
  xi_LimitReached := fun {P} hP => DefX.init (d := dx_LimitReached) (c0.x dx_LimitReached (List.mem_of_getElem? (i := 3) rfl)).1 (c0.x dx_LimitReached (List.mem_of_getElem? (i := 3) rfl)).2 (mkB_ok (exN c.b 13 rfl)) hP
  x_UnknownName := mkB_ok (exN c.b 15 rfl)
  xm_UnknownName := of_decide_eq_true (exN c.b 16 rfl)
  xi_UnknownName := fun {P} hP => DefX.init (d := dx_UnknownName) (c0.x dx_UnknownName (List.mem_of_getElem? (i := 4) rfl)).1 (c0.x dx_UnknownName (List.mem_of_getElem? (i := 4) rfl)).2 (mkB_ok (exN c.b 15 rfl)) hP
end PW

/-! ### defs that are called where no repr is under way: repr of tuples within tuples -/
namespace PW
open PySem PySem.Spec PyProof.Rows L2
/-- a def's promise where no guarded call is under way -/
structure FnOkG (P : Program) (w : World) (K : PySem.W.Frag) (mg : Str → Option Value) (base : Heap) (CX : CXT) (k : Nat) (f : Addr) (fd : FuncData) (ps : List Str) (sp : Sp) : Prop where
  len : ∀ vs H Q E, sp vs H Q E → vs.length = ps.length
  run : ∀ (A : Around) (outer : List Env) (s : Shared) (H : Hp) (args : Args) (us : List Value) (vs : List V) (Q : VK) (E : XK), A.guards = some [] → Room k A → Env0 P w K mg base A outer s H → BindsTo s fd args (ps.zip us) → Vals vs us → sp vs H Q E →
    codeAny (model P w) A (.call (.ref f) args) (CR CX outer P w H s Q E) s
section
variable {P : Program} {w : World} {K : PySem.W.Frag} {mg : Str → Option Value} {base : Heap} {x qual : Str} {params : Arguments} {body : List Stmt} {scope : Scope} {dvs : List V} {kws : List (Str × V)} {f : Addr} {fd : FuncData}
theorem FunD.okG {CX : CXT} {N ps : List Str} {k : Nat} {sp : Sp} (F : FunD K x qual params body scope dvs kws f fd) (S : FnScope N ps scope) (len : ∀ vs H Q E, sp vs H Q E → vs.length = ps.length)
    (hbody : ∀ (cdv : Value) (A : Around) (outer : List Env) (s : Shared) (H : Hp) (vs : List V) (Q : VK) (E : XK), A.guards = some [] → Room k (A.deeper (envOfC qual scope s.heap.objs.size f cdv)) → sp vs H Q E →
      ∃ t, PSs (cxOf CX P w K mg base N qual scope f cdv A outer s H E) body t ∧ t { nx := fun _ H' => Q .non H', rt := Q } (start N vs) H) : FnOkG P w K mg base CX (k + 1) f fd ps sp := by
  obtain ⟨oc, od, dV, kV, doc, pm, an, cdv, ct, osl, rfl, lk, hcd, _, _⟩ := F.ex
  exact ⟨len, fun A outer s H args us vs Q E hg hr e0 hb r hsp => LamX.run_ofS lk hcd S hr e0 hb r (len _ _ _ _ hsp) fun hr' => hbody cdv A outer s H vs Q E hg hr' hsp⟩
end
/-- the heap at the law's call: of what the head left, the script alone may be told, where the written part does not hold it -/
def scrH (K : PySem.W.Frag) (a : Addr) (ob : Obj) (xs : List V) : Hp := fun b => if b = a ∧ K.lookup a = none then some (.frz ob (.lst xs)) else none
theorem scrH_ins {K : PySem.W.Frag} {a b : Addr} {ob : Obj} {xs : List V} {u : HO} (h : scrH K a ob xs b = some u) : (b = a ∧ K.lookup a = none) ∧ u = .frz ob (.lst xs) := by
  unfold scrH at h
  split at h
  · rename_i c
    exact ⟨c, (Option.some.inj h).symm⟩
  · cases h
theorem scrH_none {K : PySem.W.Frag} {a b : Addr} {ob : Obj} {xs : List V} (h : ¬ (b = a ∧ K.lookup a = none)) : scrH K a ob xs b = none := if_neg h
theorem scrH_at {K : PySem.W.Frag} {a : Addr} {ob : Obj} {xs : List V} (h : K.lookup a = none) : scrH K a ob xs a = some (.frz ob (.lst xs)) := if_pos ⟨rfl, h⟩
theorem scrH_only {K : PySem.W.Frag} {a : Addr} {ob : Obj} {xs : List V} : Only (scrH K a ob xs) := fun b => by
  cases e : scrH K a ob xs b with
  | none => exact .inl rfl
  | some u => exact .inr ⟨ob, xs, by rw [(scrH_ins e).2]⟩
section
variable {P : Program} {w : World} {K : PySem.W.Frag} {mg mb : Str → Option Value} {CX : CXT} {k : Nat} {fa a : Addr} {fd : FuncData} {x : Str} {sp : Sp} {s : Shared} {vs : List Value} {ns : List Int}
/-- the law's call at the head's end, by a promise for where no repr is under way -/
theorem lawG_call (KX : K.In s.heap) (hns : s.heap.Ns mainGlobals mg) (hb : s.heap.Ns builtinsNs mb) (hbb : ∀ x : Str, x ≠ "__name__" → mb x = bootBuiltins x) (hlim : s.heap.NoLimit) (hg : s.gens = #[])
    (ha : s.heap.get? a = some { cls := .type "list", data := .seq vs.toArray }) (hi : IntsAre vs ns) (hl : ns.length ≤ sizeLine) (hr : Room k callerA)
    (F : ∀ base : Heap, K.In base → base.Ns mainGlobals mg → FnOkG P w K mg base CX k fa fd [x] sp) (hbind : ∀ (s : Shared) (u : Value), BindsTo s fd ⟨[u], []⟩ [(x, u)])
    (hsp : ∀ H : Hp, Only H → SqL K H a (ns.map V.int) → sp [.ref a] H (fun v _ => v = .bl true) fun _ _ _ => False)
    (hCX : ∀ H e s', CX [] H s (fun _ _ _ => False) e s' → False) :
    codeAny (model P w) callerA (.call (.ref fa) ⟨[.ref a], []⟩) (fun r s' => r = .ok (.ret (.bool true)) ∧ OldK s.heap s'.heap ∧ s'.os = s.os ∧ AllBare s'.gens) s := by
  have rv := vals_ints hi
  generalize eO : ({ cls := .type "list", data := .seq vs.toArray } : Obj) = ob at ha
  generalize eH : scrH K a ob (ns.map V.int) = H
  -- what the top holds is kept beside the script
  have old : ∀ {b : Addr} {o : Obj}, s.heap.get? b = some o → ((∃ es ep, o.data = .dict es ep) ∨ K.lookup b = some o) → (hidT s.heap H).get? b = some o := fun {b o} e c => hidT_get e (by
    subst eH
    refine scrH_none ?_
    rintro ⟨rfl, n⟩
    rcases c with ⟨es, ep, c⟩ | c
    · have e2 := Option.some.inj (e.symm.trans ha)
      subst e2
      subst eO
      have c' : Data.seq vs.toArray _ = Data.dict es ep := c
      cases c'
    · cases n.symm.trans c)
  have ns' : ∀ {b : Addr} {m : Str → Option Value}, s.heap.Ns b m → (hidT s.heap H).Ns b m := fun {b m} z => by
    obtain ⟨o, es, ep, e, d, r⟩ := z
    exact ⟨o, es, ep, old e (.inl ⟨es, ep, d⟩), d, r⟩
  have kb : K.In (hidT s.heap H) := fun b o e => old (KX b o e) (.inr e)
  obtain ⟨ml, l1, l2⟩ := hlim
  have mo : Mod K mg (hidT s.heap H) := ⟨kb, ns' hns, ⟨mb, ns' hb, hbb⟩, ml, ns' l1, l2⟩
  have hL : SqL K H a (ns.map V.int) := by
    cases q : K.lookup a with
    | none =>
      refine .inl (.inr ⟨ob, ?_⟩)
      subst eH
      exact scrH_at q
    | some o =>
      have e2 := Option.some.inj ((KX a o q).symm.trans ha)
      subst e2
      subst eO
      refine .inr ⟨_, vs.toArray, _, q, rfl, rfl, rfl, ?_, by simpa using rv⟩
      rw [List.size_toArray, hi.length]
      exact hl
  have ok : HOk P w H s.heap := fun b u e => by
    subst eH
    obtain ⟨⟨rfl, _⟩, rfl⟩ := scrH_ins e
    subst eO
    refine ⟨ha, ?_, vs, _, rv, ha⟩
    rw [List.length_map]
    exact hl
  have e0 : Env0 P w K mg (hidT s.heap H) callerA [] s H := ⟨rfl, mo, fun b o e => of_hidT e, Nat.le_of_eq (hidT_size _ _), trivial, (fun b z => by cases z), ok, .of_eq hg⟩
  have hO : Only H := by
    subst eH
    exact scrH_only
  refine codeAny_mono ((F _ kb (ns' hns)).run callerA [] s H _ [.ref a] [.ref a] _ _ rfl hr e0 (hbind s (.ref a)) (.cons rfl .nil) (hsp H hO hL)) fun r s' z => ?_
  match r, z with
  | .error e, z => exact (hCX H e s' z).elim
  | .ok .next, z => exact False.elim z
  | .ok .brk, z => exact False.elim z
  | .ok .cont, z => exact False.elim z
  | .ok (.ret u), z =>
    obtain ⟨v, H', os, bare, un, hok', r', q⟩ := z
    have q : v = .bl true := q
    subst q
    cases (show u = Value.bool true from r')
    refine ⟨rfl, OldK.of_keep fun b o e => ?_, os, bare⟩
    rcases hO b with n | ⟨o1, xs, n⟩
    · exact un.keep b o e n (fun z => by cases z) (fun z => by cases z)
    · have k1 := (ok b _ n).1
      rw [e] at k1
      cases k1
      exact (hok' b _ (un.frzs b o _ n)).1
end
theorem walk_ofEG {l : PySem.W.OpenLaw} {n k : Nat} {q : Program} {loose : List Str} {XP : (Str → Option Value) → Heap → Prop} {YP : World → Heap → Prop} {d : DefRec} {CX : CXT} {x : Str}
    (hn : l.most = some n) (hn2 : n ≤ sizeLine) (hdf : d.params.defaults = []) (hr : Room k callerA)
    (F : ∀ (w : World) (mg : Str → Option Value) (fa : Addr) (h : Heap), YP w h → h.Ns mainGlobals mg → mg d.name = some (.ref fa) →
      ∃ (K : PySem.W.Frag) (fd : FuncData) (sp : Sp), K.In h ∧ (∀ (s : Shared) (u : Value), BindsTo s fd ⟨[u], []⟩ [(x, u)]) ∧
        (∀ (H : Hp) (a : Addr) (ns : List Int), ns.length ≤ n → Only H → SqL K H a (ns.map V.int) → sp [.ref a] H (fun v _ => v = .bl true) fun _ _ _ => False) ∧
        ∀ base : Heap, K.In base → base.Ns mainGlobals mg → FnOkG l.prog w K mg base CX k fa fd [x] sp)
    (hCX : ∀ (H : Hp) (s : Shared) (e : Value) (s' : Shared), CX [] H s (fun _ _ _ => False) e s' → False) :
    PySem.W.WalkO q loose XP YP l.row.toRowW d [] (fun f vs => PySem.call f vs) := by
  refine Att.attach_call hn hdf fun w s₀ s₁ mg mb fa o pm cd doc a vs ns G Y ho hd hcd hmg hobj hints hlen hg => ?_
  obtain ⟨K, fd, sp, KX, hb, hsp, hF⟩ := F w mg fa _ Y G.T.g hmg
  exact lawG_call KX G.T.g G.T.b G.T.builtins G.T.nolimit hg hobj hints (Nat.le_trans hlen hn2) hr hF hb (fun H hO hS => hsp H a ns hlen hO hS) fun H e s' => hCX H s₁ e s'
/-! ### data in the heap, shown -/
/-- repr(x) of such a datum -/
def cReprD (K : PySem.W.Frag) : List V → Hp → VK → Prop := fun xs H Q => ∃ (p : Addr) (d : PyData), xs = [.ref p] ∧ Dp K H (.ref p) d ∧ d.showable = true ∧ d.hasDict = false ∧ d.shown.length ≤ sizeLine ∧ d.depth ≤ 60 ∧ Q (.str d.shown) H
theorem call_reprD {X : Cx} (hg : X.A.guards = some []) (hu : X.A.units + 64 < cLine) : CallR X (.builtin "repr") (cReprD X.K) := by
  intro pins s σ H xs us Q I r h
  obtain ⟨p, d, rfl, hd, h1, h2, h3, h4, q⟩ := h
  obtain ⟨u, rfl, ru⟩ := vals1 r
  obtain ⟨as, hr⟩ := Dp.reads I d _ u hd ru
  cases (show u = Value.ref p from ru)
  exact repr_of_reads' hr h1 (PyData.noDict_hsm h2) hg (by omega) (fun _ _ e => e) (fun h' t tk k => ⟨.str d.shown, H, I.kept k, ⟨t, rfl⟩, q⟩) h3
end PW
/-! ### != [], str of an int or a text -/
namespace PW
open PySem PySem.Spec PyProof.Rows L2 PySem.SeqAt
section
variable {X : Cx}
/-- str of an int or of a text -/
def cStrOr : List V → Hp → VK → Prop := fun xs H Q => (∃ i, xs = [.int i] ∧ i.natAbs.log2 < 1920 ∧ Q (.str (toString i)) H) ∨ ∃ a, xs = [.str a] ∧ Q (.str a) H
theorem call_strT : CallR X (.type "str") (fun xs H Q => ∃ a, xs = [.str a] ∧ Q (.str a) H) := fun pins s σ H xs us Q I r h => by
  obtain ⟨z, rfl, q⟩ := h
  obtain ⟨u, rfl, t, rfl⟩ := vals1 r
  exact PySem.P.str_of_str ⟨.str z, H, I, ⟨_, rfl⟩, q⟩
theorem call_strOr : CallR X (.type "str") cStrOr := fun pins s σ H xs us Q I r h => h.elim (call_str_int pins s σ H xs us Q I r) (call_strT pins s σ H xs us Q I r)
theorem r_strI {i : Int} {H : Hp} {Q : VK} (h : i.natAbs.log2 < 1920) (q : Q (.str (toString i)) H) : cStrOr [.int i] H Q := .inl ⟨i, rfl, h, q⟩
theorem r_strS {z : Str} {H : Hp} {Q : VK} (q : Q (.str z) H) : cStrOr [.str z] H Q := .inr ⟨z, rfl, q⟩
theorem r_ixS {z : Str} {i : Int} {c : Nat} {H : Hp} {Q : VK} (hz : z.length ≤ sizeLine) (h : atI z.cps.toList i = some c) (q : Q (.str ⟨#[c]⟩) H) : rIxS (.str z) (.int i) H Q := ⟨z, i, c, rfl, rfl, hz, h, q⟩
theorem eqv_strs {ns : List Str} : PyData.eqv (.list (ns.map .str)) (.list []) = ns.isEmpty := by
  cases ns <;> rfl
theorem dp_strs {K : PySem.W.Frag} {H : Hp} {a : Addr} {ns : List Str} (h : SqL K H a (ns.map V.str)) : Dp K H (.ref a) (.list (ns.map .str)) := by
  refine .lst h ?_
  clear h
  induction ns with
  | nil => exact .nil
  | cons x r ih => exact .cons (.str x) ih
theorem shaped_strs {ns : List Str} (h : ∀ z ∈ ns, PyData.strOk z = true) : SeqAt.shaped (.list (ns.map .str)) = true := by
  have h1 : PyData.canLayAll0 (ns.map .str) = true := by
    induction ns with
    | nil => rfl
    | cons x r ih =>
      simp only [List.map_cons, PyData.canLayAll0, PyData.canLay0]
      rw [h x List.mem_cons_self, ih fun z hz => h z (List.mem_cons_of_mem _ hz)]
      rfl
  have h2 : PyData.depthAll (ns.map .str) ≤ 0 := by
    clear h h1
    induction ns with
    | nil => exact Nat.le_refl _
    | cons x r ih =>
      simp only [List.map_cons, PyData.depthAll, PyData.depth]
      omega
  unfold SeqAt.shaped
  simp only [PyData.canLay0, PyData.depth]
  rw [h1, Bool.true_and]
  exact decide_eq_true (by omega)
/-- ns != [] -/
theorem r_neNs {K : PySem.W.Frag} {H : Hp} {a b : Addr} {ns : List Str} {Q : VK} (h : SqL K H a (ns.map V.str)) (ok : ∀ z ∈ ns, PyData.strOk z = true) (h2 : SqL K H b []) (q : Q (.bl (!ns.isEmpty)) H) : rNeD K (.ref a) (.ref b) H Q :=
  ⟨_, .list [], dp_strs h, .lst h2 .nil, shaped_strs ok, by decide +kernel, by rw [eqv_strs]; exact q⟩
end
end PW
/-! ### own errors made and raised: all that the text raises -/
namespace PW
open PySem PySem.Spec PyProof.Rows L2
section
variable {P : Program} {w : World} {K : PySem.W.Frag} {mg : Str → Option Value} {base : Heap}
theorem xmk_InvalidName (hP : IsPG P) (T : Txt K mg) : Makes1 P w K mg (He.ga K "InvalidName") "InvalidName" "name" := by
  intro A s v R X hg ⟨mb, hb, hbb⟩ hlim hd hR
  have M := T.x_InvalidName
  refine PySem.W.exc_made (M := fun m => ∃ tu, m = fun (y : Str) => if y = "name" then some v else if y = "tag" then some (.str "InvalidName" tu) else none) M.oex M.iC M.tC X (by show 1 ≤ sizeLine; decide) ?_ ?_
  · intro A' h2 x t0 R' hA' hk xK hx hq
    refine PySem.W.init_run (s := ⟨h2, s.gens, s.drawn, s.toks, s.os⟩) (mg := mg) (mb := mb) (args := [v]) (binds := [("self", .ref x), ("name", v)]) M.oex (T.xi_InvalidName hP) (X.keeps hk) (hg.keeps hk) (hb.keeps hk) ((hbb _ (by decide)).trans (by rfl)) (hlim.keeps hk) hx (by omega)
      (fun _ _ _ _ _ _ _ _ => BindsTo.of_eq (by rfl)) (by decide +kernel) (fun y hy => ?_) rfl rfl rfl T.f_super (fun _ _ _ => rfl) (fun _ => rfl) (fun _ => rfl) rfl rfl (by rfl) (by rfl) (by rfl) (by rfl) ?_
    · rcases List.mem_cons.mp hy with rfl | hy
      · rfl
      · rcases List.mem_cons.mp hy with rfl | hy
        · rfl
        · cases hy
    · intro L cda cc s1 t1 os g d hn hL k hx1
      have xL : L ≠ x := Nat.ne_of_gt (Nat.lt_of_lt_of_le (Heap.lt_size hx) hL)
      refine PySem.W.init1_run (tag := "InvalidName") (fld := "name") (v := v) M.oex (PySem.W.in_but (X.keeps hk) xK k) hn (by rfl) (by rfl) hx1 xK xL rfl (by rfl) (by rfl) (by rfl) (M.no _ (by decide)) (M.no _ (by decide)) ?_
      intro h' tk dx tu e
      obtain ⟨g1, d1, os1⟩ : s1.gens = s.gens ∧ s1.drawn = s.drawn ∧ s1.os = s.os := ⟨g, d, os⟩
      have z := hq h' tk dx t1 _ ⟨tu, rfl⟩ ⟨fun b o nb q => e.keep b o nb (k b o nb q), e.obj, ?_, e.dne, e.ns⟩
      · rw [← g1, ← d1, ← os1] at z
        exact z
      · exact Nat.le_trans (Nat.le_trans hL (Nat.le_of_lt hn.lt)) e.dbig
  · intro h' tk e d m ⟨tu, hm⟩ E
    subst hm
    exact hR h' tk e d tu E
theorem xmk_DuplicateName (hP : IsPG P) (T : Txt K mg) : Makes1 P w K mg (He.ga K "DuplicateName") "DuplicateName" "name" := by
  intro A s v R X hg ⟨mb, hb, hbb⟩ hlim hd hR
  have M := T.x_DuplicateName
  refine PySem.W.exc_made (M := fun m => ∃ tu, m = fun (y : Str) => if y = "name" then some v else if y = "tag" then some (.str "DuplicateName" tu) else none) M.oex M.iC M.tC X (by show 1 ≤ sizeLine; decide) ?_ ?_
  · intro A' h2 x t0 R' hA' hk xK hx hq
    refine PySem.W.init_run (s := ⟨h2, s.gens, s.drawn, s.toks, s.os⟩) (mg := mg) (mb := mb) (args := [v]) (binds := [("self", .ref x), ("name", v)]) M.oex (T.xi_DuplicateName hP) (X.keeps hk) (hg.keeps hk) (hb.keeps hk) ((hbb _ (by decide)).trans (by rfl)) (hlim.keeps hk) hx (by omega)
      (fun _ _ _ _ _ _ _ _ => BindsTo.of_eq (by rfl)) (by decide +kernel) (fun y hy => ?_) rfl rfl rfl T.f_super (fun _ _ _ => rfl) (fun _ => rfl) (fun _ => rfl) rfl rfl (by rfl) (by rfl) (by rfl) (by rfl) ?_
    · rcases List.mem_cons.mp hy with rfl | hy
      · rfl
      · rcases List.mem_cons.mp hy with rfl | hy
        · rfl
        · cases hy
    · intro L cda cc s1 t1 os g d hn hL k hx1
      have xL : L ≠ x := Nat.ne_of_gt (Nat.lt_of_lt_of_le (Heap.lt_size hx) hL)
      refine PySem.W.init1_run (tag := "DuplicateName") (fld := "name") (v := v) M.oex (PySem.W.in_but (X.keeps hk) xK k) hn (by rfl) (by rfl) hx1 xK xL rfl (by rfl) (by rfl) (by rfl) (M.no _ (by decide)) (M.no _ (by decide)) ?_
      intro h' tk dx tu e
      obtain ⟨g1, d1, os1⟩ : s1.gens = s.gens ∧ s1.drawn = s.drawn ∧ s1.os = s.os := ⟨g, d, os⟩
      have z := hq h' tk dx t1 _ ⟨tu, rfl⟩ ⟨fun b o nb q => e.keep b o nb (k b o nb q), e.obj, ?_, e.dne, e.ns⟩
      · rw [← g1, ← d1, ← os1] at z
        exact z
      · exact Nat.le_trans (Nat.le_trans hL (Nat.le_of_lt hn.lt)) e.dbig
  · intro h' tk e d m ⟨tu, hm⟩ E
    subst hm
    exact hR h' tk e d tu E
theorem xmk_NotFlat (hP : IsPG P) (T : Txt K mg) : Makes1 P w K mg (He.ga K "NotFlat") "NotFlat" "name" := by
  intro A s v R X hg ⟨mb, hb, hbb⟩ hlim hd hR
  have M := T.x_NotFlat
  refine PySem.W.exc_made (M := fun m => ∃ tu, m = fun (y : Str) => if y = "name" then some v else if y = "tag" then some (.str "NotFlat" tu) else none) M.oex M.iC M.tC X (by show 1 ≤ sizeLine; decide) ?_ ?_
  · intro A' h2 x t0 R' hA' hk xK hx hq
    refine PySem.W.init_run (s := ⟨h2, s.gens, s.drawn, s.toks, s.os⟩) (mg := mg) (mb := mb) (args := [v]) (binds := [("self", .ref x), ("name", v)]) M.oex (T.xi_NotFlat hP) (X.keeps hk) (hg.keeps hk) (hb.keeps hk) ((hbb _ (by decide)).trans (by rfl)) (hlim.keeps hk) hx (by omega)
      (fun _ _ _ _ _ _ _ _ => BindsTo.of_eq (by rfl)) (by decide +kernel) (fun y hy => ?_) rfl rfl rfl T.f_super (fun _ _ _ => rfl) (fun _ => rfl) (fun _ => rfl) rfl rfl (by rfl) (by rfl) (by rfl) (by rfl) ?_
    · rcases List.mem_cons.mp hy with rfl | hy
      · rfl
      · rcases List.mem_cons.mp hy with rfl | hy
        · rfl
        · cases hy
    · intro L cda cc s1 t1 os g d hn hL k hx1
      have xL : L ≠ x := Nat.ne_of_gt (Nat.lt_of_lt_of_le (Heap.lt_size hx) hL)
      refine PySem.W.init1_run (tag := "NotFlat") (fld := "name") (v := v) M.oex (PySem.W.in_but (X.keeps hk) xK k) hn (by rfl) (by rfl) hx1 xK xL rfl (by rfl) (by rfl) (by rfl) (M.no _ (by decide)) (M.no _ (by decide)) ?_
      intro h' tk dx tu e
      obtain ⟨g1, d1, os1⟩ : s1.gens = s.gens ∧ s1.drawn = s.drawn ∧ s1.os = s.os := ⟨g, d, os⟩
      have z := hq h' tk dx t1 _ ⟨tu, rfl⟩ ⟨fun b o nb q => e.keep b o nb (k b o nb q), e.obj, ?_, e.dne, e.ns⟩
      · rw [← g1, ← d1, ← os1] at z
        exact z
      · exact Nat.le_trans (Nat.le_trans hL (Nat.le_of_lt hn.lt)) e.dbig
  · intro h' tk e d m ⟨tu, hm⟩ E
    subst hm
    exact hR h' tk e d tu E
theorem xmk_LimitReached (hP : IsPG P) (T : Txt K mg) : Makes1 P w K mg (He.ga K "LimitReached") "LimitReached" "limit" := by
  intro A s v R X hg ⟨mb, hb, hbb⟩ hlim hd hR
  have M := T.x_LimitReached
  refine PySem.W.exc_made (M := fun m => ∃ tu, m = fun (y : Str) => if y = "limit" then some v else if y = "tag" then some (.str "LimitReached" tu) else none) M.oex M.iC M.tC X (by show 1 ≤ sizeLine; decide) ?_ ?_
  · intro A' h2 x t0 R' hA' hk xK hx hq
    refine PySem.W.init_run (s := ⟨h2, s.gens, s.drawn, s.toks, s.os⟩) (mg := mg) (mb := mb) (args := [v]) (binds := [("self", .ref x), ("limit", v)]) M.oex (T.xi_LimitReached hP) (X.keeps hk) (hg.keeps hk) (hb.keeps hk) ((hbb _ (by decide)).trans (by rfl)) (hlim.keeps hk) hx (by omega)
      (fun _ _ _ _ _ _ _ _ => BindsTo.of_eq (by rfl)) (by decide +kernel) (fun y hy => ?_) rfl rfl rfl T.f_super (fun _ _ _ => rfl) (fun _ => rfl) (fun _ => rfl) rfl rfl (by rfl) (by rfl) (by rfl) (by rfl) ?_
    · rcases List.mem_cons.mp hy with rfl | hy
      · rfl
      · rcases List.mem_cons.mp hy with rfl | hy
        · rfl
        · cases hy
    · intro L cda cc s1 t1 os g d hn hL k hx1
      have xL : L ≠ x := Nat.ne_of_gt (Nat.lt_of_lt_of_le (Heap.lt_size hx) hL)
      refine PySem.W.init1_run (tag := "LimitReached") (fld := "limit") (v := v) M.oex (PySem.W.in_but (X.keeps hk) xK k) hn (by rfl) (by rfl) hx1 xK xL rfl (by rfl) (by rfl) (by rfl) (M.no _ (by decide)) (M.no _ (by decide)) ?_
      intro h' tk dx tu e
      obtain ⟨g1, d1, os1⟩ : s1.gens = s.gens ∧ s1.drawn = s.drawn ∧ s1.os = s.os := ⟨g, d, os⟩
      have z := hq h' tk dx t1 _ ⟨tu, rfl⟩ ⟨fun b o nb q => e.keep b o nb (k b o nb q), e.obj, ?_, e.dne, e.ns⟩
      · rw [← g1, ← d1, ← os1] at z
        exact z
      · exact Nat.le_trans (Nat.le_trans hL (Nat.le_of_lt hn.lt)) e.dbig
  · intro h' tk e d m ⟨tu, hm⟩ E
    subst hm
    exact hR h' tk e d tu E
theorem xmk_UnknownName (hP : IsPG P) (T : Txt K mg) : Makes1 P w K mg (He.ga K "UnknownName") "UnknownName" "name" := by
  intro A s v R X hg ⟨mb, hb, hbb⟩ hlim hd hR
  have M := T.x_UnknownName
  refine PySem.W.exc_made (M := fun m => ∃ tu, m = fun (y : Str) => if y = "name" then some v else if y = "tag" then some (.str "UnknownName" tu) else none) M.oex M.iC M.tC X (by show 1 ≤ sizeLine; decide) ?_ ?_
  · intro A' h2 x t0 R' hA' hk xK hx hq
    refine PySem.W.init_run (s := ⟨h2, s.gens, s.drawn, s.toks, s.os⟩) (mg := mg) (mb := mb) (args := [v]) (binds := [("self", .ref x), ("name", v)]) M.oex (T.xi_UnknownName hP) (X.keeps hk) (hg.keeps hk) (hb.keeps hk) ((hbb _ (by decide)).trans (by rfl)) (hlim.keeps hk) hx (by omega)
      (fun _ _ _ _ _ _ _ _ => BindsTo.of_eq (by rfl)) (by decide +kernel) (fun y hy => ?_) rfl rfl rfl T.f_super (fun _ _ _ => rfl) (fun _ => rfl) (fun _ => rfl) rfl rfl (by rfl) (by rfl) (by rfl) (by rfl) ?_
    · rcases List.mem_cons.mp hy with rfl | hy
      · rfl
      · rcases List.mem_cons.mp hy with rfl | hy
        · rfl
        · cases hy
    · intro L cda cc s1 t1 os g d hn hL k hx1
      have xL : L ≠ x := Nat.ne_of_gt (Nat.lt_of_lt_of_le (Heap.lt_size hx) hL)
      refine PySem.W.init1_run (tag := "UnknownName") (fld := "name") (v := v) M.oex (PySem.W.in_but (X.keeps hk) xK k) hn (by rfl) (by rfl) hx1 xK xL rfl (by rfl) (by rfl) (by rfl) (M.no _ (by decide)) (M.no _ (by decide)) ?_
      intro h' tk dx tu e
      obtain ⟨g1, d1, os1⟩ : s1.gens = s.gens ∧ s1.drawn = s.drawn ∧ s1.os = s.os := ⟨g, d, os⟩
      have z := hq h' tk dx t1 _ ⟨tu, rfl⟩ ⟨fun b o nb q => e.keep b o nb (k b o nb q), e.obj, ?_, e.dne, e.ns⟩
      · rw [← g1, ← d1, ← os1] at z
        exact z
      · exact Nat.le_trans (Nat.le_trans hL (Nat.le_of_lt hn.lt)) e.dbig
  · intro h' tk e d m ⟨tu, hm⟩ E
    subst hm
    exact hR h' tk e d tu E

end
end PW
/-! ### the draws -/
namespace PW
open PySem PySem.Spec PyProof.Rows L2
/-- all but b stays -/
def ExB (b : Addr) (H H' : Hp) : Prop := ∀ a o, a ≠ b → H a = some o → H' a = some o
theorem ExB.refl {b : Addr} {H : Hp} : ExB b H H := fun _ _ _ h => h
theorem ExB.trans {b : Addr} {H H1 H2 : Hp} (x : ExB b H H1) (y : ExB b H1 H2) : ExB b H H2 := fun a o n h => y a o n (x a o n h)
theorem ExB.upd {b : Addr} {H H1 : Hp} {o : HO} (x : ExB b H H1) : ExB b H (L2.upd H1 b o) := fun a u n h => by
  rw [upd_ne n]
  exact x a u n h
structure BagAt (H : Hp) (b c : Addr) : Prop where
  ex : ∃ (cells : List Int) (i g s : Int), H b = some (.lst [.ref c, .int i, .int g, .int s]) ∧ H c = some (.lst (cells.map V.int)) ∧ 0 ≤ i ∧ 0 ≤ g ∧ 0 ≤ s ∧ s < 2147483549
theorem bag_ne {H : Hp} {b c : Addr} {cells : List Int} {i g s : Int} (h : H b = some (.lst [.ref c, .int i, .int g, .int s])) (h2 : H c = some (.lst (cells.map V.int))) : c ≠ b := by
  intro e
  subst e
  rw [h] at h2
  injection h2 with h2
  injection h2 with h2
  cases cells with
  | nil => cases h2
  | cons z r =>
    rw [List.map_cons] at h2
    injection h2 with h3
    cases h3
theorem BagAt.upd {H : Hp} {b c : Addr} {cells : List Int} {i g s i' g' s' : Int} (h : H b = some (.lst [.ref c, .int i, .int g, .int s])) (h2 : H c = some (.lst (cells.map V.int))) (a1 : 0 ≤ i') (a2 : 0 ≤ g') (a3 : 0 ≤ s') (a4 : s' < 2147483549) :
    BagAt (L2.upd H b (.lst [.ref c, .int i', .int g', .int s'])) b c :=
  ⟨cells, i', g', s', upd_same, by rw [upd_ne (bag_ne h h2)]; exact h2, a1, a2, a3, a4⟩
theorem atI_ints {xs : List Int} {i : Int} (h0 : 0 ≤ i) (h : i < (xs.length : Int)) : ∃ z, atI (xs.map V.int) i = some (.int z) := by
  have hl : i.toNat < xs.length := by omega
  have e : i = (i.toNat : Int) := by omega
  have h2 : atI (xs.map V.int) (i.toNat : Int) = some (.int xs[i.toNat]) := atI_nat (by rw [List.getElem?_map, List.getElem?_eq_getElem hl]; rfl)
  exact ⟨_, by rw [← e] at h2; exact h2⟩
theorem BagAt.objs {H : Hp} {b c : Addr} (h : BagAt H b c) : (∃ o, H b = some o) ∧ (∃ o, H c = some o) ∧ c ≠ b := by
  obtain ⟨cells, i, g, s, h1, h2, _⟩ := h
  exact ⟨⟨_, h1⟩, ⟨_, h2⟩, bag_ne h1 h2⟩
/-- where the two lists of the bag stay -/
theorem BagAt.keep {H H' : Hp} {b c : Addr} (h : BagAt H b c) (e1 : ∀ o, H b = some o → H' b = some o) (e2 : ∀ o, H c = some o → H' c = some o) : BagAt H' b c := by
  obtain ⟨cells, i, g, s, h1, h2, r⟩ := h
  exact ⟨cells, i, g, s, e1 _ h1, e2 _ h2, r⟩
theorem BagAt.put {H : Hp} {b c D : Addr} {o : HO} (h : BagAt H b c) (n1 : b ≠ D) (n2 : c ≠ D) : BagAt (L2.upd H D o) b c := h.keep (fun o e => by rw [upd_ne n1]; exact e) fun o e => by rw [upd_ne n2]; exact e
theorem BagAt.grow {H H' : Hp} {b c : Addr} (h : BagAt H b c) (e : ∀ a o, H a = some o → H' a = some o) : BagAt H' b c := h.keep (fun o q => e _ o q) fun o q => e _ o q
theorem BagAt.ne {H : Hp} {b c D : Addr} (h : BagAt H b c) (hD : H D = none) : b ≠ D ∧ c ≠ D := by
  obtain ⟨⟨o, h1⟩, ⟨o2, h2⟩, _⟩ := h.objs
  exact ⟨ne_of_none h1 hD, ne_of_none h2 hD⟩
theorem BagAt.new {H : Hp} {b c D : Addr} {o : HO} (h : BagAt H b c) (hD : H D = none) : BagAt (L2.upd H D o) b c := h.put (h.ne hD).1 (h.ne hD).2
def spPull : Sp := fun vs H Q _ => ∃ (b c : Addr) (m : Int), vs = [.ref b, .int m] ∧ BagAt H b c ∧ 0 < m ∧ m.natAbs.log2 < 9000 ∧ ∀ r H', 0 ≤ r → r < m → BagAt H' b c → ExB b H H' → Q (.int r) H'
section
variable {P : Program} {w : World} {K : PySem.W.Frag} {mg : Str → Option Value} {base : Heap}
theorem ok__law_pull (T : Txt K mg) : FnOk P w K mg base CX0 1 (He.ga K "_law_pull") (fdOf K (He.ga K "_law_pull")) p__law_pull spPull := by
  refine FunD.ok T.d__law_pull sc__law_pull (fun vs H Q E h => ?_) (fun cdv A outer s H vs Q E hr h => ?_)
  · obtain ⟨b, c, m, rfl, _⟩ := h
    rfl
  · obtain ⟨b, c, m, rfl, ⟨cells, i, g, z, hb, hc, hi, hg, hz, hz2⟩, hm, hm9, hQ⟩ := h
    have hcb := bag_ne hb hc
    refine ⟨_, PSs.nox ((pss_cons (ps_if (PW.pt (pw_and (pt_cmpR op_eq (pe_ix ix_list (pv 0) pe_int (fun _ _ => rfl)) pe_int (nomark _)) (pw_and1 (pt_cmpR op_lt (pe_ix ix_list (pv 0) pe_int (fun _ _ => rfl)) (pe_callB call_lenN (by rfl) T.f_len (by decide +kernel) (pa_cons (pe_ix ix_list (pv 0) pe_int (fun _ _ => rfl)) pa_nil)) (nomark _)))))
      (pss_cons (ps_set (i := 2) sc__law_pull.nd rfl (Or.inl rfl) (pe_ix ix_list (pe_ix ix_list (pv 0) pe_int (fun _ _ => rfl)) (pe_ix ix_list (pv 0) pe_int (fun _ _ => rfl)) (fun _ _ => rfl)))
        (pss_cons (ps_asg (pe_op op_add (pe_ix ix_list (pv 0) pe_int (fun _ _ => rfl)) pe_int) (pg_sub (pv 0) pe_int set_list))
        (pss_one (ps_if (pt_cmpR op_ge (pv 2) (pe_op op_pow pe_int pe_int) (nomark _))
          (pss_one (ps_asg (pv 2) (pg_sub (pv 0) pe_int set_list)))
          (pss_one (ps_asg (pe_op op_mod (pe_callTy call_intN (by rfl) T.f_int (by decide +kernel) (pa_cons (pe_op op_add (pe_op op_add (pe_op op_mulX (pe_ix ix_list (pv 0) pe_int (fun _ _ => rfl)) pe_int) (pe_op op_mulX (pe_op op_mod (pe_callTy call_intN (by rfl) T.f_int (by decide +kernel) (pa_cons (pv 2) pa_nil)) pe_int) pe_int)) pe_int) pa_nil)) pe_int) (pg_sub (pv 0) pe_int set_list)))))))
      pss_nil)
    (pss_cons (ps_if (pt_cmpR op_gt (pe_ix ix_list (pv 0) pe_int (fun _ _ => rfl)) pe_int (nomark _))
      (pss_cons (ps_set (i := 3) sc__law_pull.nd rfl (Or.inl rfl) (pe_op op_mod (pe_callTy call_intN (by rfl) T.f_int (by decide +kernel) (pa_cons (pe_ix ix_list (pv 0) pe_int (fun _ _ => rfl)) pa_nil)) (pv 1)))
        (pss_cons (ps_asg (pe_op op_fdivW (pe_ix ix_list (pv 0) pe_int (fun _ _ => rfl)) (pv 1)) (pg_sub (pv 0) pe_int set_list))
        (pss_one (ps_ret (pv 3)))))
      pss_nil)
    (pss_cons (ps_set (i := 4) sc__law_pull.nd rfl (Or.inl rfl) (pe_ix ix_list (pv 0) pe_int (fun _ _ => rfl)))
    (pss_cons (ps_asg (pe_op op_mod (pe_callTy call_intN (by rfl) T.f_int (by decide +kernel) (pa_cons (pe_op op_add (pe_op op_add (pe_op op_mulX (pv 4) (pv 4)) (pe_op op_mulX (pv 4) pe_int)) pe_int) pa_nil)) pe_int) (pg_sub (pv 0) pe_int set_list))
    (pss_one (ps_ret (pe_op op_mod (pe_callTy call_intN (by rfl) T.f_int (by decide +kernel) (pa_cons (pe_op op_add (pe_op op_fdivW (pe_ix ix_list (pv 0) pe_int (fun _ _ => rfl)) pe_int) (pe_op op_mulX (pe_op op_mod (pe_callTy call_intN (by rfl) T.f_int (by decide +kernel) (pa_cons (pe_ix ix_list (pv 0) pe_int (fun _ _ => rfl)) pa_nil)) pe_int) pe_int)) pa_nil)) (pv 1))))))))), ?_⟩
    show tSeq _ _ _ [some (V.ref b), some (V.int m), none, none, none] H
    walk_at "K"
    refine r_seqP (fun σ' H' => ∃ (x : Option V) (i g z : Int), σ' = [some (V.ref b), some (V.int m), x, none, none] ∧ H' b = some (.lst [.ref c, .int i, .int g, .int z]) ∧ H' c = some (.lst (cells.map V.int)) ∧ 0 ≤ i ∧ 0 ≤ g ∧ 0 ≤ z ∧ z < 2147483549 ∧ ExB b H H') ?_ ?_
    · clear hb hc hi hg hz hz2 i g z
      rintro σ' H' ⟨x, i, g, z, rfl, hb, hc, hi, hg, hz, hz2, hx⟩
      refine r_seqP (fun σ2 H2 => σ2 = [some (V.ref b), some (V.int m), x, none, none] ∧ H2 = H') ?_ ?_
      · rintro σ2 H2 ⟨rfl, rfl⟩
        walk_at "go"
        refine hQ _ _ (Int.emod_nonneg _ (by omega)) (Int.emod_lt_of_pos _ hm) (BagAt.upd hb hc hi hg (Int.emod_nonneg _ (by decide)) (Int.emod_lt_of_pos _ (by decide))) (ExB.upd hx)
      · intro N hN
        walk_at "go"
        refine r_if2 (fun e => ?_) (fun e => ?_)
        · have hg1 : 0 < g := by simpa using e
          walk_at "go"
          refine hQ _ _ (Int.emod_nonneg _ (by omega)) (Int.emod_lt_of_pos _ hm) (BagAt.upd hb hc hi (Int.ediv_nonneg hg (by omega)) hz hz2) (ExB.upd hx)
        · walk_at "go"
          exact hN _ _ ⟨rfl, rfl⟩
    · intro N hN
      walk_at "go"
      refine r_if2 (fun e => ?_) (fun e => ?_)
      · walk_at "go"
        refine r_if2 (fun e2 => ?_) (fun e2 => ?_)
        · have hlt : i < (cells.length : Int) := by simpa using e2
          obtain ⟨y, hy⟩ := atI_ints hi hlt
          walk_at "go"
          refine r_ixL (SqL.of hc) hy ?_
          walk_at "go"
          refine r_if2 (fun e3 => ?_) (fun e3 => ?_)
          · have h1 := of_decide_eq_true e3
            have h2 : (0 : Int) < 10 ^ Int.toNat 18 := by decide
            walk_at "go"
            refine hN _ _ ⟨some (.int y), i + 1, y, z, rfl, upd_same, (upd_ne hcb).trans ((upd_ne hcb).trans hc), by omega, by omega, hz, hz2, ExB.upd (ExB.upd ExB.refl)⟩
          · walk_at "go"
            refine hN _ _ ⟨some (.int y), i + 1, g, _, rfl, upd_same, (upd_ne hcb).trans ((upd_ne hcb).trans hc), by omega, hg, Int.emod_nonneg _ (by decide), Int.emod_lt_of_pos _ (by decide), ExB.upd (ExB.upd ExB.refl)⟩
        · walk_at "go"
          exact hN _ _ ⟨none, i, g, z, rfl, hb, hc, hi, hg, hz, hz2, ExB.refl⟩
      · walk_at "go"
        exact hN _ _ ⟨none, i, g, z, rfl, hb, hc, hi, hg, hz, hz2, ExB.refl⟩
end
end PW
namespace PW
open PySem PySem.Spec PyProof.Rows L2
/-- what is drawn from: a list, a tuple, a text -/
def SeqV (K : PySem.W.Frag) (H : Hp) (b : Addr) (s : V) (xs : List V) : Prop :=
  (∃ p, s = .ref p ∧ p ≠ b ∧ (H p = some (.lst xs) ∨ SqT K H p xs)) ∨ ∃ z : Str, s = .str z ∧ z.length ≤ sizeLine ∧ xs = z.cps.toList.map fun c => .str ⟨#[c]⟩
def spOf (K : PySem.W.Frag) : Sp := fun vs H Q _ => ∃ (b c : Addr) (s : V) (xs : List V), vs = [.ref b, s] ∧ BagAt H b c ∧ SeqV K H b s xs ∧ 0 < xs.length ∧ xs.length ≤ sizeLine ∧ ∀ v H', v ∈ xs → BagAt H' b c → ExB b H H' → Q v H'
theorem ExB.tup {K : PySem.W.Frag} {b p : Addr} {H H' : Hp} {xs : List V} (e : ExB b H H') (n : p ≠ b) (h : SqT K H p xs) : SqT K H' p xs := by
  rcases h with (h | ⟨o, h⟩) | h
  · exact .inl (.inl (e _ _ n h))
  · exact .inl (.inr ⟨o, e _ _ n h⟩)
  · exact .inr h
theorem seqLog {n : Nat} (h : n ≤ sizeLine) : ((n : Nat) : Int).natAbs.log2 < 9000 := by
  have h2 : n ≤ 2 ^ 24 := h
  have h3 : (n : Int).natAbs < 2 ^ 25 := by
    rw [Int.natAbs_natCast]
    exact Nat.lt_of_le_of_lt h2 (by decide)
  exact Nat.lt_trans (PySem.Flt.log2_lt_of (by decide) h3) (by decide)
section
variable {P : Program} {w : World} {K : PySem.W.Frag} {mg : Str → Option Value} {base : Heap}
theorem ok__law_of {k : Nat} (T : Txt K mg) (G__law_pull : FnOk P w K mg base CX0 k (He.ga K "_law_pull") (fdOf K (He.ga K "_law_pull")) p__law_pull spPull) : FnOk P w K mg base CX0 (k + 1) (He.ga K "_law_of") (fdOf K (He.ga K "_law_of")) p__law_of (spOf K) := by
  refine FunD.ok T.d__law_of sc__law_of (fun vs H Q E h => ?_) (fun cdv A outer s H vs Q E hr h => ?_)
  · obtain ⟨b, c, s, xs, rfl, _⟩ := h
    rfl
  · obtain ⟨b, c, q, xs, rfl, hb, hs, h0, hl, hQ⟩ := h
    refine ⟨_, PSs.nox ((pss_one (ps_ret (pe_ix ix_seq (pv 1) (pe_call G__law_pull hr rfl T.g__law_pull T.d__law_pull.kp (b__law_pull T) .nil pass0 (pa_cons (pv 0) (pa_cons (pe_callB call_lenN (by rfl) T.f_len (by decide +kernel) (pa_cons (pv 1) pa_nil)) pa_nil))) (fun _ _ => rfl))))), ?_⟩
    show tRet _ _ [some (V.ref b), some q] H
    walk_at "K"
    have hlen : ∀ R : VK, R (.int (xs.length : Nat)) H → cLen K [q] H R := fun R hR => by
      rcases hs with ⟨p, rfl, hp, hp2 | hp2⟩ | ⟨z, rfl, hz, e⟩
      · exact r_cLenL (SqL.of hp2) hR
      · exact r_cLenT hp2 hR
      · refine r_cLenS hz ?_
        have e2 : xs.length = z.length := by rw [e, List.length_map]; rfl
        rw [← e2]
        exact hR
    walk_at "go"
    refine hlen _ ?_
    walk_at "go"
    refine ⟨b, c, (xs.length : Nat), rfl, hb, by omega, seqLog hl, fun r H' r0 r1 hb' hx => ?_⟩
    rcases hs with ⟨p, rfl, hp, hp2 | hp2⟩ | ⟨z, rfl, hz, e⟩
    · obtain ⟨v, hv, ha⟩ := atI_mem r0 r1
      exact r_ixqL (SqL.of (hx _ _ hp hp2)) ha (hQ v H' hv hb' hx)
    · obtain ⟨v, hv, ha⟩ := atI_mem r0 r1
      exact r_ixqT (ExB.tup hx hp hp2) ha (hQ v H' hv hb' hx)
    · have e2 : xs.length = z.cps.toList.length := by rw [e, List.length_map]
      rw [e2] at r1
      obtain ⟨v, hv, ha⟩ := atI_mem r0 r1
      exact r_ixqS hz ha (hQ _ H' (by rw [e]; exact List.mem_map.mpr ⟨v, hv, rfl⟩) hb' hx)
end
end PW
namespace PW
open PySem PySem.Spec PyProof.Rows L2
theorem cutV_ints (ns : List Int) (lo hi : Option Int) : ∃ cells : List Int, cutV (ns.map V.int) lo hi = cells.map V.int := by
  unfold cutV
  rw [← List.map_drop, ← List.map_take]
  exact ⟨_, rfl⟩
/-- a new bag -/
def spBag (K : PySem.W.Frag) : Sp := fun vs H Q _ => ∃ (a : Addr) (ns : List Int), vs = [.ref a] ∧ SqL K H a (ns.map V.int) ∧ ns.length ≤ 63 ∧ ∀ b c H', H b = none → H c = none → BagAt H' b c → (∀ a o, H a = some o → H' a = some o) → Q (.ref b) H'
section
variable {P : Program} {w : World} {K : PySem.W.Frag} {mg : Str → Option Value} {base : Heap}
theorem ok__law_bag (T : Txt K mg) : FnOk P w K mg base CX0 1 (He.ga K "_law_bag") (fdOf K (He.ga K "_law_bag")) p__law_bag (spBag K) := by
  refine FunD.ok T.d__law_bag sc__law_bag (fun vs H Q E h => ?_) (fun cdv A outer s H vs Q E hr h => ?_)
  · obtain ⟨a, ns, rfl, _⟩ := h
    rfl
  · obtain ⟨a, ns, rfl, ha, hl, hQ⟩ := h
    refine ⟨_, PSs.nox ((pss_one (ps_ret (pe_lst (pa_cons (pe_callTy call_listN (by rfl) T.f_list (by decide +kernel) (pa_cons (pe_slice sl_list (pv 0) po_none (po_some pe_int)) pa_nil)) (pa_cons pe_int (pa_cons pe_int (pa_cons pe_int pa_nil)))))))), ?_⟩
    show tRet _ _ [some (V.ref a)] H
    walk_at "K"
    walk_at "go"
    intro l hl1
    walk_at "go"
    intro c hc
    walk_at "go"
    intro b hb
    have hcl : c ≠ l := Ne.symm (ne_of_none upd_same hc)
    have hb2 : (L2.upd H l (.lst (cutV (ns.map V.int) none (some 63)))) b = none := Same.free (H' := L2.upd (L2.upd H l (.lst (cutV (ns.map V.int) none (some 63)))) c (.lst (cutV (ns.map V.int) none (some 63)))) (fun x o e => by rw [upd_ne (ne_of_none e hc)]; exact e) hb
    have hb3 : H b = none := Same.free (H' := L2.upd H l (.lst (cutV (ns.map V.int) none (some 63)))) (fun x o e => by rw [upd_ne (ne_of_none e hl1)]; exact e) hb2
    have hbc : c ≠ b := ne_of_none upd_same hb
    obtain ⟨cells, e⟩ := cutV_ints ns none (some 63)
    have hc3 : H c = none := Same.free (H' := L2.upd H l (.lst (cutV (ns.map V.int) none (some 63)))) (fun x o e => by rw [upd_ne (ne_of_none e hl1)]; exact e) hc
    refine hQ b c _ hb3 hc3 ⟨cells, 0, 0, 5618, upd_same, (upd_ne hbc).trans ?_, by decide, by decide, by decide, by decide⟩ fun x o ex => ?_
    · rw [e]
      exact upd_same
    · rw [upd_ne (ne_of_none ex hb3), upd_ne (ne_of_none ex hc3), upd_ne (ne_of_none ex hl1)]
      exact ex
end
end PW
namespace PW
open PySem PySem.Spec PyProof.Rows L2
/-- alike to depth n, part by part -/
def Sm (K : PySem.W.Frag) : Nat → Hp → V → V → Prop
  | 0, _, x, y => x = y ∧ flatV x = true
  | n + 1, H, x, y => (x = y ∧ flatV x = true) ∨ ∃ (p q : Addr) (xs ys : List V), x = .ref p ∧ y = .ref q ∧ ((H p = some (.lst xs) ∧ H q = some (.lst ys)) ∨ (H p = some (.tup xs) ∧ H q = some (.tup ys))) ∧
      xs.length = ys.length ∧ xs.length ≤ 100000 ∧ ∀ (i : Nat) u v, xs[i]? = some u → ys[i]? = some v → Sm K n H u v
theorem Sm.mono {K : PySem.W.Frag} : ∀ {n : Nat} {H H' : Hp} {x y : V}, Ex H H' → Sm K n H x y → Sm K n H' x y
  | 0, _, _, _, _, _, h => h
  | n + 1, H, H', x, y, e, h => by
    rcases h with h | ⟨p, q, xs, ys, h1, h2, h3, h4, h5, h6⟩
    · exact .inl h
    · refine .inr ⟨p, q, xs, ys, h1, h2, ?_, h4, h5, fun i u v hu hv => Sm.mono e (h6 i u v hu hv)⟩
      rcases h3 with h3 | h3
      · exact .inl ⟨e _ _ h3.1, e _ _ h3.2⟩
      · exact .inr ⟨e _ _ h3.1, e _ _ h3.2⟩
theorem Sm.flat {K : PySem.W.Frag} {n : Nat} {H : Hp} {x : V} (h : flatV x = true) : Sm K n H x x := by
  cases n with
  | zero => exact ⟨rfl, h⟩
  | succ n => exact .inl ⟨rfl, h⟩
theorem Sm.flats {K : PySem.W.Frag} {n : Nat} {H : Hp} {p q : Addr} {xs : List V} (hp : H p = some (.lst xs)) (hq : H q = some (.lst xs)) (hl : xs.length ≤ 100000) (hf : ∀ v ∈ xs, flatV v = true) : Sm K (n + 1) H (.ref p) (.ref q) :=
  .inr ⟨p, q, xs, xs, rfl, rfl, .inl ⟨hp, hq⟩, rfl, hl, fun i u v hu hv => by
    rw [hu] at hv
    injection hv with hv
    subst hv
    exact Sm.flat (hf u (List.mem_of_getElem? hu))⟩
def spSame (K : PySem.W.Frag) (n : Nat) : Sp := fun vs H Q _ => ∃ x y, vs = [x, y] ∧ Sm K n H x y ∧ ∀ H', Ex H H' → Q (.bl true) H'
section
variable {P : Program} {w : World} {K : PySem.W.Frag} {mg : Str → Option Value} {base : Heap}
def spNo : Sp := fun _ _ _ _ => False
theorem fnOk_no {CX : CXT} {k : Nat} {f : Addr} {fd : FuncData} {ps : List Str} : FnOk P w K mg base CX k f fd ps spNo := ⟨fun _ _ _ _ h => h.elim, fun _ _ _ _ _ _ _ _ _ _ _ _ _ h => h.elim⟩
theorem ok1__law_same {k n : Nat} {spj : Sp} (T : Txt K mg) (hj : n = 0 ∨ ∃ j, n = j + 1 ∧ spj = spSame K j) (G__law_same : FnOk P w K mg base CX0 k (He.ga K "_law_same") (fdOf K (He.ga K "_law_same")) p__law_same spj) :
    FnOk P w K mg base CX0 (k + 1) (He.ga K "_law_same") (fdOf K (He.ga K "_law_same")) p__law_same (spSame K n) := by
  refine FunD.ok T.d__law_same sc__law_same (fun vs H Q E h => ?_) (fun cdv A outer s H vs Q E hr h => ?_)
  · obtain ⟨x, y, rfl, _⟩ := h
    rfl
  · obtain ⟨x, y, rfl, hs, hQ⟩ := h
    refine ⟨_, PSs.nox ((pss_cons (ps_if (pt_val (pe_callB call_isiT (by rfl) T.f_isinstance (by decide +kernel) (pa_cons (pv 1) (pa_cons (pe_tup (pa_cons (pe_bltn (v := .ty "list") (u := .type "list") (by rfl) T.f_list (by decide +kernel) rfl) (pa_cons (pe_bltn (v := .ty "tuple") (u := .type "tuple") (by rfl) T.f_tuple (by decide +kernel) rfl) pa_nil))) pa_nil))))
      (pss_cons (ps_if (PW.pt (pw_or (pt_cmpR op_ne (pe_callB call_isi (by rfl) T.f_isinstance (by decide +kernel) (pa_cons (pv 0) (pa_cons (pe_bltn (v := .ty "list") (u := .type "list") (by rfl) T.f_list (by decide +kernel) rfl) pa_nil))) (pe_callB call_isi (by rfl) T.f_isinstance (by decide +kernel) (pa_cons (pv 1) (pa_cons (pe_bltn (v := .ty "list") (u := .type "list") (by rfl) T.f_list (by decide +kernel) rfl) pa_nil))) (nomark _)) (pw_or1 (pt_cmpR op_ne (pe_callB call_isi (by rfl) T.f_isinstance (by decide +kernel) (pa_cons (pv 0) (pa_cons (pe_bltn (v := .ty "tuple") (u := .type "tuple") (by rfl) T.f_tuple (by decide +kernel) rfl) pa_nil))) (pe_callB call_isi (by rfl) T.f_isinstance (by decide +kernel) (pa_cons (pv 1) (pa_cons (pe_bltn (v := .ty "tuple") (u := .type "tuple") (by rfl) T.f_tuple (by decide +kernel) rfl) pa_nil))) (nomark _)))))
          (pss_one (ps_ret pe_bl))
          pss_nil)
        (pss_one (ps_ret (pe_and (pe_cmpR op_eq (pe_callB call_lenN (by rfl) T.f_len (by decide +kernel) (pa_cons (pv 0) pa_nil)) (pe_callB call_lenN (by rfl) T.f_len (by decide +kernel) (pa_cons (pv 1) pa_nil)) (nomark _)) (pe_one (pe_callB (cr_all rfl) (by rfl) T.f_all (by decide +kernel) (pa_cons (pe_lc (own := [("_law_one_z", 2), ("_law_other_z", 3)]) (g := (gTup K 2 (gCons (gName 2) (gCons (gName 3) gNil)))) rfl sc__law_same.nd (RZ.pi_zipA (by rfl) T.f_zip (pa_cons (pv 0) (pa_cons (pv 1) pa_nil))) (blkOk_by (own := [("_law_one_z", 2), ("_law_other_z", 3)]) (N := n__law_same) (sc := defScope s__law_same) (by decide +kernel)) (fun _ _ _ _ _ => by (refine' PW.pg_tupX (K := K) ?a1 ?b1 ?c1 ?d1 ?h1; (case a1 => rfl); (case b1 => rfl); (case c1 => rfl); (case d1 => rfl); refine' PW.pgs_consX ?a2 ?b2 ?h2; (case a2 => rfl); (case b2 => (refine PW.pg_nameX 2 ?_ ?_ ?_ ?_; exact sc__law_same.nd; rfl; (first | exact Or.inl rfl | exact Or.inr rfl); (first | exact Or.inl rfl | exact Or.inr rfl))); refine' PW.pgs_consX ?a3 ?b3 ?h3; (case a3 => rfl); (case b3 => (refine PW.pg_nameX 3 ?_ ?_ ?_ ?_; exact sc__law_same.nd; rfl; (first | exact Or.inl rfl | exact Or.inr rfl); (first | exact Or.inl rfl | exact Or.inr rfl))); exact pgs_nil)) (fun _ _ _ _ _ => pts_nil) (fun _ _ _ _ _ => (pe_call G__law_same hr rfl T.g__law_same T.d__law_same.kp (b__law_same T) .nil pass0 (pa_cons (pv 2) (pa_cons (pv 3) pa_nil))))) pa_nil)))))))
      pss_nil)
    (pss_cons (ps_if (PW.pt (pw_or (pt_cmp (pc_isN (pv 1)) rfl) (pw_or1 (pt_cmp (pc_isN (pv 0)) rfl))))
      (pss_one (ps_ret (pe_and (pe_cmp (pc_isN (pv 1)) rfl) (pe_one (pe_cmp (pc_isN (pv 0)) rfl)))))
      pss_nil)
    (pss_cons (ps_if (PW.pt (pw_or (pt_cmpR op_ne (pe_callB call_isi (by rfl) T.f_isinstance (by decide +kernel) (pa_cons (pv 0) (pa_cons (pe_bltn (v := .ty "bool") (u := .type "bool") (by rfl) T.f_bool (by decide +kernel) rfl) pa_nil))) (pe_callB call_isi (by rfl) T.f_isinstance (by decide +kernel) (pa_cons (pv 1) (pa_cons (pe_bltn (v := .ty "bool") (u := .type "bool") (by rfl) T.f_bool (by decide +kernel) rfl) pa_nil))) (nomark _)) (pw_or1 (pt_cmpR op_ne (pe_callB call_isi (by rfl) T.f_isinstance (by decide +kernel) (pa_cons (pv 0) (pa_cons (pe_bltn (v := .ty "int") (u := .type "int") (by rfl) T.f_int (by decide +kernel) rfl) pa_nil))) (pe_callB call_isi (by rfl) T.f_isinstance (by decide +kernel) (pa_cons (pv 1) (pa_cons (pe_bltn (v := .ty "int") (u := .type "int") (by rfl) T.f_int (by decide +kernel) rfl) pa_nil))) (nomark _)))))
      (pss_one (ps_ret pe_bl))
      pss_nil)
    (pss_one (ps_ret (pe_and (pe_cmpR op_eq (pe_callB call_isi (by rfl) T.f_isinstance (by decide +kernel) (pa_cons (pv 0) (pa_cons (pe_bltn (v := .ty "str") (u := .type "str") (by rfl) T.f_str (by decide +kernel) rfl) pa_nil))) (pe_callB call_isi (by rfl) T.f_isinstance (by decide +kernel) (pa_cons (pv 1) (pa_cons (pe_bltn (v := .ty "str") (u := .type "str") (by rfl) T.f_str (by decide +kernel) rfl) pa_nil))) (nomark _)) (pe_one (pe_cmpR op_eq (pv 0) (pv 1) (nomark _)))))))))), ?_⟩
    show tSeq _ _ _ [some x, some y, none, none] H
    walk_at "K"
    by_cases hf : x = y ∧ flatV x = true
    · obtain ⟨rfl, hf⟩ := hf
      cases x with
      | non =>
        walk_at "go"
        intro p hp
        walk_at "go"
        exact hQ _ (Ex.new hp)
      | bl b =>
        walk_at "go"
        intro p hp
        walk_at "go"
        exact hQ _ (Ex.new hp)
      | int i =>
        walk_at "go"
        intro p hp
        walk_at "go"
        exact hQ _ (Ex.new hp)
      | str z =>
        walk_at "go"
        intro p hp
        walk_at "go"
        exact hQ _ (Ex.new hp)
      | _ => cases hf
    · cases n with
      | zero => exact absurd hs hf
      | succ n =>
        rcases hs with hs | ⟨p, q, xs, ys, rfl, rfl, hpq, hl, hl2, hit⟩
        · exact absurd hs hf
        · have j0 : ∃ j, n + 1 = j + 1 ∧ spj = spSame K j := hj.elim (fun z => nomatch z) id
          obtain ⟨j, ej, rfl⟩ := j0
          have ej2 : j = n := by omega
          subst ej2
          have comp : ∀ (J : It) (G : Hp → Prop) (H1 : Hp) (D : Addr) (Qd : Hp → Prop), Walk J xs.length G (YPair (fun i => xs[i]?) (fun i => ys[i]?)) → Ex H H1 → (∀ H', Ex H1 H' → G H') → H1 D = none → (∀ H' bs, Ex H H' → H' D = some (.lst ((List.replicate bs true).map V.bl)) → Qd H') →
              LcW J (gTup K 2 (gCons (gName 2) (gCons (gName 3) gNil))) tYes (tCall (spSame K j) [] E0 (tCons (tVar 2) (tCons (tVar 3) tNil))) [2, 3] [some (.ref p), some (.ref q), none, none] H1 D Qd := by
            intro J G H1 D Qd w x1 hG hD hR
            refine lc_grow w (σw := [some (.ref p), some (.ref q), none, none]) rfl (fun _ _ v => v = .bl true) hD hl2 hG (fun _ _ _ _ _ e => e) ?_ ?_
            · rintro i x H2 H3 acc R2 hi x2 ha ⟨T2, u, v, rfl, hT2, rfl, hu, hv⟩ hR2
              walk_at "go"
              refine ⟨rfl, ?_⟩
              walk_at "go"
              exact ⟨u, v, rfl, Sm.mono ((x1.trans x2).trans (Ex.new hT2)) (hit i u v hu hv), fun H4 x4 => hR2 _ _ rfl ((Ex.new hT2).trans x4)⟩
            · intro H2 acc x2 ha hlen hb
              refine hR H2 acc.length (x1.trans x2) ?_
              rw [ha, ← all_true (fun i v e => hb i v e)]
          rcases hpq with ⟨hp1, hq1⟩ | ⟨hp1, hq1⟩
          · walk_at "go"
            intro t ht
            have e1 := (Ex.new (o := .tup [V.ty "list", V.ty "tuple"]) ht) _ _ hp1
            have e2 := (Ex.new (o := .tup [V.ty "list", V.ty "tuple"]) ht) _ _ hq1
            walk_at "go"
            refine r_ifT' (decide_eq_true (by rw [hl])) ?_
            walk_at "go"
            refine ⟨p, q, xs, ys, rfl, Or.inl ⟨SqL.of e1, SqL.of e2, fun D hD => ?_⟩⟩
            refine comp _ _ _ D _ (walk_zip (by rw [← hl, Nat.min_self])) (Ex.new ht) (fun H' x => ⟨SqL.of (x _ _ e1), SqL.of (x _ _ e2)⟩) hD fun H' bs x hb => ?_
            walk_at "go"
            refine r_all (SqL.of hb) ?_
            rw [replicate_all]
            exact hQ _ x
          · walk_at "go"
            intro t ht
            have e1 := (Ex.new (o := .tup [V.ty "list", V.ty "tuple"]) ht) _ _ hp1
            have e2 := (Ex.new (o := .tup [V.ty "list", V.ty "tuple"]) ht) _ _ hq1
            walk_at "go"
            refine r_ifT' (decide_eq_true (by rw [hl])) ?_
            walk_at "go"
            refine ⟨p, q, xs, ys, rfl, Or.inr ⟨SqT.of e1, SqT.of e2, fun D hD => ?_⟩⟩
            refine comp _ _ _ D _ (walk_zipT (by rw [← hl, Nat.min_self])) (Ex.new ht) (fun H' x => ⟨SqT.of (x _ _ e1), SqT.of (x _ _ e2)⟩) hD fun H' bs x hb => ?_
            walk_at "go"
            refine r_all (SqL.of hb) ?_
            rw [replicate_all]
            exact hQ _ x
theorem ok__law_same (T : Txt K mg) : ∀ n : Nat, FnOk P w K mg base CX0 (n + 1) (He.ga K "_law_same") (fdOf K (He.ga K "_law_same")) p__law_same (spSame K n)
  | 0 => ok1__law_same T (.inl rfl) (fnOk_no (k := 0))
  | n + 1 => ok1__law_same T (.inr ⟨n, rfl, rfl⟩) (ok__law_same T n)
end
end PW
namespace PW
open PySem PySem.Spec PyProof.Rows L2
/-- the letters -/
def lettersZ : Str := "abcdefghijklmnopqrstuvwxyz"
def reservedV : List V := [.str "len", .str "mod", .str "and", .str "or", .str "not", .str "true"]
def allLet (z : Str) : Bool := (z.cps.toList.map fun c => decide (c ∈ lettersZ.cps.toList)).all id
/-- whether a text is a name -/
def isNameZ (z : Str) : Bool := decide (1 ≤ (z.length : Int)) && (decide ((z.length : Int) ≤ 6) && (!inV (.str z) reservedV && allLet z))
def isNameV : V → Bool
  | .str z => isNameZ z
  | _ => false
def spIsName (K : PySem.W.Frag) : Sp := fun vs H Q _ => ∃ x, vs = [x] ∧ ((∃ z, x = .str z ∧ z.length ≤ 100000) ∨ ∃ n, isNameV x = false ∧ TyX K H x (.type n) ∧ kitB n "str" = some false) ∧ ∀ H', Ex H H' → Q (.bl (isNameV x)) H'
def spLawIsName : Sp := fun vs H Q _ => ∃ z : Str, vs = [.str z] ∧ z.length ≤ 100000 ∧ ∀ H', Ex H H' → Q (.bl (isNameZ z)) H'
theorem size_le {z : Str} (h : z.length ≤ 100000) : z.length ≤ sizeLine := Nat.le_trans h (by decide)
section
variable {P : Program} {w : World} {K : PySem.W.Frag} {mg : Str → Option Value} {base : Heap}
theorem str_walk {te : L2.TE} {vs : List Nat} {σ σw : L2.St} {H1 : Hp} {D : Addr} {Qd : Hp → Prop} {z : Str} {i : Nat} {f : Nat → V} (τ : Nat → L2.St) (hz : z.length ≤ 100000) (hw : wipe σ vs = σw) (hτ : ∀ c, σw.set i (some (.str ⟨#[c]⟩)) = τ c) (hv : ∀ c, wipe (τ c) vs = σw) (hD : H1 D = none)
    (hs : ∀ c H (R : VK), Ex H1 H → (∀ H4, Ex H H4 → R (f c) H4) → te (τ c) H R) (hd : ∀ H, Ex H1 H → H D = some (.lst (z.cps.toList.map f)) → Qd H) : LcW (Its z) (gName i) tYes te vs σ H1 D Qd := by
  refine lc_grow walk_str hw (fun i _ v => ∃ c, z.cps.toList[i]? = some c ∧ v = f c) hD hz (fun _ _ => trivial) (fun _ _ _ _ _ e => e) ?_ ?_
  · rintro j x H H' acc R hj x1 ha ⟨rfl, c, hc, rfl⟩ hR
    show wipe (σw.set i (some (.str ⟨#[c]⟩))) vs = σw ∧ te (σw.set i (some (.str ⟨#[c]⟩))) _ R
    rw [hτ]
    exact ⟨hv c, hs c _ R x1 fun H4 x4 => hR _ _ ⟨c, by rw [← hc]; simp, rfl⟩ x4⟩
  · intro H acc x1 ha hl hE
    refine hd H x1 ?_
    rw [ha, acc_map (l := z.cps.toList) (f := f) (by rw [hl]; rfl) fun i v e => hE i v e]
end
end PW
namespace PW
open PySem PySem.Spec PyProof.Rows L2
section
variable {P : Program} {w : World} {K : PySem.W.Frag} {mg : Str → Option Value} {base : Heap}
theorem ok_is_name {k : Nat} (T : Txt K mg) : FnOk P w K mg base CX0 (k + 1) (He.ga K "is_name") (fdOf K (He.ga K "is_name")) p_is_name (spIsName K) := by
  refine FunD.ok T.d_is_name sc_is_name (fun vs H Q E h => ?_) (fun cdv A outer s H vs Q E hr h => ?_)
  · obtain ⟨x, rfl, _⟩ := h
    rfl
  · obtain ⟨x, rfl, hx, hQ⟩ := h
    refine ⟨_, PSs.nox ((pss_cons (ps_if (PW.pt (pw_or (pt_not (pt_val (pe_callB call_isi (by rfl) T.f_isinstance (by decide +kernel) (pa_cons (pv 0) (pa_cons (pe_bltn (v := .ty "str") (u := .type "str") (by rfl) T.f_str (by decide +kernel) rfl) pa_nil))))) (pw_or (pt_not (pt_chain op_le op_le pe_int (pe_callB call_lenN (by rfl) T.f_len (by decide +kernel) (pa_cons (pv 0) pa_nil)) (pe_gint rfl T.c_MOST_LETTERS))) (pw_or1 (pt_cmpR op_in_seq (pv 0) (pe_glob (v := .ref _) rfl T.g_RESERVED rfl) rfl)))))
      (pss_one (ps_ret pe_bl))
      pss_nil)
    (pss_one (ps_ret (pe_callB (cr_all rfl) (by rfl) T.f_all (by decide +kernel) (pa_cons (pe_lc (own := [("sign", 1)]) rfl sc_is_name.nd (pi_str (pv 0)) (blkOk_by (own := [("sign", 1)]) (N := n_is_name) (sc := defScope s_is_name) (by decide +kernel)) (fun _ _ _ _ _ => (pg_name (i := 1) sc_is_name.nd rfl (Or.inl rfl) (hf := by first | exact Or.inl rfl | exact Or.inr rfl))) (fun _ _ _ _ _ => pts_nil) (fun _ _ _ _ _ => (pe_cmpR op_inS (pv 1) (pe_gstr rfl T.c_LETTERS) rfl))) pa_nil)))))), ?_⟩
    show tSeq _ _ _ [some x, none] H
    walk_at "K"
    rcases hx with ⟨z, rfl, hz⟩ | ⟨n, hf, ht, hk⟩
    · have hz2 := size_le hz
      have tR := T.t_RESERVED H
      have fin : ∀ b : Bool, isNameZ z = b → ∀ H2, Ex H H2 → Q (.bl b) H2 := fun b e H2 x2 => by
        rw [← e]
        exact hQ H2 x2
      refine r_seqP (fun σ' H' => σ' = [some (V.str z), none] ∧ H' = H ∧ decide (1 ≤ (z.length : Int)) = true ∧ decide ((z.length : Int) ≤ 6) = true ∧ inV (.str z) reservedV = false) ?_ ?_
      · rintro σ' H' ⟨rfl, rfl, e1, e2, e3⟩
        walk_at "go"
        intro D hD
        refine str_walk (f := fun c => .bl (decide (c ∈ lettersZ.cps.toList))) (fun c => [some (V.str z), some (.str ⟨#[c]⟩)]) hz rfl (fun _ => rfl) (fun _ => rfl) hD (fun c H2 R x2 hR => ?_) (fun H2 x2 ha => ?_)
        · walk_at "go"
          exact hR _ (Ex.refl _)
        · walk_at "go"
          refine r_all (bs := z.cps.toList.map fun c => decide (c ∈ lettersZ.cps.toList)) (SqL.of (by rw [ha, List.map_map]; rfl)) ?_
          refine fin _ ?_ _ x2
          unfold isNameZ allLet
          rw [e1, e2, e3, Bool.true_and, Bool.true_and]
          rfl
      · intro N hN
        walk_at "go"
        refine r_if2 (fun e => ?_) (fun e => ?_)
        · walk_at "go"
          refine r_if2 (fun e2 => ?_) (fun e2 => ?_)
          · walk_at "go"
            refine fin _ ?_ _ (Ex.refl _)
            have e4 : decide ((z.length : Int) ≤ 6) = false := by simpa using e2
            unfold isNameZ
            rw [e4]
            simp
          · have e4 : decide ((z.length : Int) ≤ 6) = true := by simpa using e2
            walk_at "go"
            refine r_if2 (fun e3 => ?_) (fun e3 => ?_)
            · walk_at "go"
              refine fin _ ?_ _ (Ex.refl _)
              unfold isNameZ
              rw [show inV (.str z) reservedV = true from e3]
              simp
            · walk_at "go"
              exact hN _ _ ⟨rfl, rfl, e, e4, e3⟩
        · walk_at "go"
          refine fin _ ?_ _ (Ex.refl _)
          unfold isNameZ
          rw [e]
          simp
    · walk_at "go"
      refine r_isi ht hk ?_
      walk_at "go"
      have q := hQ H (Ex.refl _)
      rw [hf] at q
      exact q
end
end PW
/-! ### terms: their texts, their levels, how they lie in the heap -/
namespace PW
open PySem PySem.Spec PyProof.Rows L2
inductive Tm where
  | num (i : Int)
  | nam (z : Str)
  | add (a b : Tm)
  | sub (a b : Tm)
  | tim (i : Int) (a : Tm)
  | pow (a : Tm)
  | len (a : Tm)
  | quo (a : Tm) (i : Int)
  | cal (f : Str) (as : List Tm)
/-- the signs of a number -/
def numC (i : Int) : List Nat := if i < 0 then 45 :: TL.numL i.natAbs else TL.numL i.natAbs
namespace Tm
mutual
def dep : Tm → Nat
  | .num _ => 1
  | .nam _ => 1
  | .add a b => 1 + max (dep a) (dep b)
  | .sub a b => 1 + max (dep a) (dep b)
  | .tim _ a => 1 + dep a
  | .pow a => 1 + dep a
  | .len a => 1 + dep a
  | .quo a _ => 1 + dep a
  | .cal _ as => 1 + deps as
def deps : List Tm → Nat
  | [] => 0
  | a :: r => max (dep a) (deps r)
end
mutual
/-- the signs of a term's text -/
def tx : Tm → List Nat
  | .num i => numC i
  | .nam z => TL.tl z
  | .add a b => 40 :: (tx a ++ (32 :: 43 :: 32 :: (tx b ++ [41])))
  | .sub a b => 40 :: (tx a ++ (32 :: 45 :: 32 :: (tx b ++ [41])))
  | .tim i a => numC i ++ (42 :: tx a)
  | .pow a => 50 :: 94 :: tx a
  | .len a => 108 :: 101 :: 110 :: 40 :: (tx a ++ [41])
  | .quo a i => 40 :: (tx a ++ (32 :: 47 :: 47 :: 32 :: (numC i ++ [41])))
  | .cal f as => TL.tl f ++ (40 :: (txs as ++ [41]))
def txs : List Tm → List Nat
  | [] => []
  | a :: r => tx a ++ txr r
def txr : List Tm → List Nat
  | [] => []
  | a :: r => 44 :: 32 :: (tx a ++ txr r)
end
/-- a term's text -/
def txt (t : Tm) : Str := ⟨t.tx.toArray⟩
/-- the terms directly inside -/
def parts : Tm → List Tm
  | .num _ => []
  | .nam _ => []
  | .add a b => [a, b]
  | .sub a b => [a, b]
  | .tim _ a => [a]
  | .pow a => [a]
  | .len a => [a]
  | .quo a _ => [a]
  | .cal _ as => as
mutual
/-- a bound of a term's size -/
def cost : Tm → Nat
  | .num _ => 1
  | .nam z => 1 + z.length
  | .add a b => 1 + cost a + cost b
  | .sub a b => 1 + cost a + cost b
  | .tim _ a => 1 + cost a
  | .pow a => 1 + cost a
  | .len a => 1 + cost a
  | .quo a _ => 1 + cost a
  | .cal f as => 1 + f.length + costs as
def costs : List Tm → Nat
  | [] => 0
  | a :: r => cost a + costs r
end
mutual
/-- names are names, ints are below n, m, q -/
def ok (n m q : Nat) : Tm → Prop
  | .num i => i.natAbs < n
  | .nam z => isNameZ z = true
  | .add a b => ok n m q a ∧ ok n m q b
  | .sub a b => ok n m q a ∧ ok n m q b
  | .tim i a => i.natAbs < m ∧ ok n m q a
  | .pow a => ok n m q a
  | .len a => ok n m q a
  | .quo a i => (1 ≤ i ∧ i < (q : Nat)) ∧ ok n m q a
  | .cal f as => isNameZ f = true ∧ as.length ≤ 3 ∧ oks n m q as
def oks (n m q : Nat) : List Tm → Prop
  | [] => True
  | a :: r => ok n m q a ∧ oks n m q r
end
mutual
/-- a term as a datum -/
def pd : Tm → PyData
  | .num i => .tuple [.str "number", .int i]
  | .nam z => .tuple [.str "name", .str z]
  | .add a b => .tuple [.str "add", pd a, pd b]
  | .sub a b => .tuple [.str "subtract", pd a, pd b]
  | .tim i a => .tuple [.str "times", .int i, pd a]
  | .pow a => .tuple [.str "power", pd a]
  | .len a => .tuple [.str "length", pd a]
  | .quo a i => .tuple [.str "quotient", pd a, .int i]
  | .cal f as => .tuple [.str "call", .str f, .tuple (pds as)]
def pds : List Tm → List PyData
  | [] => []
  | a :: r => pd a :: pds r
end
theorem oks_mem {n m q : Nat} : ∀ {as : List Tm}, oks n m q as ↔ ∀ a ∈ as, ok n m q a
  | [] => by simp [oks]
  | a :: r => by
    simp only [oks, List.mem_cons, forall_eq_or_imp]
    rw [oks_mem]
theorem pds_map : ∀ {as : List Tm}, pds as = as.map pd
  | [] => rfl
  | a :: r => by
    simp only [pds, List.map_cons]
    rw [pds_map]
theorem dep_pos (t : Tm) : 1 ≤ t.dep := by
  cases t <;> (unfold dep; omega)
theorem deps_le {as : List Tm} {n : Nat} : deps as ≤ n ↔ ∀ a ∈ as, a.dep ≤ n := by
  induction as with
  | nil => simp [deps]
  | cons a r ih =>
    simp only [deps, List.mem_cons, forall_eq_or_imp]
    rw [← ih]
    omega
theorem dep_parts {t : Tm} {n : Nat} (h : t.dep ≤ n + 1) : ∀ a ∈ t.parts, a.dep ≤ n := by
  cases t with
  | num i => intro a ha; exact nomatch ha
  | nam z => intro a ha; exact nomatch ha
  | add x y =>
    intro a ha
    simp only [dep] at h
    simp only [parts, List.mem_cons, List.not_mem_nil, or_false] at ha
    rcases ha with rfl | rfl <;> omega
  | sub x y =>
    intro a ha
    simp only [dep] at h
    simp only [parts, List.mem_cons, List.not_mem_nil, or_false] at ha
    rcases ha with rfl | rfl <;> omega
  | cal f as =>
    simp only [dep] at h
    exact deps_le.mp (show deps as ≤ n by omega)
  | _ =>
    intro a ha
    simp only [dep] at h
    simp only [parts, List.mem_cons, List.not_mem_nil, or_false] at ha
    subst ha
    omega
theorem deps_eq (t : Tm) : t.dep = 1 + deps t.parts := by
  cases t <;> simp [dep, parts, deps]
/-- the word at a term's head -/
def word : Tm → Str
  | .num _ => "number"
  | .nam _ => "name"
  | .add _ _ => "add"
  | .sub _ _ => "subtract"
  | .tim _ _ => "times"
  | .pow _ => "power"
  | .len _ => "length"
  | .quo _ _ => "quotient"
  | .cal _ _ => "call"
end Tm
/-- the tuple of a term: R tells its parts -/
def TmRow (K : PySem.W.Frag) (H : Hp) (R : V → Tm → Prop) (xs : List V) : Tm → Prop
  | .num i => xs = [.str "number", .int i]
  | .nam z => xs = [.str "name", .str z]
  | .add a b => ∃ x y, xs = [.str "add", x, y] ∧ R x a ∧ R y b
  | .sub a b => ∃ x y, xs = [.str "subtract", x, y] ∧ R x a ∧ R y b
  | .tim i a => ∃ x, xs = [.str "times", .int i, x] ∧ R x a
  | .pow a => ∃ x, xs = [.str "power", x] ∧ R x a
  | .len a => ∃ x, xs = [.str "length", x] ∧ R x a
  | .quo a i => ∃ x, xs = [.str "quotient", x, .int i] ∧ R x a
  | .cal f as => ∃ q ys, xs = [.str "call", .str f, .ref q] ∧ H q = some (.tup ys) ∧ Paired R ys as
/-- v is the term t, of at most d levels -/
def IsTm (K : PySem.W.Frag) (H : Hp) : Nat → V → Tm → Prop
  | 0, _, _ => False
  | d + 1, v, t => ∃ p xs, v = .ref p ∧ H p = some (.tup xs) ∧ TmRow K H (IsTm K H d) xs t
theorem TmRow.imp {K : PySem.W.Frag} {H H' : Hp} {R R' : V → Tm → Prop} {xs : List V} {t : Tm} (e : ∀ {p ys}, H p = some (.tup ys) → H' p = some (.tup ys)) (h : ∀ x a, R x a → R' x a) (r : TmRow K H R xs t) : TmRow K H' R' xs t := by
  cases t with
  | num i => exact r
  | nam z => exact r
  | add a b => obtain ⟨x, y, e1, e2, e3⟩ := r; exact ⟨x, y, e1, h _ _ e2, h _ _ e3⟩
  | sub a b => obtain ⟨x, y, e1, e2, e3⟩ := r; exact ⟨x, y, e1, h _ _ e2, h _ _ e3⟩
  | cal f as => obtain ⟨q, ys, e1, e2, e3⟩ := r; exact ⟨q, ys, e1, e e2, L2.Paired.mapP e3 h⟩
  | _ => obtain ⟨x, e1, e2⟩ := r; exact ⟨x, e1, h _ _ e2⟩
theorem IsTm.ex {K : PySem.W.Frag} {H H' : Hp} (x : Ex H H') : ∀ {d : Nat} {v : V} {t : Tm}, IsTm K H d v t → IsTm K H' d v t
  | 0, _, _, h => h.elim
  | d + 1, v, t, h => by
    obtain ⟨p, xs, e, h1, h2⟩ := h
    exact ⟨p, xs, e, x _ _ h1, h2.imp (fun q => x _ _ q) fun _ _ z => IsTm.ex x z⟩
theorem IsTm.up {K : PySem.W.Frag} {H : Hp} : ∀ {d d' : Nat} {v : V} {t : Tm}, d ≤ d' → IsTm K H d v t → IsTm K H d' v t
  | 0, _, _, _, _, h => h.elim
  | d + 1, 0, _, _, e, _ => absurd e (by omega)
  | d + 1, d' + 1, v, t, e, h => by
    obtain ⟨p, xs, e1, h1, h2⟩ := h
    exact ⟨p, xs, e1, h1, h2.imp id fun _ _ z => IsTm.up (by omega) z⟩
theorem pr_len {α β : Type} {F : α → β → Prop} {xs : List α} {ys : List β} (h : Paired F xs ys) : xs.length = ys.length := Paired.length h
theorem pr_get {α β : Type} {F : α → β → Prop} : ∀ {xs : List α} {ys : List β} {i : Nat} {x : α}, Paired F xs ys → xs[i]? = some x → ∃ y, ys[i]? = some y ∧ F x y
  | _, _, _, _, .nil, h => by cases h
  | _, _, 0, _, .cons r _, h => ⟨_, rfl, by
    injection h with h
    subst h
    exact r⟩
  | _, _, i + 1, _, .cons _ t, h => pr_get (i := i) t h
theorem deps_paired {R : V → Tm → Prop} {d : Nat} (h : ∀ v t, R v t → t.dep ≤ d) : ∀ {ys : List V} {as : List Tm}, Paired R ys as → Tm.deps as ≤ d
  | _, _, .nil => by simp [Tm.deps]
  | _, _, .cons a b => by
    have h1 := h _ _ a
    have h2 := deps_paired h b
    simp only [Tm.deps]
    omega
theorem IsTm.depth {K : PySem.W.Frag} {H : Hp} : ∀ {d : Nat} {v : V} {t : Tm}, IsTm K H d v t → t.dep ≤ d
  | 0, _, _, h => h.elim
  | d + 1, v, t, h => by
    obtain ⟨p, xs, e1, h1, h2⟩ := h
    cases t with
    | num i => simp only [Tm.dep]; omega
    | nam i => simp only [Tm.dep]; omega
    | add a b =>
      obtain ⟨x, y, _, e2, e3⟩ := h2
      have := IsTm.depth e2
      have := IsTm.depth e3
      simp only [Tm.dep]
      omega
    | sub a b =>
      obtain ⟨x, y, _, e2, e3⟩ := h2
      have := IsTm.depth e2
      have := IsTm.depth e3
      simp only [Tm.dep]
      omega
    | cal f as =>
      obtain ⟨q, ys, _, _, e3⟩ := h2
      have hd : Tm.deps as ≤ d := deps_paired (fun _ _ z => IsTm.depth z) e3
      simp only [Tm.dep]
      omega
    | _ =>
      obtain ⟨x, _, e2⟩ := h2
      have := IsTm.depth e2
      simp only [Tm.dep]
      omega
/-- a new tuple is a term -/
theorem IsTm.mk {K : PySem.W.Frag} {H : Hp} {d : Nat} {p : Addr} {xs : List V} {t : Tm} (h : H p = some (.tup xs)) (r : TmRow K H (IsTm K H d) xs t) : IsTm K H (d + 1) (.ref p) t := ⟨p, xs, rfl, h, r⟩
theorem tl_iS (i : Int) : TL.tl (Str.ofString (toString i)) = numC i := by
  unfold numC
  cases i with
  | ofNat n =>
    rw [if_neg (by show ¬ (n : Int) < 0; omega)]
    exact TL.tl_num n
  | negSucc n =>
    rw [if_pos (Int.negSucc_lt_zero n)]
    have e : toString (Int.negSucc n) = "-" ++ Nat.repr (n + 1) := rfl
    have e2 := TL.tl_num (n + 1)
    have e3 : toString ((n + 1 : Nat) : Int) = Nat.repr (n + 1) := rfl
    rw [e3] at e2
    rw [e, Str.ofString_eq_toList]
    rw [Str.ofString_eq_toList] at e2
    show (("-" ++ Nat.repr (n + 1)).toList.map Char.toNat) = _
    have e4 : (Nat.repr (n + 1)).toList.map Char.toNat = TL.numL (n + 1) := e2
    rw [String.toList_append, List.map_append, e4]
    rfl
theorem numC_len {i : Int} {k : Nat} (hk : 0 < k) (h : i.natAbs < 10 ^ k) : (numC i).length ≤ k + 1 := by
  have := TL.numL_len hk h
  unfold numC
  split
  · show (TL.numL i.natAbs).length + 1 ≤ k + 1
    omega
  · omega
theorem numC_ne (i : Int) : numC i ≠ [] := by
  unfold numC
  split
  · exact List.cons_ne_nil _ _
  · exact TL.numL_ne _
end PW
/-! ### terms as data; bounds of their texts -/
namespace PW
open PySem PySem.Spec PyProof.Rows L2
theorem lettersZ_tl : TL.tl lettersZ = [97, 98, 99, 100, 101, 102, 103, 104, 105, 106, 107, 108, 109, 110, 111, 112, 113, 114, 115, 116, 117, 118, 119, 120, 121, 122] := by decide +kernel
theorem mem_letters {c : Nat} : c ∈ lettersZ.cps.toList ↔ 97 ≤ c ∧ c ≤ 122 := by
  rw [show lettersZ.cps.toList = _ from lettersZ_tl]
  constructor
  · intro h
    simp only [List.mem_cons, List.not_mem_nil, or_false] at h
    omega
  · rintro ⟨h1, h2⟩
    simp only [List.mem_cons, List.not_mem_nil, or_false]
    omega
theorem allLet_iff {z : Str} : allLet z = true ↔ ∀ c ∈ TL.tl z, 97 ≤ c ∧ c ≤ 122 := by
  unfold allLet
  rw [List.all_map, List.all_eq_true]
  constructor
  · intro h c hc
    exact mem_letters.mp (of_decide_eq_true (h c hc))
  · intro h c hc
    exact decide_eq_true (mem_letters.mpr (h c hc))
structure IsNm (z : Str) : Prop where
  l1 : 1 ≤ z.length
  l6 : z.length ≤ 6
  let_ : ∀ c ∈ TL.tl z, 97 ≤ c ∧ c ≤ 122
  res : inV (.str z) reservedV = false
theorem isNm_iff {z : Str} : isNameZ z = true ↔ IsNm z := by
  unfold isNameZ
  simp only [Bool.and_eq_true, decide_eq_true_eq, Bool.not_eq_true']
  constructor
  · rintro ⟨h1, h2, h3, h4⟩
    exact ⟨by omega, by omega, allLet_iff.mp h4, h3⟩
  · rintro ⟨h1, h2, h3, h4⟩
    exact ⟨by omega, by omega, h4, allLet_iff.mpr h3⟩
theorem nm_repr {z : Str} (h : IsNm z) : (reprText z).length ≤ 10 * z.length + 2 := StrLaws.reprText_len z fun c hc => by
  have := (h.let_ c hc).2
  exact Nat.lt_of_le_of_lt this (by decide)
theorem IsTm.dat {K : PySem.W.Frag} {H : Hp} : ∀ {d : Nat} {v : V} {t : Tm}, IsTm K H d v t → Dp K H v t.pd
  | 0, _, _, h => h.elim
  | d + 1, v, t, h => by
    obtain ⟨p, xs, rfl, h1, h2⟩ := h
    cases t with
    | num i =>
      have h2 : xs = _ := h2
      subst h2
      simp only [Tm.pd]
      exact .tup (SqT.of h1) (.cons (.str _) (.cons (.int _) .nil))
    | nam z =>
      have h2 : xs = _ := h2
      subst h2
      simp only [Tm.pd]
      exact .tup (SqT.of h1) (.cons (.str _) (.cons (.str _) .nil))
    | add a b =>
      obtain ⟨x, y, rfl, e2, e3⟩ := h2
      simp only [Tm.pd]
      exact .tup (SqT.of h1) (.cons (.str _) (.cons (IsTm.dat e2) (.cons (IsTm.dat e3) .nil)))
    | sub a b =>
      obtain ⟨x, y, rfl, e2, e3⟩ := h2
      simp only [Tm.pd]
      exact .tup (SqT.of h1) (.cons (.str _) (.cons (IsTm.dat e2) (.cons (IsTm.dat e3) .nil)))
    | tim i a =>
      obtain ⟨x, rfl, e2⟩ := h2
      simp only [Tm.pd]
      exact .tup (SqT.of h1) (.cons (.str _) (.cons (.int _) (.cons (IsTm.dat e2) .nil)))
    | pow a =>
      obtain ⟨x, rfl, e2⟩ := h2
      simp only [Tm.pd]
      exact .tup (SqT.of h1) (.cons (.str _) (.cons (IsTm.dat e2) .nil))
    | len a =>
      obtain ⟨x, rfl, e2⟩ := h2
      simp only [Tm.pd]
      exact .tup (SqT.of h1) (.cons (.str _) (.cons (IsTm.dat e2) .nil))
    | quo a i =>
      obtain ⟨x, rfl, e2⟩ := h2
      simp only [Tm.pd]
      exact .tup (SqT.of h1) (.cons (.str _) (.cons (IsTm.dat e2) (.cons (.int _) .nil)))
    | cal f as =>
      obtain ⟨q, ys, rfl, e2, e3⟩ := h2
      simp only [Tm.pd]
      refine .tup (SqT.of h1) (.cons (.str _) (.cons (.str _) (.cons (.tup (SqT.of e2) ?_) .nil)))
      have go : ∀ {ys : List V} {as : List Tm}, Paired (IsTm K H d) ys as → DpAll K H ys (Tm.pds as) := by
        intro ys as z
        induction z with
        | nil => exact .nil
        | cons a b ih => exact .cons (IsTm.dat a) ih
      exact go e3
namespace Tm
mutual
theorem pd_dict : ∀ t : Tm, t.pd.hasDict = false
  | .num _ => by simp [pd, PyData.hasDict, PyData.hasDictAll]
  | .nam _ => by simp [pd, PyData.hasDict, PyData.hasDictAll]
  | .add a b => by simp [pd, PyData.hasDict, PyData.hasDictAll, pd_dict a, pd_dict b]
  | .sub a b => by simp [pd, PyData.hasDict, PyData.hasDictAll, pd_dict a, pd_dict b]
  | .tim _ a => by simp [pd, PyData.hasDict, PyData.hasDictAll, pd_dict a]
  | .pow a => by simp [pd, PyData.hasDict, PyData.hasDictAll, pd_dict a]
  | .len a => by simp [pd, PyData.hasDict, PyData.hasDictAll, pd_dict a]
  | .quo a _ => by simp [pd, PyData.hasDict, PyData.hasDictAll, pd_dict a]
  | .cal _ as => by simp [pd, PyData.hasDict, PyData.hasDictAll, pds_dict as]
theorem pds_dict : ∀ as : List Tm, PyData.hasDictAll (pds as) = false
  | [] => rfl
  | a :: r => by simp [pds, PyData.hasDictAll, pd_dict a, pds_dict r]
end
mutual
theorem pd_depth : ∀ t : Tm, t.pd.depth ≤ 2 * t.dep
  | .num _ => by simp [pd, PyData.depth, PyData.depthAll, dep]
  | .nam _ => by simp [pd, PyData.depth, PyData.depthAll, dep]
  | .add a b => by
    have := pd_depth a
    have := pd_depth b
    simp only [pd, PyData.depth, PyData.depthAll, dep]
    omega
  | .sub a b => by
    have := pd_depth a
    have := pd_depth b
    simp only [pd, PyData.depth, PyData.depthAll, dep]
    omega
  | .tim _ a => by
    have := pd_depth a
    simp only [pd, PyData.depth, PyData.depthAll, dep]
    omega
  | .pow a => by
    have := pd_depth a
    simp only [pd, PyData.depth, PyData.depthAll, dep]
    omega
  | .len a => by
    have := pd_depth a
    simp only [pd, PyData.depth, PyData.depthAll, dep]
    omega
  | .quo a _ => by
    have := pd_depth a
    simp only [pd, PyData.depth, PyData.depthAll, dep]
    omega
  | .cal _ as => by
    have := pds_depth as
    simp only [pd, PyData.depth, PyData.depthAll, dep]
    omega
theorem pds_depth : ∀ as : List Tm, PyData.depthAll (pds as) ≤ 2 * deps as
  | [] => by simp [pds, PyData.depthAll, deps]
  | a :: r => by
    have := pd_depth a
    have := pds_depth r
    simp only [pds, PyData.depthAll, deps]
    omega
end
end Tm
theorem log_small {i : Int} {n : Nat} (h : i.natAbs < n) (hn : n ≤ 10 ^ 10) : i.natAbs.log2 < 1920 := by
  by_cases h0 : i.natAbs = 0
  · rw [h0]; decide
  · exact (Nat.log2_lt h0).mpr (Nat.lt_of_lt_of_le (Nat.lt_of_lt_of_le h hn) (by
      have : (10 : Nat) ^ 10 ≤ 2 ^ 40 := by decide
      exact Nat.le_trans this (Nat.pow_le_pow_right (by decide) (by decide))))
theorem shown_int {i : Int} (h : i.natAbs < 10 ^ 10) : (PyData.int i).shown.length ≤ 11 := by
  simp only [PyData.shown]
  rw [PySem.ofString_length]
  exact int_text_length_le10 (by decide) h
theorem shown_tup (ds : List PyData) : (PyData.tuple ds).shown.length ≤ piled (PyData.shownAll ds) + 2 := by
  simp only [PyData.shown]
  unfold tupleText
  rw [Str.length_append, Str.length_append]
  have l1 : ("(" : Str).length = 1 := by decide +kernel
  have l2 : (Str.ofString (if ((PyData.shownAll ds).length == 1) = true then ",)" else ")")).length ≤ 2 := by
    split <;> decide +kernel
  by_cases h : PyData.shownAll ds = []
  · rw [h]
    decide +kernel
  · have := join_length_add _ h
    have l3 : (if ((PyData.shownAll ds).length == 1) = true then Str.ofString ",)" else Str.ofString ")").length ≤ 2 := by
      split <;> decide +kernel
    omega
structure TmB (n m q : Nat) : Prop where
  n : n ≤ 10 ^ 10
  m : m ≤ 10 ^ 10
  q : q ≤ 10 ^ 10
namespace Tm
variable {n m q : Nat}
mutual
theorem showable (B : TmB n m q) : ∀ t : Tm, t.ok n m q → t.pd.showable = true
  | .num i, h => by
    have h : i.natAbs < n := by simpa only [ok] using h
    simp [pd, PyData.showable, PyData.showableAll, log_small h B.n]
  | .nam _, _ => by simp [pd, PyData.showable, PyData.showableAll]
  | .add a b, h => by
    have h : ok n m q a ∧ ok n m q b := by simpa only [ok] using h
    simp [pd, PyData.showable, PyData.showableAll, showable B a h.1, showable B b h.2]
  | .sub a b, h => by
    have h : ok n m q a ∧ ok n m q b := by simpa only [ok] using h
    simp [pd, PyData.showable, PyData.showableAll, showable B a h.1, showable B b h.2]
  | .tim i a, h => by
    have h : i.natAbs < m ∧ ok n m q a := by simpa only [ok] using h
    simp [pd, PyData.showable, PyData.showableAll, log_small h.1 B.m, showable B a h.2]
  | .pow a, h => by
    have h : ok n m q a := by simpa only [ok] using h
    simp [pd, PyData.showable, PyData.showableAll, showable B a h]
  | .len a, h => by
    have h : ok n m q a := by simpa only [ok] using h
    simp [pd, PyData.showable, PyData.showableAll, showable B a h]
  | .quo a i, h => by
    have h : (1 ≤ i ∧ i < (q : Nat)) ∧ ok n m q a := by simpa only [ok] using h
    simp [pd, PyData.showable, PyData.showableAll, log_small (show i.natAbs < q by omega) B.q, showable B a h.2]
  | .cal f as, h => by
    have h : isNameZ f = true ∧ as.length ≤ 3 ∧ oks n m q as := by simpa only [ok] using h
    simp [pd, PyData.showable, PyData.showableAll, showables B as h.2.2]
theorem showables (B : TmB n m q) : ∀ as : List Tm, oks n m q as → PyData.showableAll (pds as) = true
  | [], _ => rfl
  | a :: r, h => by
    have h : ok n m q a ∧ oks n m q r := by simpa only [oks] using h
    simp [pds, PyData.showableAll, showable B a h.1, showables B r h.2]
end
theorem w_len {z : Str} {n : Nat} (h : (reprText z).length ≤ n := by decide +kernel) : (PyData.str z).shown.length ≤ n := by
  simp only [PyData.shown]
  exact h
mutual
theorem shown_len (B : TmB n m q) : ∀ t : Tm, t.ok n m q → t.pd.shown.length ≤ 48 * t.cost
  | .num i, h => by
    have h : i.natAbs < n := by simpa only [ok] using h
    have h1 := shown_int (Nat.lt_of_lt_of_le h B.n)
    have h2 := w_len (z := "number") (n := 8)
    have h3 := shown_tup [.str "number", .int i]
    simp only [pd, PyData.shownAll, piled_cons, piled_nil, cost] at h3 ⊢
    omega
  | .nam z, h => by
    have h : isNameZ z = true := by simpa only [ok] using h
    have h1 := nm_repr (isNm_iff.mp h)
    have h4 := w_len (z := z) h1
    have h2 := w_len (z := "name") (n := 6)
    have h3 := shown_tup [.str "name", .str z]
    simp only [pd, PyData.shownAll, piled_cons, piled_nil, cost] at h3 ⊢
    omega
  | .add a b, h => by
    have h : ok n m q a ∧ ok n m q b := by simpa only [ok] using h
    have h1 := shown_len B a h.1
    have h4 := shown_len B b h.2
    have h2 := w_len (z := "add") (n := 5)
    have h3 := shown_tup [.str "add", a.pd, b.pd]
    simp only [pd, PyData.shownAll, piled_cons, piled_nil, cost] at h3 ⊢
    omega
  | .sub a b, h => by
    have h : ok n m q a ∧ ok n m q b := by simpa only [ok] using h
    have h1 := shown_len B a h.1
    have h4 := shown_len B b h.2
    have h2 := w_len (z := "subtract") (n := 10)
    have h3 := shown_tup [.str "subtract", a.pd, b.pd]
    simp only [pd, PyData.shownAll, piled_cons, piled_nil, cost] at h3 ⊢
    omega
  | .tim i a, h => by
    have h : i.natAbs < m ∧ ok n m q a := by simpa only [ok] using h
    have h1 := shown_int (Nat.lt_of_lt_of_le h.1 B.m)
    have h4 := shown_len B a h.2
    have h2 := w_len (z := "times") (n := 7)
    have h3 := shown_tup [.str "times", .int i, a.pd]
    simp only [pd, PyData.shownAll, piled_cons, piled_nil, cost] at h3 ⊢
    omega
  | .pow a, h => by
    have h : ok n m q a := by simpa only [ok] using h
    have h4 := shown_len B a h
    have h2 := w_len (z := "power") (n := 7)
    have h3 := shown_tup [.str "power", a.pd]
    simp only [pd, PyData.shownAll, piled_cons, piled_nil, cost] at h3 ⊢
    omega
  | .len a, h => by
    have h : ok n m q a := by simpa only [ok] using h
    have h4 := shown_len B a h
    have h2 := w_len (z := "length") (n := 8)
    have h3 := shown_tup [.str "length", a.pd]
    simp only [pd, PyData.shownAll, piled_cons, piled_nil, cost] at h3 ⊢
    omega
  | .quo a i, h => by
    have h : (1 ≤ i ∧ i < (q : Nat)) ∧ ok n m q a := by simpa only [ok] using h
    have h1 := shown_int (Nat.lt_of_lt_of_le (show i.natAbs < q by omega) B.q)
    have h4 := shown_len B a h.2
    have h2 := w_len (z := "quotient") (n := 10)
    have h3 := shown_tup [.str "quotient", a.pd, .int i]
    simp only [pd, PyData.shownAll, piled_cons, piled_nil, cost] at h3 ⊢
    omega
  | .cal f as, h => by
    have h : isNameZ f = true ∧ as.length ≤ 3 ∧ oks n m q as := by simpa only [ok] using h
    have h1 := w_len (z := f) (nm_repr (isNm_iff.mp h.1))
    have h4 := showns_len B as h.2.2
    have h2 := w_len (z := "call") (n := 6)
    have h5 := shown_tup (pds as)
    have h3 := shown_tup [.str "call", .str f, .tuple (pds as)]
    simp only [pd, PyData.shownAll, piled_cons, piled_nil, cost] at h3 ⊢
    omega
theorem showns_len (B : TmB n m q) : ∀ as : List Tm, oks n m q as → piled (PyData.shownAll (pds as)) ≤ 48 * costs as + 2 * as.length
  | [], _ => by simp [pds, PyData.shownAll, piled_nil]
  | a :: r, h => by
    have h : ok n m q a ∧ oks n m q r := by simpa only [oks] using h
    have h1 := shown_len B a h.1
    have h2 := showns_len B r h.2
    simp only [pds, PyData.shownAll, piled_cons, costs, List.length_cons]
    omega
end
theorem numC_le {i : Int} {n : Nat} (h : i.natAbs < n) (hn : n ≤ 10 ^ 10) : (numC i).length ≤ 11 := numC_len (by decide) (Nat.lt_of_lt_of_le h hn)
mutual
theorem tx_len (B : TmB n m q) : ∀ t : Tm, t.ok n m q → t.tx.length ≤ 20 * t.cost
  | .num i, h => by
    have h : i.natAbs < n := by simpa only [ok] using h
    have := numC_le h B.n
    simp only [tx, cost]
    omega
  | .nam z, h => by
    have e := TL.len_tl z
    simp only [tx, cost]
    omega
  | .add a b, h => by
    have h : ok n m q a ∧ ok n m q b := by simpa only [ok] using h
    have h1 := tx_len B a h.1
    have h4 := tx_len B b h.2
    simp only [tx, cost, List.length_cons, List.length_append, List.length_nil]
    omega
  | .sub a b, h => by
    have h : ok n m q a ∧ ok n m q b := by simpa only [ok] using h
    have h1 := tx_len B a h.1
    have h4 := tx_len B b h.2
    simp only [tx, cost, List.length_cons, List.length_append, List.length_nil]
    omega
  | .tim i a, h => by
    have h : i.natAbs < m ∧ ok n m q a := by simpa only [ok] using h
    have h1 := numC_le h.1 B.m
    have h4 := tx_len B a h.2
    simp only [tx, cost, List.length_cons, List.length_append, List.length_nil]
    omega
  | .pow a, h => by
    have h : ok n m q a := by simpa only [ok] using h
    have h4 := tx_len B a h
    simp only [tx, cost, List.length_cons, List.length_append, List.length_nil]
    omega
  | .len a, h => by
    have h : ok n m q a := by simpa only [ok] using h
    have h4 := tx_len B a h
    simp only [tx, cost, List.length_cons, List.length_append, List.length_nil]
    omega
  | .quo a i, h => by
    have h : (1 ≤ i ∧ i < (q : Nat)) ∧ ok n m q a := by simpa only [ok] using h
    have h1 := numC_le (show i.natAbs < q by omega) B.q
    have h4 := tx_len B a h.2
    simp only [tx, cost, List.length_cons, List.length_append, List.length_nil]
    omega
  | .cal f as, h => by
    have h : isNameZ f = true ∧ as.length ≤ 3 ∧ oks n m q as := by simpa only [ok] using h
    have e := TL.len_tl f
    have h4 := txr_len B as h.2.2
    have h5 : (txs as).length ≤ (txr as).length := by
      cases as with
      | nil => simp [txs, txr]
      | cons a r =>
        simp only [txs, txr, List.length_cons, List.length_append]
        omega
    simp only [tx, cost, List.length_cons, List.length_append, List.length_nil]
    omega
theorem txr_len (B : TmB n m q) : ∀ as : List Tm, oks n m q as → (txr as).length ≤ 20 * costs as + 2 * as.length
  | [], _ => by simp [txr]
  | a :: r, h => by
    have h : ok n m q a ∧ oks n m q r := by simpa only [oks] using h
    have h1 := tx_len B a h.1
    have h2 := txr_len B r h.2
    simp only [txr, costs, List.length_cons, List.length_append]
    omega
end
end Tm
end PW
/-! ### texts by their signs -/
namespace PW
open PySem PySem.Spec PyProof.Rows L2
theorem tl_cut (z : Str) (i j : Nat) : TL.tl (cutS z (some (i : Int)) (some (j : Int))) = ((TL.tl z).drop i).take (j - i) := by
  unfold cutS
  show ((z.cps.toList.drop (HT.sIx z.length 0 (some (i : Int)))).take (HT.sIx z.length z.length (some (j : Int)) - HT.sIx z.length 0 (some (i : Int)))) = _
  rw [HT.sIx_nat, HT.sIx_nat]
  have e : z.length = z.cps.toList.length := TL.len_tl z
  show (z.cps.toList.drop _).take _ = (z.cps.toList.drop i).take (j - i)
  generalize z.cps.toList = l at e
  by_cases h : i ≤ l.length
  · rw [show min i z.length = i by omega]
    by_cases h2 : j ≤ l.length
    · rw [show min j z.length = j by omega]
    · rw [show min j z.length = l.length by omega]
      rw [List.take_of_length_le (by rw [List.length_drop]; omega), List.take_of_length_le (by rw [List.length_drop]; omega)]
  · rw [show min i z.length = l.length by omega]
    rw [List.drop_eq_nil_of_le (Nat.le_refl _), List.drop_eq_nil_of_le (show l.length ≤ i by omega)]
    simp
theorem tl_cut0 (z : Str) (j : Nat) : TL.tl (cutS z none (some (j : Int))) = (TL.tl z).take j := by
  unfold cutS
  show ((z.cps.toList.drop (HT.sIx z.length 0 none)).take (HT.sIx z.length z.length (some (j : Int)) - HT.sIx z.length 0 none)) = _
  rw [HT.sIx_nat, HT.sIx_none]
  have e : z.length = z.cps.toList.length := TL.len_tl z
  show (z.cps.toList.drop 0).take (min j z.length - 0) = z.cps.toList.take j
  generalize z.cps.toList = l at e
  rw [List.drop_zero, Nat.sub_zero]
  by_cases h2 : j ≤ l.length
  · rw [show min j z.length = j by omega]
  · rw [show min j z.length = l.length by omega, List.take_of_length_le (Nat.le_refl _), List.take_of_length_le (by omega)]
theorem tl_cut1 (z : Str) (i : Nat) : TL.tl (cutS z (some (i : Int)) none) = (TL.tl z).drop i := by
  unfold cutS
  show ((z.cps.toList.drop (HT.sIx z.length 0 (some (i : Int)))).take (HT.sIx z.length z.length none - HT.sIx z.length 0 (some (i : Int)))) = _
  rw [HT.sIx_nat, HT.sIx_none]
  have e : z.length = z.cps.toList.length := TL.len_tl z
  show (z.cps.toList.drop (min i z.length)).take (z.length - min i z.length) = z.cps.toList.drop i
  generalize z.cps.toList = l at e
  by_cases h : i ≤ l.length
  · rw [show min i z.length = i by omega, List.take_of_length_le (by rw [List.length_drop]; omega)]
  · rw [show min i z.length = l.length by omega, List.drop_eq_nil_of_le (Nat.le_refl _), List.drop_eq_nil_of_le (show l.length ≤ i by omega)]
    simp
theorem len_eq (z : Str) : z.length = (TL.tl z).length := TL.len_tl z
theorem joinL_nil : ∀ ps : List (List Nat), TL.joinL [] ps = ps.flatten
  | [] => rfl
  | [p] => by simp [TL.joinL]
  | p :: q :: r => by
    show p ++ ([] ++ TL.joinL [] (q :: r)) = _
    rw [joinL_nil (q :: r)]
    simp
/-- letters alone -/
def LetS (z : Str) : Prop := ∀ c ∈ TL.tl z, 97 ≤ c ∧ c ≤ 122
theorem tl_joinE {ys : List Str} : TL.tl (Txt.join (Str.ofString "") ys) = (ys.map TL.tl).flatten := by
  rw [TL.join_eq, TL.tl_join, show TL.tl (Str.ofString "") = [] by decide +kernel, joinL_nil]
theorem join_let {ys : List Str} (h : ∀ z ∈ ys, LetS z) : LetS (Txt.join (Str.ofString "") ys) := fun c hc => by
  rw [tl_joinE, List.mem_flatten] at hc
  obtain ⟨l, hl, hc⟩ := hc
  obtain ⟨z, hz, rfl⟩ := List.mem_map.mp hl
  exact h z hz c hc
theorem join_one {ys : List Str} (h : ∀ z ∈ ys, z.length = 1) : (Txt.join (Str.ofString "") ys).length = ys.length := by
  rw [len_eq, tl_joinE]
  induction ys with
  | nil => rfl
  | cons y r ih =>
    have h1 := h y List.mem_cons_self
    rw [len_eq] at h1
    rw [List.map_cons, List.flatten_cons, List.length_append, ih fun z hz => h z (List.mem_cons_of_mem _ hz), h1, List.length_cons]
    omega
theorem eqV_str {a b : Str} : eqV (.str a) (.str b) = true ↔ b = a := by
  show (a == b) = true ↔ b = a
  rw [beq_iff_eq]
  exact eq_comm
theorem res_iff {z : Str} : inV (.str z) reservedV = true ↔ z = "len" ∨ z = "mod" ∨ z = "and" ∨ z = "or" ∨ z = "not" ∨ z = "true" := by
  unfold inV reservedV
  simp only [List.any_cons, List.any_nil, Bool.or_false, Bool.or_eq_true, eqV_str]
/-- a drawn text of letters is a name, or is one with a letter more -/
theorem fix_nm {z : Str} (h1 : 1 ≤ z.length) (h6 : z.length ≤ 6) (hl : LetS z) : IsNm (if isNameZ z = true then z else z ++ "q") := by
  by_cases h : isNameZ z = true
  · rw [if_pos h]
    exact isNm_iff.mp h
  · rw [if_neg h]
    have hr : inV (.str z) reservedV = true := by
      cases e : inV (.str z) reservedV with
      | true => rfl
      | false => exact absurd (isNm_iff.mpr ⟨h1, h6, hl, e⟩) h
    refine isNm_iff.mp ?_
    rcases res_iff.mp hr with rfl | rfl | rfl | rfl | rfl | rfl <;> decide +kernel
abbrev Tm.okT (t : Tm) : Prop := t.ok (10 ^ 9) 100 100
theorem tmb : TmB (10 ^ 9) 100 100 := ⟨by decide, by decide, by decide⟩
end PW
/-! ### the heap without the bag -/
namespace PW
open PySem PySem.Spec PyProof.Rows L2
theorem Ex.tb {b : Addr} {H H' : Hp} (x : Ex H H') : ExB b H H' := fun a o _ h => x a o h
theorem ExB.hd {b : Addr} {H H' : Hp} (x : ExB b H H') : Ex (PW.hide H b) (PW.hide H' b) := fun a o h => by
  have na : a ≠ b := fun z => by
    rw [z, hide_same] at h
    cases h
  rw [hide_ne na] at h ⊢
  exact x a o na h
theorem hide_new {H : Hp} {b p : Addr} {o : HO} {u : HO} (hb : H b = some u) (hp : H p = none) : hide (L2.upd H p o) b p = some o := by
  have n : p ≠ b := fun z => by
    rw [z, hb] at hp
    cases hp
  rw [hide_ne n, upd_same]
theorem BagAt.some {H : Hp} {b c : Addr} (h : BagAt H b c) : ∃ u, H b = some u := h.objs.1
end PW
/-! ### lists of names; terms made -/
namespace PW
open PySem PySem.Spec PyProof.Rows L2
structure NmL (H : Hp) (l : Addr) (ns : List Str) : Prop where
  at_ : H l = some (.lst (ns.map V.str))
  ok : ∀ z ∈ ns, IsNm z
theorem NmL.ex {H H' : Hp} {l : Addr} {ns : List Str} (x : Ex H H') (h : NmL H l ns) : NmL H' l ns := ⟨x _ _ h.at_, h.ok⟩
theorem nm_ok {ns : List Str} (h : ∀ z ∈ ns, IsNm z) : ∀ z ∈ ns, PyData.strOk z = true := fun z hz => by
  unfold PyData.strOk
  rw [Array.all_eq_true']
  intro c hc
  have := ((h z hz).let_ c (by simpa [TL.tl] using hc)).2
  exact decide_eq_true (by omega)
theorem tm_new {K : PySem.W.Frag} {H : Hp} {b p : Addr} {xs : List V} {d : Nat} {t : Tm} {u : HO} (hb : H b = some u) (hp : H p = none) (r : TmRow K (hide H b) (IsTm K (hide H b) d) xs t) : IsTm K (hide (L2.upd H p (.tup xs)) b) (d + 1) (.ref p) t := by
  have x : Ex (hide H b) (hide (L2.upd H p (.tup xs)) b) := (Ex.new hp).hides b
  exact IsTm.mk (hide_new hb hp) (r.imp (fun q => x _ _ q) fun _ _ z => z.ex x)
end PW
/-! ### the names of a term -/
namespace PW
open PySem PySem.Spec PyProof.Rows L2
namespace Tm
mutual
/-- the names of a term, in the order of its text -/
def nms : Tm → List Str
  | .num _ => []
  | .nam z => [z]
  | .add a b => nms a ++ nms b
  | .sub a b => nms a ++ nms b
  | .tim _ a => nms a
  | .pow a => nms a
  | .len a => nms a
  | .quo a _ => nms a
  | .cal _ as => nmss as
def nmss : List Tm → List Str
  | [] => []
  | a :: r => nms a ++ nmss r
end
theorem nmss_take {l : List Tm} : ∀ {k : Nat}, (nmss (l.take k)).length ≤ (nmss l).length := by
  induction l with
  | nil => intro k; simp
  | cons a r ih =>
    intro k
    cases k with
    | zero => simp [nmss]
    | succ k =>
      have := ih (k := k)
      simp only [List.take_succ_cons, nmss, List.length_append]
      omega
theorem nms_parts {t : Tm} (h : t.word ≠ "name") : t.nms = nmss t.parts := by
  cases t with
  | nam z => exact absurd rfl h
  | _ => simp [nms, nmss, parts]
mutual
theorem nms_ok {n m q : Nat} : ∀ {t : Tm}, t.ok n m q → ∀ z ∈ t.nms, isNameZ z = true
  | .num _, _, z, hz => by
    rw [nms] at hz
    exact nomatch hz
  | .nam y, h, z, hz => by
    rw [nms, List.mem_singleton] at hz
    subst hz
    rw [ok] at h
    exact h
  | .add a b, h, z, hz => by
    rw [nms, List.mem_append] at hz
    rw [ok] at h
    exact hz.elim (nms_ok h.1 z) (nms_ok h.2 z)
  | .sub a b, h, z, hz => by
    rw [nms, List.mem_append] at hz
    rw [ok] at h
    exact hz.elim (nms_ok h.1 z) (nms_ok h.2 z)
  | .tim _ a, h, z, hz => by
    rw [nms] at hz
    rw [ok] at h
    exact nms_ok h.2 z hz
  | .pow a, h, z, hz => by
    rw [nms] at hz
    rw [ok] at h
    exact nms_ok h z hz
  | .len a, h, z, hz => by
    rw [nms] at hz
    rw [ok] at h
    exact nms_ok h z hz
  | .quo a _, h, z, hz => by
    rw [nms] at hz
    rw [ok] at h
    exact nms_ok h.2 z hz
  | .cal _ as, h, z, hz => by
    rw [nms] at hz
    rw [ok] at h
    exact nmss_ok h.2.2 z hz
theorem nmss_ok {n m q : Nat} : ∀ {as : List Tm}, oks n m q as → ∀ z ∈ nmss as, isNameZ z = true
  | [], _, z, hz => by
    rw [nmss] at hz
    exact nomatch hz
  | a :: r, h, z, hz => by
    rw [nmss, List.mem_append] at hz
    rw [oks] at h
    exact hz.elim (nms_ok h.1 z) (nmss_ok h.2 z)
end
end Tm
end PW
/-! ### parts_of, names_within, names_in -/
namespace PW
open PySem PySem.Spec PyProof.Rows L2
def spParts (K : PySem.W.Frag) : Sp := fun vs H Q _ => ∃ p xs t R, vs = [.ref p] ∧ H p = some (.tup xs) ∧ TmRow K H R xs t ∧ ∀ l ys H', Ex H H' → H l = none → H' l = some (.lst ys) → Paired R ys t.parts → Q (.ref l) H'
def spNmsW (K : PySem.W.Frag) (n : Nat) : Sp := fun vs H Q _ => ∃ v t d, vs = [v] ∧ IsTm K H d v t ∧ t.dep ≤ n + 1 ∧ t.nms.length ≤ 100000 ∧ ∀ l H', Ex H H' → H l = none → H' l = some (.lst (t.nms.map V.str)) → Q (.ref l) H'
theorem TmRow.head {K : PySem.W.Frag} {H : Hp} {R : V → Tm → Prop} {xs : List V} {t : Tm} (h : TmRow K H R xs t) : ∃ r, xs = .str t.word :: r := by
  cases t with
  | num i => exact ⟨_, h⟩
  | nam z => exact ⟨_, h⟩
  | add a b => obtain ⟨x, y, e, _⟩ := h; exact ⟨_, e⟩
  | sub a b => obtain ⟨x, y, e, _⟩ := h; exact ⟨_, e⟩
  | cal f as => obtain ⟨q, ys, e, _⟩ := h; exact ⟨_, e⟩
  | _ => obtain ⟨x, e, _⟩ := h; exact ⟨_, e⟩
theorem word_name {t : Tm} (h : t.word = "name") : ∃ z, t = .nam z := by
  cases t with
  | nam z => exact ⟨z, rfl⟩
  | _ => exact absurd h (by simp only [Tm.word]; decide +kernel)
theorem nmss_get {as : List Tm} {i : Nat} {a : Tm} (h : as[i]? = some a) : Tm.nmss (as.take (i + 1)) = Tm.nmss (as.take i) ++ a.nms := by
  induction as generalizing i with
  | nil => cases h
  | cons b r ih =>
    cases i with
    | zero =>
      injection h with h
      subst h
      simp [Tm.nmss]
    | succ i =>
      have := ih (i := i) (by simpa using h)
      simp only [List.take_succ_cons, Tm.nmss, this, List.append_assoc]
theorem IsTm.exF {K : PySem.W.Frag} {H H' : Hp} (x : Ex H H') {d : Nat} {ys : List V} {as : List Tm} (h : Paired (IsTm K H d) ys as) : Paired (IsTm K H' d) ys as := L2.Paired.mapP h fun _ _ z => z.ex x
section
variable {P : Program} {w : World} {K : PySem.W.Frag} {mg : Str → Option Value} {base : Heap}
theorem ok_parts_of (T : Txt K mg) : FnOk P w K mg base CX0 (1) (He.ga K "parts_of") (fdOf K (He.ga K "parts_of")) p_parts_of (spParts K) := by
  refine FunD.ok T.d_parts_of sc_parts_of (fun vs H Q E h => ?_) (fun cdv A outer s H vs Q E hr h => ?_)
  · obtain ⟨p, xs, t, R, rfl, _⟩ := h
    rfl
  · obtain ⟨p, xs, t, R, rfl, hs, row, hQ⟩ := h
    refine ⟨_, PSs.nox ((pss_cons (ps_if (pt_cmpR op_in_seq (pe_ix ix_seq (pv 0) pe_int (fun _ _ => rfl)) (pe_tup (pa_cons pe_str (pa_cons pe_str pa_nil))) rfl)
      (pss_one (ps_ret (pe_lst (pa_cons (pe_ix ix_seq (pv 0) pe_int (fun _ _ => rfl)) (pa_cons (pe_ix ix_seq (pv 0) pe_int (fun _ _ => rfl)) pa_nil)))))
      pss_nil)
    (pss_cons (ps_if (pt_cmpR op_in_seq (pe_ix ix_seq (pv 0) pe_int (fun _ _ => rfl)) (pe_tup (pa_cons pe_str (pa_cons pe_str (pa_cons pe_str pa_nil)))) rfl)
      (pss_one (ps_ret (pe_lst (pa_cons (pe_ix ix_seq (pv 0) pe_int (fun _ _ => rfl)) pa_nil))))
      pss_nil)
    (pss_cons (ps_if (pt_cmpR op_eq (pe_ix ix_seq (pv 0) pe_int (fun _ _ => rfl)) pe_str (nomark _))
      (pss_one (ps_ret (pe_lst (pa_cons (pe_ix ix_seq (pv 0) pe_int (fun _ _ => rfl)) pa_nil))))
      pss_nil)
    (pss_one (ps_ret (pe_ifExp (pt_cmpR op_eq (pe_ix ix_seq (pv 0) pe_int (fun _ _ => rfl)) pe_str (nomark _)) (pe_callTy call_listN (by rfl) T.f_list (by decide +kernel) (pa_cons (pe_ix ix_seq (pv 0) pe_int (fun _ _ => rfl)) pa_nil)) (pe_lst pa_nil)))))))), ?_⟩
    show tSeq _ _ _ [some (V.ref p)] H
    walk_at "K"
    cases t with
    | num i =>
      have row : xs = _ := row
      subst row
      walk_at "go"
      intro l hl
      walk_at "go"
      intro l2 hl2
      walk_at "go"
      intro l3 hl3
      have e := (Ex.new hl).trans (Ex.new (o := .tup [V.str "power", V.str "length", V.str "quotient"]) hl2)
      exact hQ l3 _ _ (e.trans (Ex.new hl3)) (Ex.free e hl3) upd_same .nil
    | nam z =>
      have row : xs = _ := row
      subst row
      walk_at "go"
      intro l hl
      walk_at "go"
      intro l2 hl2
      walk_at "go"
      intro l3 hl3
      have e := (Ex.new hl).trans (Ex.new (o := .tup [V.str "power", V.str "length", V.str "quotient"]) hl2)
      exact hQ l3 _ _ (e.trans (Ex.new hl3)) (Ex.free e hl3) upd_same .nil
    | cal f as =>
      obtain ⟨q, ys, rfl, hq, hys⟩ := row
      walk_at "go"
      intro l hl
      walk_at "go"
      intro l2 hl2
      have e := (Ex.new hl).trans (Ex.new (o := .tup [V.str "power", V.str "length", V.str "quotient"]) hl2)
      have hq2 := e _ _ hq
      walk_at "go"
      intro l3 hl3
      exact hQ l3 _ _ (e.trans (Ex.new hl3)) (Ex.free e hl3) upd_same hys
    | tim i a =>
      obtain ⟨x, rfl, hx⟩ := row
      walk_at "go"
      intro l hl
      walk_at "go"
      intro l2 hl2
      walk_at "go"
      intro l3 hl3
      have e := (Ex.new hl).trans (Ex.new (o := .tup [V.str "power", V.str "length", V.str "quotient"]) hl2)
      exact hQ l3 _ _ (e.trans (Ex.new hl3)) (Ex.free e hl3) upd_same (.cons hx .nil)
    | pow a =>
      obtain ⟨x, rfl, hx⟩ := row
      walk_at "go"
      intro l hl
      walk_at "go"
      intro l2 hl2
      walk_at "go"
      intro l3 hl3
      have e := (Ex.new hl).trans (Ex.new (o := .tup [V.str "power", V.str "length", V.str "quotient"]) hl2)
      exact hQ l3 _ _ (e.trans (Ex.new hl3)) (Ex.free e hl3) upd_same (.cons hx .nil)
    | len a =>
      obtain ⟨x, rfl, hx⟩ := row
      walk_at "go"
      intro l hl
      walk_at "go"
      intro l2 hl2
      walk_at "go"
      intro l3 hl3
      have e := (Ex.new hl).trans (Ex.new (o := .tup [V.str "power", V.str "length", V.str "quotient"]) hl2)
      exact hQ l3 _ _ (e.trans (Ex.new hl3)) (Ex.free e hl3) upd_same (.cons hx .nil)
    | quo a i =>
      obtain ⟨x, rfl, hx⟩ := row
      walk_at "go"
      intro l hl
      walk_at "go"
      intro l2 hl2
      walk_at "go"
      intro l3 hl3
      have e := (Ex.new hl).trans (Ex.new (o := .tup [V.str "power", V.str "length", V.str "quotient"]) hl2)
      exact hQ l3 _ _ (e.trans (Ex.new hl3)) (Ex.free e hl3) upd_same (.cons hx .nil)
    | add a a2 =>
      obtain ⟨x, y, rfl, hx, hy⟩ := row
      walk_at "go"
      intro l hl
      walk_at "go"
      intro l2 hl2
      exact hQ l2 _ _ ((Ex.new hl).trans (Ex.new hl2)) (Ex.free (Ex.new hl) hl2) upd_same (.cons hx (.cons hy .nil))
    | sub a a2 =>
      obtain ⟨x, y, rfl, hx, hy⟩ := row
      walk_at "go"
      intro l hl
      walk_at "go"
      intro l2 hl2
      exact hQ l2 _ _ ((Ex.new hl).trans (Ex.new hl2)) (Ex.free (Ex.new hl) hl2) upd_same (.cons hx (.cons hy .nil))
theorem ok1_names_within {k n : Nat} {spj : Sp} (T : Txt K mg) (hj : n = 0 ∨ ∃ j, n = j + 1 ∧ spj = spNmsW K j)
    (G_parts_of : FnOk P w K mg base CX0 k (He.ga K "parts_of") (fdOf K (He.ga K "parts_of")) p_parts_of (spParts K))
    (G_names_within : FnOk P w K mg base CX0 k (He.ga K "names_within") (fdOf K (He.ga K "names_within")) p_names_within (spj)) : FnOk P w K mg base CX0 (k + 1) (He.ga K "names_within") (fdOf K (He.ga K "names_within")) p_names_within (spNmsW K n) := by
  refine FunD.ok T.d_names_within sc_names_within (fun vs H Q E h => ?_) (fun cdv A outer s H vs Q E hr h => ?_)
  · obtain ⟨v, t, d, rfl, _⟩ := h
    rfl
  · obtain ⟨v, t, d, rfl, ht, hd, hn, hQ⟩ := h
    refine ⟨_, PSs.nox ((pss_cons (ps_if (pt_cmpR op_eq (pe_ix ix_seq (pv 0) pe_int (fun _ _ => rfl)) pe_str (nomark _))
      (pss_one (ps_ret (pe_lst (pa_cons (pe_ix ix_seq (pv 0) pe_int (fun _ _ => rfl)) pa_nil))))
      pss_nil)
    (pss_cons (ps_set (i := 1) sc_names_within.nd rfl (Or.inl rfl) (pe_lst pa_nil))
    (pss_cons (ps_for PassesOwn.never rfl (pi_list (pe_call G_parts_of hr rfl T.g_parts_of T.d_parts_of.kp (b_parts_of T) .nil pass0 (pa_cons (pv 0) pa_nil))) (pg_name (i := 2) sc_names_within.nd rfl (Or.inl rfl) (hf := by first | exact Or.inl rfl | exact Or.inr rfl))
      (pss_one (ps_aug (i := 1) sc_names_within.nd rfl (Or.inl rfl) (pe_call G_names_within hr rfl T.g_names_within T.d_names_within.kp (b_names_within T) .nil pass0 (pa_cons (pv 2) pa_nil)) iop_ext)))
    (pss_one (ps_ret (pv 1))))))), ?_⟩
    show tSeq _ _ _ [some v, none, none] H
    walk_at "K"
    obtain ⟨d, rfl⟩ : ∃ e, d = e + 1 := ⟨d - 1, by
      have := ht.depth
      have := t.dep_pos
      omega⟩
    obtain ⟨p, xs, rfl, hs, row⟩ := ht
    obtain ⟨r, er⟩ := row.head
    by_cases hw : t.word = "name"
    · obtain ⟨z, rfl⟩ := word_name hw
      have row : xs = _ := row
      subst row
      walk_at "go"
      intro l hl
      exact hQ l _ (Ex.new hl) hl upd_same
    · have hs2 := hs
      rw [er] at hs2
      walk_at "go"
      refine r_ifF' (decide_eq_false fun z => hw (V.str.inj z)) ?_
      walk_at "go"
      intro f hf
      walk_at "go"
      have x1 := Ex.new (o := .lst []) hf
      refine ⟨p, xs, t, IsTm K H d, rfl, x1 _ _ hs, row.imp (x1 _ _) fun _ _ z => z, fun l ys H1 x2 hl0 hl hys => ?_⟩
      have hne : l ≠ f := (ne_of_none upd_same hl0).symm
      have hf1 := x2 _ _ (upd_same (H := H) (a := f) (o := .lst []))
      have x12 := x1.trans x2
      clear x1 x2
      rw [Tm.nms_parts hw] at hn hQ
      have hlen := pr_len hys
      walk_at "go"
      refine for_it (walk_list (xs := ys)) (fun i σ H' => (∃ y2, σ = [some (.ref p), some (.ref f), y2]) ∧ Ex H H' ∧ H' l = some (.lst ys) ∧ H' f = some (.lst ((Tm.nmss (t.parts.take i)).map V.str))) ⟨⟨_, rfl⟩, x12, hl, hf1⟩ (fun i σ H' _ h => SqL.of h.2.2.1) ?_ ?_
      · rintro i x σ H2 H2' hi ⟨⟨y2, rfl⟩, x2, hl2, hf2⟩ ⟨rfl, hx⟩
        obtain ⟨a, ha, hv⟩ := pr_get hys hx
        have had := Tm.dep_parts hd a (List.mem_of_getElem? ha)
        obtain ⟨j, rfl, rfl⟩ : ∃ j, n = j + 1 ∧ spj = spNmsW K j := hj.elim (fun z => by
          have := a.dep_pos
          omega) id
        have e1 := nmss_get ha
        have h1 := Tm.nmss_take (l := t.parts) (k := i + 1)
        rw [e1, List.length_append] at h1
        walk_at "go"
        refine ⟨x, a, d, rfl, hv.ex x2, by omega, by omega, fun q H3 x3 hq0 hq => ?_⟩
        walk_at "go"
        refine ⟨f, q, _, _, rfl, rfl, x3 _ _ hf2, hq, by rw [List.length_map, List.length_map]; exact Nat.le_trans (Nat.le_trans h1 hn) (by decide), ?_⟩
        rw [← List.map_append, ← e1]
        walk_at "go"
        have x13 := x2.trans x3
        exact ⟨⟨_, rfl⟩, (fun b o hb => (upd_ne fun z => by rw [z, hf] at hb; cases hb).trans (x13 _ _ hb)), (upd_ne hne).trans (x3 _ _ hl2), upd_same⟩
      · rintro σ H2 ⟨⟨y2, rfl⟩, x2, hl2, hf2⟩
        walk_at "go"
        rw [hlen, List.take_length] at hf2
        exact hQ f H2 x2 hf hf2
theorem ok_names_within {k : Nat} (T : Txt K mg) (G_parts_of : FnOk P w K mg base CX0 (k) (He.ga K "parts_of") (fdOf K (He.ga K "parts_of")) p_parts_of (spParts K)) : ∀ n, FnOk P w K mg base CX0 (k + n + 1) (He.ga K "names_within") (fdOf K (He.ga K "names_within")) p_names_within (spNmsW K n)
  | 0 => ok1_names_within (spj := spNo) T (.inl rfl) G_parts_of fnOk_no
  | n + 1 => ok1_names_within T (.inr ⟨n, rfl, rfl⟩) (G_parts_of.mono (by omega)) (ok_names_within T G_parts_of n)
end
end PW
/-! ### the called names of a term -/
namespace PW
open PySem PySem.Spec PyProof.Rows L2
namespace Tm
mutual
/-- the called names of a term, in the order of its text -/
def cns : Tm → List Str
  | .num _ => []
  | .nam _ => []
  | .add a b => cns a ++ cns b
  | .sub a b => cns a ++ cns b
  | .tim _ a => cns a
  | .pow a => cns a
  | .len a => cns a
  | .quo a _ => cns a
  | .cal f as => f :: cnss as
def cnss : List Tm → List Str
  | [] => []
  | a :: r => cns a ++ cnss r
end
theorem cnss_take {l : List Tm} : ∀ {k : Nat}, (cnss (l.take k)).length ≤ (cnss l).length := by
  induction l with
  | nil => intro k; simp
  | cons a r ih =>
    intro k
    cases k with
    | zero => simp [cnss]
    | succ k =>
      have := ih (k := k)
      simp only [List.take_succ_cons, cnss, List.length_append]
      omega
/-- what stands ahead of the parts' called names -/
def hcn : Tm → List Str
  | .cal f _ => [f]
  | _ => []
theorem cns_parts (t : Tm) : t.cns = t.hcn ++ cnss t.parts := by
  cases t <;> simp [cns, cnss, parts, hcn]
end Tm
theorem cnss_getT {as : List Tm} {i : Nat} {a : Tm} (h : as[i]? = some a) : Tm.cnss (as.take (i + 1)) = Tm.cnss (as.take i) ++ a.cns := by
  induction as generalizing i with
  | nil => cases h
  | cons b r ih =>
    cases i with
    | zero =>
      injection h with h
      subst h
      simp [Tm.cnss]
    | succ i =>
      have := ih (i := i) (by simpa using h)
      simp only [List.take_succ_cons, Tm.cnss, this, List.append_assoc]
theorem word_call {t : Tm} (h : t.word = "call") : ∃ f as, t = .cal f as := by
  cases t with
  | cal f as => exact ⟨f, as, rfl⟩
  | _ => exact absurd h (by simp only [Tm.word]; decide +kernel)
end PW
/-! ### the called names of a term: the program's list -/
namespace PW
open PySem PySem.Spec PyProof.Rows L2
def spCnsW (K : PySem.W.Frag) (n : Nat) : Sp := fun vs H Q _ => ∃ v t d, vs = [v] ∧ IsTm K H d v t ∧ t.dep ≤ n + 1 ∧ t.cns.length ≤ 100000 ∧ ∀ l H', Ex H H' → H l = none → H' l = some (.lst (t.cns.map V.str)) → Q (.ref l) H'
section
variable {P : Program} {w : World} {K : PySem.W.Frag} {mg : Str → Option Value} {base : Heap}
theorem ok1_calls_within {k n : Nat} {spj : Sp} (T : Txt K mg) (hj : n = 0 ∨ ∃ j, n = j + 1 ∧ spj = spCnsW K j)
    (G_parts_of : FnOk P w K mg base CX0 k (He.ga K "parts_of") (fdOf K (He.ga K "parts_of")) p_parts_of (spParts K))
    (G_calls_within : FnOk P w K mg base CX0 k (He.ga K "calls_within") (fdOf K (He.ga K "calls_within")) p_calls_within (spj)) : FnOk P w K mg base CX0 (k + 1) (He.ga K "calls_within") (fdOf K (He.ga K "calls_within")) p_calls_within (spCnsW K n) := by
  refine FunD.ok T.d_calls_within sc_calls_within (fun vs H Q E h => ?_) (fun cdv A outer s H vs Q E hr h => ?_)
  · obtain ⟨v, t, d, rfl, _⟩ := h
    rfl
  · obtain ⟨v, t, d, rfl, ht, hd, hn, hQ⟩ := h
    refine ⟨_, PSs.nox ((pss_cons (ps_set (i := 1) sc_calls_within.nd rfl (Or.inl rfl) (pe_ifExp (pt_cmpR op_eq (pe_ix ix_seq (pv 0) pe_int (fun _ _ => rfl)) pe_str (nomark _)) (pe_lst (pa_cons (pe_ix ix_seq (pv 0) pe_int (fun _ _ => rfl)) pa_nil)) (pe_lst pa_nil)))
    (pss_cons (ps_for PassesOwn.never rfl (pi_list (pe_call G_parts_of hr rfl T.g_parts_of T.d_parts_of.kp (b_parts_of T) .nil pass0 (pa_cons (pv 0) pa_nil))) (pg_name (i := 2) sc_calls_within.nd rfl (Or.inl rfl) (hf := by first | exact Or.inl rfl | exact Or.inr rfl))
      (pss_one (ps_aug (i := 1) sc_calls_within.nd rfl (Or.inl rfl) (pe_call G_calls_within hr rfl T.g_calls_within T.d_calls_within.kp (b_calls_within T) .nil pass0 (pa_cons (pv 2) pa_nil)) iop_ext)))
    (pss_one (ps_ret (pv 1)))))), ?_⟩
    show tSeq _ _ _ [some v, none, none] H
    walk_at "K"
    obtain ⟨d, rfl⟩ : ∃ e, d = e + 1 := ⟨d - 1, by
      have := ht.depth
      have := t.dep_pos
      omega⟩
    obtain ⟨p, xs, rfl, hs, row⟩ := ht
    obtain ⟨r, er⟩ := row.head
    rw [Tm.cns_parts] at hn hQ
    rw [List.length_append] at hn
    refine r_seqP (fun σ' H' => ∃ f, σ' = [some (.ref p), some (.ref f), none] ∧ H f = none ∧ H' f = some (.lst (t.hcn.map V.str)) ∧ Ex H H') ?_ ?_
    · rintro σ' H1 ⟨f, rfl, hf, hf0, x1⟩
      walk_at "go"
      refine ⟨p, xs, t, IsTm K H d, rfl, x1 _ _ hs, row.imp (x1 _ _) fun _ _ z => z, fun l ys H2 x2 hl0 hl hys => ?_⟩
      have hne : l ≠ f := (ne_of_none hf0 hl0).symm
      have hf1 := x2 _ _ hf0
      have x12 := x1.trans x2
      clear x1 x2
      have hlen := pr_len hys
      walk_at "go"
      refine for_it (walk_list (xs := ys)) (fun i σ H' => (∃ y2, σ = [some (.ref p), some (.ref f), y2]) ∧ Ex H H' ∧ H' l = some (.lst ys) ∧ H' f = some (.lst ((t.hcn ++ Tm.cnss (t.parts.take i)).map V.str))) ⟨⟨_, rfl⟩, x12, hl, by simpa [Tm.cnss] using hf1⟩ (fun i σ H' _ h => SqL.of h.2.2.1) ?_ ?_
      · rintro i x σ H3 H3' hi ⟨⟨y2, rfl⟩, x3, hl3, hf3⟩ ⟨rfl, hx⟩
        obtain ⟨a, ha, hv⟩ := pr_get hys hx
        have had := Tm.dep_parts hd a (List.mem_of_getElem? ha)
        obtain ⟨j, rfl, rfl⟩ : ∃ j, n = j + 1 ∧ spj = spCnsW K j := hj.elim (fun z => by
          have := a.dep_pos
          omega) id
        have e1 := cnss_getT ha
        have h1 := Tm.cnss_take (l := t.parts) (k := i + 1)
        rw [e1, List.length_append] at h1
        walk_at "go"
        refine ⟨x, a, d, rfl, hv.ex x3, by omega, by omega, fun q H4 x4 hq0 hq => ?_⟩
        walk_at "go"
        refine ⟨f, q, _, _, rfl, rfl, x4 _ _ hf3, hq, by rw [List.length_map, List.length_map, List.length_append]; exact Nat.le_trans (show _ ≤ 100000 by omega) (by decide), ?_⟩
        rw [← List.map_append, List.append_assoc, ← e1]
        walk_at "go"
        have x14 := x3.trans x4
        exact ⟨⟨_, rfl⟩, (fun b o hb => (upd_ne fun z => by rw [z, hf] at hb; cases hb).trans (x14 _ _ hb)), (upd_ne hne).trans (x4 _ _ hl3), upd_same⟩
      · rintro σ H3 ⟨⟨y2, rfl⟩, x3, hl3, hf3⟩
        walk_at "go"
        rw [hlen, List.take_length] at hf3
        exact hQ f H3 x3 hf hf3
    · intro N hN
      by_cases hw : t.word = "call"
      · obtain ⟨f, as, rfl⟩ := word_call hw
        obtain ⟨q, ys, rfl, hq, hys⟩ := row
        walk_at "go"
        intro l hl
        walk_at "go"
        exact hN _ _ ⟨l, rfl, hl, upd_same, Ex.new hl⟩
      · have hs2 := hs
        rw [er] at hs2
        have e0 : t.hcn = [] := by
          cases t with
          | cal f as => exact absurd rfl hw
          | _ => rfl
        walk_at "go"
        refine r_ifF' (decide_eq_false fun z => hw (V.str.inj z)) ?_
        walk_at "go"
        intro l hl
        walk_at "go"
        refine hN _ _ ⟨l, rfl, hl, ?_, Ex.new hl⟩
        rw [e0]
        exact upd_same
theorem ok_calls_within {k : Nat} (T : Txt K mg) (G_parts_of : FnOk P w K mg base CX0 (k) (He.ga K "parts_of") (fdOf K (He.ga K "parts_of")) p_parts_of (spParts K)) : ∀ n, FnOk P w K mg base CX0 (k + n + 1) (He.ga K "calls_within") (fdOf K (He.ga K "calls_within")) p_calls_within (spCnsW K n)
  | 0 => ok1_calls_within (spj := spNo) T (.inl rfl) G_parts_of fnOk_no
  | n + 1 => ok1_calls_within T (.inr ⟨n, rfl, rfl⟩) (G_parts_of.mono (by omega)) (ok_calls_within T G_parts_of n)
end
end PW
/-! ### conditions -/
namespace PW
open PySem PySem.Spec PyProof.Rows L2
inductive Cd where
  | tru
  | neg (c : Cd)
  | con (a b : Cd)
  | dis (a b : Cd)
  | less (s t : Tm)
  | equ (s t : Tm)
  | res (t : Tm) (m r : Int)
namespace Cd
def dep : Cd → Nat
  | .neg c => 1 + dep c
  | .con a b => 1 + max (dep a) (dep b)
  | .dis a b => 1 + max (dep a) (dep b)
  | _ => 1
/-- the comparisons, in the order of the text -/
def atoms : Cd → List Cd
  | .tru => []
  | .neg c => atoms c
  | .con a b => atoms a ++ atoms b
  | .dis a b => atoms a ++ atoms b
  | .less s t => [.less s t]
  | .equ s t => [.equ s t]
  | .res t m r => [.res t m r]
/-- the terms of a comparison -/
def tms : Cd → List Tm
  | .less s t => [s, t]
  | .equ s t => [s, t]
  | .res t _ _ => [t]
  | _ => []
def isAtom : Cd → Bool
  | .less _ _ => true
  | .equ _ _ => true
  | .res _ _ _ => true
  | _ => false
def word : Cd → Str
  | .tru => "true"
  | .neg _ => "not"
  | .con _ _ => "and"
  | .dis _ _ => "or"
  | .less _ _ => "less"
  | .equ _ _ => "equal"
  | .res _ _ _ => "rest"
def cost : Cd → Nat
  | .tru => 1
  | .neg c => 1 + cost c
  | .con a b => 1 + cost a + cost b
  | .dis a b => 1 + cost a + cost b
  | .less s t => 1 + s.cost + t.cost
  | .equ s t => 1 + s.cost + t.cost
  | .res t _ _ => 1 + t.cost
def ok : Cd → Prop
  | .tru => True
  | .neg c => ok c
  | .con a b => ok a ∧ ok b
  | .dis a b => ok a ∧ ok b
  | .less s t => s.okT ∧ t.okT
  | .equ s t => s.okT ∧ t.okT
  | .res t m r => t.okT ∧ 2 ≤ m ∧ m ≤ 12 ∧ 0 ≤ r ∧ r < m
def pd : Cd → PyData
  | .tru => .tuple [.str "true"]
  | .neg c => .tuple [.str "not", pd c]
  | .con a b => .tuple [.str "and", pd a, pd b]
  | .dis a b => .tuple [.str "or", pd a, pd b]
  | .less s t => .tuple [.str "less", s.pd, t.pd]
  | .equ s t => .tuple [.str "equal", s.pd, t.pd]
  | .res t m r => .tuple [.str "rest", t.pd, .int m, .int r]
/-- levels of all terms are at most n -/
def tdep (n : Nat) : Cd → Prop
  | .tru => True
  | .neg c => tdep n c
  | .con a b => tdep n a ∧ tdep n b
  | .dis a b => tdep n a ∧ tdep n b
  | .less s t => s.dep ≤ n ∧ t.dep ≤ n
  | .equ s t => s.dep ≤ n ∧ t.dep ≤ n
  | .res t _ _ => t.dep ≤ n
theorem dep_pos (c : Cd) : 1 ≤ c.dep := by
  cases c <;> (unfold dep; omega)
theorem cost_pos (c : Cd) : 1 ≤ c.cost := by
  cases c <;> (unfold cost; omega)
theorem pd_dict : ∀ c : Cd, c.pd.hasDict = false
  | .tru => rfl
  | .neg c => by simp [pd, PyData.hasDict, PyData.hasDictAll, pd_dict c]
  | .con a b => by simp [pd, PyData.hasDict, PyData.hasDictAll, pd_dict a, pd_dict b]
  | .dis a b => by simp [pd, PyData.hasDict, PyData.hasDictAll, pd_dict a, pd_dict b]
  | .less s t => by simp [pd, PyData.hasDict, PyData.hasDictAll, Tm.pd_dict]
  | .equ s t => by simp [pd, PyData.hasDict, PyData.hasDictAll, Tm.pd_dict]
  | .res t m r => by simp [pd, PyData.hasDict, PyData.hasDictAll, Tm.pd_dict]
theorem pd_depth {n : Nat} : ∀ c : Cd, c.tdep n → c.pd.depth ≤ c.dep + 2 * n
  | .tru, _ => by simp [pd, PyData.depth, PyData.depthAll, dep]
  | .neg c, h => by
    have := pd_depth c h
    simp only [pd, PyData.depth, PyData.depthAll, dep]
    omega
  | .con a b, h => by
    have := pd_depth a h.1
    have := pd_depth b h.2
    simp only [pd, PyData.depth, PyData.depthAll, dep]
    omega
  | .dis a b, h => by
    have := pd_depth a h.1
    have := pd_depth b h.2
    simp only [pd, PyData.depth, PyData.depthAll, dep]
    omega
  | .less s t, h => by
    have := Tm.pd_depth s
    have := Tm.pd_depth t
    have := h.1
    have := h.2
    simp only [pd, PyData.depth, PyData.depthAll, dep]
    omega
  | .equ s t, h => by
    have := Tm.pd_depth s
    have := Tm.pd_depth t
    have := h.1
    have := h.2
    simp only [pd, PyData.depth, PyData.depthAll, dep]
    omega
  | .res t m r, h => by
    have := Tm.pd_depth t
    have h : t.dep ≤ n := h
    simp only [pd, PyData.depth, PyData.depthAll, dep]
    omega
theorem showable : ∀ c : Cd, c.ok → c.pd.showable = true
  | .tru, _ => by decide
  | .neg c, h => by
    have := showable c h
    simp [pd, PyData.showable, PyData.showableAll, this]
  | .con a b, h => by
    have := showable a h.1
    have := showable b h.2
    simp [pd, PyData.showable, PyData.showableAll, *]
  | .dis a b, h => by
    have := showable a h.1
    have := showable b h.2
    simp [pd, PyData.showable, PyData.showableAll, *]
  | .less s t, h => by
    have := Tm.showable tmb s h.1
    have := Tm.showable tmb t h.2
    simp [pd, PyData.showable, PyData.showableAll, *]
  | .equ s t, h => by
    have := Tm.showable tmb s h.1
    have := Tm.showable tmb t h.2
    simp [pd, PyData.showable, PyData.showableAll, *]
  | .res t m r, h => by
    obtain ⟨h1, h2, h3, h4, h5⟩ := h
    have := Tm.showable tmb t h1
    have := log_small (show m.natAbs < 100 by omega) (by decide)
    have := log_small (show r.natAbs < 100 by omega) (by decide)
    simp [pd, PyData.showable, PyData.showableAll, *]
theorem shown_len : ∀ c : Cd, c.ok → c.pd.shown.length ≤ 48 * c.cost
  | .tru, _ => by
    have h3 := shown_tup [.str "true"]
    have h2 := Tm.w_len (z := "true") (n := 6)
    simp only [pd, PyData.shownAll, piled_cons, piled_nil, cost] at h3 ⊢
    omega
  | .neg c, h => by
    have := shown_len c h
    have h3 := shown_tup [.str "not", c.pd]
    have h2 := Tm.w_len (z := "not") (n := 6)
    simp only [pd, PyData.shownAll, piled_cons, piled_nil, cost] at h3 ⊢
    omega
  | .con a b, h => by
    have := shown_len a h.1
    have := shown_len b h.2
    have h3 := shown_tup [.str "and", a.pd, b.pd]
    have h2 := Tm.w_len (z := "and") (n := 6)
    simp only [pd, PyData.shownAll, piled_cons, piled_nil, cost] at h3 ⊢
    omega
  | .dis a b, h => by
    have := shown_len a h.1
    have := shown_len b h.2
    have h3 := shown_tup [.str "or", a.pd, b.pd]
    have h2 := Tm.w_len (z := "or") (n := 6)
    simp only [pd, PyData.shownAll, piled_cons, piled_nil, cost] at h3 ⊢
    omega
  | .less s t, h => by
    have := Tm.shown_len tmb s h.1
    have := Tm.shown_len tmb t h.2
    have h3 := shown_tup [.str "less", s.pd, t.pd]
    have h2 := Tm.w_len (z := "less") (n := 6)
    simp only [pd, PyData.shownAll, piled_cons, piled_nil, cost] at h3 ⊢
    omega
  | .equ s t, h => by
    have := Tm.shown_len tmb s h.1
    have := Tm.shown_len tmb t h.2
    have h3 := shown_tup [.str "equal", s.pd, t.pd]
    have h2 := Tm.w_len (z := "equal") (n := 7)
    simp only [pd, PyData.shownAll, piled_cons, piled_nil, cost] at h3 ⊢
    omega
  | .res t m r, h => by
    obtain ⟨h1, h2, h3, h4, h5⟩ := h
    have := Tm.shown_len tmb t h1
    have i1 := shown_int (show m.natAbs < 10 ^ 10 by omega)
    have i2 := shown_int (show r.natAbs < 10 ^ 10 by omega)
    have h3 := shown_tup [.str "rest", t.pd, .int m, .int r]
    have h2 := Tm.w_len (z := "rest") (n := 6)
    simp only [pd, PyData.shownAll, piled_cons, piled_nil, cost] at h3 ⊢
    omega
theorem atoms_atom : ∀ c : Cd, ∀ a ∈ c.atoms, a.isAtom = true
  | .tru, a, h => nomatch h
  | .neg c, a, h => atoms_atom c a h
  | .con x y, a, h => (List.mem_append.mp h).elim (atoms_atom x a) (atoms_atom y a)
  | .dis x y, a, h => (List.mem_append.mp h).elim (atoms_atom x a) (atoms_atom y a)
  | .less s t, a, h => by
    rw [List.mem_singleton.mp h]
    rfl
  | .equ s t, a, h => by
    rw [List.mem_singleton.mp h]
    rfl
  | .res t m r, a, h => by
    rw [List.mem_singleton.mp h]
    rfl
end Cd
/-- the tuple of a condition -/
def CdRow (R : V → Cd → Prop) (S : V → Tm → Prop) (xs : List V) : Cd → Prop
  | .tru => xs = [.str "true"]
  | .neg c => ∃ x, xs = [.str "not", x] ∧ R x c
  | .con a b => ∃ x y, xs = [.str "and", x, y] ∧ R x a ∧ R y b
  | .dis a b => ∃ x y, xs = [.str "or", x, y] ∧ R x a ∧ R y b
  | .less s t => ∃ x y, xs = [.str "less", x, y] ∧ S x s ∧ S y t
  | .equ s t => ∃ x y, xs = [.str "equal", x, y] ∧ S x s ∧ S y t
  | .res t m r => ∃ x, xs = [.str "rest", x, .int m, .int r] ∧ S x t
/-- v is the condition c, of at most d levels, its terms of at most e -/
def IsCd (K : PySem.W.Frag) (H : Hp) (e : Nat) : Nat → V → Cd → Prop
  | 0, _, _ => False
  | d + 1, v, c => ∃ p xs, v = .ref p ∧ H p = some (.tup xs) ∧ CdRow (IsCd K H e d) (IsTm K H e) xs c
theorem CdRow.imp {R R' : V → Cd → Prop} {S S' : V → Tm → Prop} {xs : List V} {c : Cd} (h : ∀ x a, R x a → R' x a) (g : ∀ x a, S x a → S' x a) (r : CdRow R S xs c) : CdRow R' S' xs c := by
  cases c with
  | tru => exact r
  | neg c => obtain ⟨x, e, e1⟩ := r; exact ⟨x, e, h _ _ e1⟩
  | con a b => obtain ⟨x, y, e, e1, e2⟩ := r; exact ⟨x, y, e, h _ _ e1, h _ _ e2⟩
  | dis a b => obtain ⟨x, y, e, e1, e2⟩ := r; exact ⟨x, y, e, h _ _ e1, h _ _ e2⟩
  | less a b => obtain ⟨x, y, e, e1, e2⟩ := r; exact ⟨x, y, e, g _ _ e1, g _ _ e2⟩
  | equ a b => obtain ⟨x, y, e, e1, e2⟩ := r; exact ⟨x, y, e, g _ _ e1, g _ _ e2⟩
  | res t m r2 => obtain ⟨x, e, e1⟩ := r; exact ⟨x, e, g _ _ e1⟩
theorem CdRow.head {R : V → Cd → Prop} {S : V → Tm → Prop} {xs : List V} {c : Cd} (h : CdRow R S xs c) : ∃ r, xs = .str c.word :: r := by
  cases c with
  | tru => exact ⟨_, h⟩
  | neg c => obtain ⟨x, e, _⟩ := h; exact ⟨_, e⟩
  | res t m r => obtain ⟨x, e, _⟩ := h; exact ⟨_, e⟩
  | _ => obtain ⟨x, y, e, _⟩ := h; exact ⟨_, e⟩
theorem IsCd.ex {K : PySem.W.Frag} {H H' : Hp} {e : Nat} (x : Ex H H') : ∀ {d : Nat} {v : V} {c : Cd}, IsCd K H e d v c → IsCd K H' e d v c
  | 0, _, _, h => h.elim
  | d + 1, v, c, h => by
    obtain ⟨p, xs, e, h1, h2⟩ := h
    exact ⟨p, xs, e, x _ _ h1, h2.imp (fun _ _ z => IsCd.ex x z) fun _ _ z => z.ex x⟩
theorem IsCd.up {K : PySem.W.Frag} {H : Hp} {e e' : Nat} (he : e ≤ e') : ∀ {d d' : Nat} {v : V} {c : Cd}, d ≤ d' → IsCd K H e d v c → IsCd K H e' d' v c
  | 0, _, _, _, _, h => h.elim
  | d + 1, 0, _, _, z, _ => absurd z (by omega)
  | d + 1, d' + 1, v, c, z, h => by
    obtain ⟨p, xs, e1, h1, h2⟩ := h
    exact ⟨p, xs, e1, h1, h2.imp (fun _ _ z => IsCd.up he (by omega) z) fun _ _ z => z.up he⟩
theorem IsCd.mk {K : PySem.W.Frag} {H : Hp} {e d : Nat} {p : Addr} {xs : List V} {c : Cd} (h : H p = some (.tup xs)) (r : CdRow (IsCd K H e d) (IsTm K H e) xs c) : IsCd K H e (d + 1) (.ref p) c := ⟨p, xs, rfl, h, r⟩
theorem IsCd.ref {K : PySem.W.Frag} {H : Hp} {e : Nat} : ∀ {d : Nat} {v : V} {c : Cd}, IsCd K H e d v c → ∃ p, v = .ref p
  | 0, _, _, h => h.elim
  | _ + 1, _, _, ⟨p, _, e, _⟩ => ⟨p, e⟩
theorem IsCd.depth {K : PySem.W.Frag} {H : Hp} {e : Nat} : ∀ {d : Nat} {v : V} {c : Cd}, IsCd K H e d v c → c.dep ≤ d
  | 0, _, _, h => h.elim
  | d + 1, v, c, h => by
    obtain ⟨p, xs, e1, h1, h2⟩ := h
    cases c with
    | neg c =>
      obtain ⟨x, _, e2⟩ := h2
      have := IsCd.depth e2
      simp only [Cd.dep]
      omega
    | con a b =>
      obtain ⟨x, y, _, e2, e3⟩ := h2
      have := IsCd.depth e2
      have := IsCd.depth e3
      simp only [Cd.dep]
      omega
    | dis a b =>
      obtain ⟨x, y, _, e2, e3⟩ := h2
      have := IsCd.depth e2
      have := IsCd.depth e3
      simp only [Cd.dep]
      omega
    | _ =>
      simp only [Cd.dep]
      omega
theorem IsCd.tdep {K : PySem.W.Frag} {H : Hp} {e : Nat} : ∀ {d : Nat} {v : V} {c : Cd}, IsCd K H e d v c → c.tdep e
  | 0, _, _, h => h.elim
  | d + 1, v, c, h => by
    obtain ⟨p, xs, e1, h1, h2⟩ := h
    cases c with
    | tru => trivial
    | neg c =>
      obtain ⟨x, _, e2⟩ := h2
      exact IsCd.tdep (c := c) e2
    | con a b =>
      obtain ⟨x, y, _, e2, e3⟩ := h2
      exact ⟨IsCd.tdep e2, IsCd.tdep e3⟩
    | dis a b =>
      obtain ⟨x, y, _, e2, e3⟩ := h2
      exact ⟨IsCd.tdep e2, IsCd.tdep e3⟩
    | less a b =>
      obtain ⟨x, y, _, e2, e3⟩ := h2
      exact ⟨e2.depth, e3.depth⟩
    | equ a b =>
      obtain ⟨x, y, _, e2, e3⟩ := h2
      exact ⟨e2.depth, e3.depth⟩
    | res t m r =>
      obtain ⟨x, _, e2⟩ := h2
      exact e2.depth
theorem IsCd.dat {K : PySem.W.Frag} {H : Hp} {e : Nat} : ∀ {d : Nat} {v : V} {c : Cd}, IsCd K H e d v c → Dp K H v c.pd
  | 0, _, _, h => h.elim
  | d + 1, v, c, h => by
    obtain ⟨p, xs, rfl, h1, h2⟩ := h
    cases c with
    | tru =>
      have h2 : xs = _ := h2
      subst h2
      exact .tup (SqT.of h1) (.cons (.str _) .nil)
    | neg c =>
      obtain ⟨x, rfl, e2⟩ := h2
      exact .tup (SqT.of h1) (.cons (.str _) (.cons (IsCd.dat e2) .nil))
    | con a b =>
      obtain ⟨x, y, rfl, e2, e3⟩ := h2
      exact .tup (SqT.of h1) (.cons (.str _) (.cons (IsCd.dat e2) (.cons (IsCd.dat e3) .nil)))
    | dis a b =>
      obtain ⟨x, y, rfl, e2, e3⟩ := h2
      exact .tup (SqT.of h1) (.cons (.str _) (.cons (IsCd.dat e2) (.cons (IsCd.dat e3) .nil)))
    | less a b =>
      obtain ⟨x, y, rfl, e2, e3⟩ := h2
      exact .tup (SqT.of h1) (.cons (.str _) (.cons e2.dat (.cons e3.dat .nil)))
    | equ a b =>
      obtain ⟨x, y, rfl, e2, e3⟩ := h2
      exact .tup (SqT.of h1) (.cons (.str _) (.cons e2.dat (.cons e3.dat .nil)))
    | res t m r =>
      obtain ⟨x, rfl, e2⟩ := h2
      exact .tup (SqT.of h1) (.cons (.str _) (.cons e2.dat (.cons (.int _) (.cons (.int _) .nil))))
def Cd.anms (a : Cd) : List Str := Tm.nmss a.tms
/-- the names of some comparisons -/
def cnmss : List Cd → List Str
  | [] => []
  | a :: r => a.anms ++ cnmss r
def Cd.cnms (c : Cd) : List Str := cnmss c.atoms
theorem cnmss_get {as : List Cd} {i : Nat} {a : Cd} (h : as[i]? = some a) : cnmss (as.take (i + 1)) = cnmss (as.take i) ++ a.anms := by
  induction as generalizing i with
  | nil => cases h
  | cons b r ih =>
    cases i with
    | zero =>
      injection h with h
      subst h
      simp [cnmss]
    | succ i =>
      have := ih (i := i) (by simpa using h)
      simp only [List.take_succ_cons, cnmss, this, List.append_assoc]
theorem cnmss_take {l : List Cd} : ∀ {k : Nat}, (cnmss (l.take k)).length ≤ (cnmss l).length := by
  induction l with
  | nil => intro k; simp
  | cons a r ih =>
    intro k
    cases k with
    | zero => simp [cnmss]
    | succ k =>
      have := ih (k := k)
      simp only [List.take_succ_cons, cnmss, List.length_append]
      omega
end PW
namespace PW
open PySem PySem.Spec PyProof.Rows L2
theorem IsCd.atom {K : PySem.W.Frag} {H : Hp} {e : Nat} : ∀ {d : Nat} {v : V} {c : Cd}, c.isAtom = true → IsCd K H e d v c → IsCd K H e 1 v c
  | 0, _, _, _, h => h.elim
  | d + 1, v, c, ha, h => by
    obtain ⟨p, xs, e1, h1, h2⟩ := h
    refine ⟨p, xs, e1, h1, ?_⟩
    cases c with
    | tru => exact h2
    | less a b => exact h2
    | equ a b => exact h2
    | res t m r => exact h2
    | _ => cases ha
theorem prd_exC {K : PySem.W.Frag} {H H' : Hp} (x : Ex H H') {e d : Nat} {ys : List V} {as : List Cd} (h : Paired (IsCd K H e d) ys as) : Paired (IsCd K H' e d) ys as := L2.Paired.mapP h fun _ _ z => z.ex x
theorem prd_app {α β : Type} {F : α → β → Prop} : ∀ {xs xs' : List α} {ys ys' : List β}, Paired F xs ys → Paired F xs' ys' → Paired F (xs ++ xs') (ys ++ ys')
  | _, _, _, _, .nil, h => h
  | _, _, _, _, .cons a b, h => .cons a (prd_app b h)
end PW
/-! ### the comparisons and names of conditions -/
namespace PW
open PySem PySem.Spec PyProof.Rows L2
def spCmps (K : PySem.W.Frag) (n : Nat) : Sp := fun vs H Q _ => ∃ v c e d H0, vs = [v] ∧ Ex H0 H ∧ IsCd K H0 e d v c ∧ c.dep ≤ n + 1 ∧ c.atoms.length ≤ 100000 ∧ ∀ l ys H', Ex H H' → H l = none → H' l = some (.lst ys) → Paired (IsCd K H0 e 1) ys c.atoms → Q (.ref l) H'
def spTOf (K : PySem.W.Frag) : Sp := fun vs H Q _ => ∃ v c e d H0, vs = [v] ∧ Ex H0 H ∧ IsCd K H0 e d v c ∧ c.isAtom = true ∧ ∀ l ys H', Ex H H' → H l = none → H' l = some (.lst ys) → Paired (IsTm K H0 e) ys c.tms → Q (.ref l) H'
def spCNms (K : PySem.W.Frag) : Sp := fun vs H Q _ => ∃ v c e d, vs = [v] ∧ IsCd K H e d v c ∧ c.dep ≤ 20 ∧ e ≤ 20 ∧ c.atoms.length ≤ 100000 ∧ c.cnms.length ≤ 100000 ∧ ∀ l H', Ex H H' → H l = none → H' l = some (.lst (c.cnms.map V.str)) → Q (.ref l) H'
section
variable {P : Program} {w : World} {K : PySem.W.Frag} {mg : Str → Option Value} {base : Heap}
theorem ok1_comparisons {k n : Nat} {spj : Sp} (T : Txt K mg) (hj : n = 0 ∨ ∃ j, n = j + 1 ∧ spj = spCmps K j)
    (G_comparisons : FnOk P w K mg base CX0 k (He.ga K "comparisons") (fdOf K (He.ga K "comparisons")) p_comparisons (spj)) : FnOk P w K mg base CX0 (k + 1) (He.ga K "comparisons") (fdOf K (He.ga K "comparisons")) p_comparisons (spCmps K n) := by
  refine FunD.ok T.d_comparisons sc_comparisons (fun vs H Q E h => ?_) (fun cdv A outer s H vs Q E hr h => ?_)
  · obtain ⟨v, c, e, d, H0, rfl, _⟩ := h
    rfl
  · obtain ⟨v, c, e, d, H0, rfl, xh, hc, hd, hn, hQ⟩ := h
    refine ⟨_, PSs.nox ((pss_cons (ps_if (pt_cmpR op_eq (pe_ix ix_seq (pv 0) pe_int (fun _ _ => rfl)) pe_str (nomark _))
      (pss_one (ps_ret (pe_lst pa_nil)))
      pss_nil)
    (pss_cons (ps_if (pt_cmpR op_eq (pe_ix ix_seq (pv 0) pe_int (fun _ _ => rfl)) pe_str (nomark _))
      (pss_one (ps_ret (pe_call G_comparisons hr rfl T.g_comparisons T.d_comparisons.kp (b_comparisons T) .nil pass0 (pa_cons (pe_ix ix_seq (pv 0) pe_int (fun _ _ => rfl)) pa_nil))))
      pss_nil)
    (pss_cons (ps_if (pt_cmpR op_in_seq (pe_ix ix_seq (pv 0) pe_int (fun _ _ => rfl)) (pe_tup (pa_cons pe_str (pa_cons pe_str pa_nil))) rfl)
      (pss_one (ps_ret (pe_op op_cat (pe_call G_comparisons hr rfl T.g_comparisons T.d_comparisons.kp (b_comparisons T) .nil pass0 (pa_cons (pe_ix ix_seq (pv 0) pe_int (fun _ _ => rfl)) pa_nil)) (pe_call G_comparisons hr rfl T.g_comparisons T.d_comparisons.kp (b_comparisons T) .nil pass0 (pa_cons (pe_ix ix_seq (pv 0) pe_int (fun _ _ => rfl)) pa_nil)))))
      pss_nil)
    (pss_one (ps_ret (pe_lst (pa_cons (pv 0) pa_nil)))))))), ?_⟩
    show tSeq _ _ _ [some v] H
    walk_at "K"
    obtain ⟨d, rfl⟩ : ∃ e, d = e + 1 := ⟨d - 1, by
      have := hc.depth
      have := c.dep_pos
      omega⟩
    have hc0 := hc
    obtain ⟨p, xs, rfl, hs, row⟩ := hc
    replace hs := xh _ _ hs
    have leaf : c.isAtom = true → c.atoms = [c] → ∀ t, H t = none → ∀ l, (L2.upd H t (.tup [V.str "and", V.str "or"])) l = none → Q (.ref l) (L2.upd (L2.upd H t (.tup [V.str "and", V.str "or"])) l (.lst [V.ref p])) := fun ha e1 t ht l hl => by
      have x := (Ex.new (o := .tup [V.str "and", V.str "or"]) ht).trans (Ex.new (o := .lst [V.ref p]) hl)
      refine hQ l _ _ x (Ex.free (Ex.new ht) hl) upd_same ?_
      rw [e1]
      exact .cons (hc0.atom ha) .nil
    cases c with
    | tru =>
      have row : xs = _ := row
      subst row
      walk_at "go"
      intro l hl
      exact hQ l _ _ (Ex.new hl) hl upd_same .nil
    | neg c =>
      obtain ⟨x, rfl, hx⟩ := row
      simp only [Cd.dep] at hd
      have := c.dep_pos
      obtain ⟨j, rfl, rfl⟩ : ∃ j, n = j + 1 ∧ spj = spCmps K j := hj.elim (fun z => by omega) id
      walk_at "go"
      exact ⟨x, c, e, d, H0, rfl, xh, hx, by omega, hn, hQ⟩
    | less a b =>
      obtain ⟨x, y, rfl, _⟩ := id row
      walk_at "go"
      intro t ht
      walk_at "go"
      intro l hl
      exact leaf rfl rfl t ht l hl
    | equ a b =>
      obtain ⟨x, y, rfl, _⟩ := id row
      walk_at "go"
      intro t ht
      walk_at "go"
      intro l hl
      exact leaf rfl rfl t ht l hl
    | res a m r =>
      obtain ⟨x, rfl, _⟩ := id row
      walk_at "go"
      intro t ht
      walk_at "go"
      intro l hl
      exact leaf rfl rfl t ht l hl
    | con a b =>
      obtain ⟨x, y, rfl, hx, hy⟩ := row
      simp only [Cd.dep] at hd
      simp only [Cd.atoms, List.length_append] at hn
      have := a.dep_pos
      obtain ⟨j, rfl, rfl⟩ : ∃ j, n = j + 1 ∧ spj = spCmps K j := hj.elim (fun z => by omega) id
      walk_at "go"
      intro t ht
      have x0 := Ex.new (o := .tup [V.str "and", V.str "or"]) ht
      have hs0 := x0 _ _ hs
      walk_at "go"
      refine ⟨x, a, e, d, H0, rfl, xh.trans x0, hx, by omega, by omega, fun l1 y1 H1 x1 hl1 h1 p1 => ?_⟩
      have hs1 := x1 _ _ hs0
      walk_at "go"
      refine ⟨y, b, e, d, H0, rfl, xh.trans (x0.trans x1), hy, by omega, by omega, fun l2 y2 H2 x2 hl2 h2 p2 => ?_⟩
      walk_at "go"
      have e1 := pr_len p1
      have e2 := pr_len p2
      refine ⟨l1, l2, y1, y2, rfl, rfl, x2 _ _ h1, h2, Nat.le_trans (show _ ≤ 100000 by omega) (by decide), fun l hl => ?_⟩
      have x3 := Ex.new (o := .lst (y1 ++ y2)) hl
      have x02 := (x0.trans x1).trans x2
      exact hQ l _ _ (x02.trans x3) (Ex.free x02 hl) upd_same (prd_app p1 p2)
    | dis a b =>
      obtain ⟨x, y, rfl, hx, hy⟩ := row
      simp only [Cd.dep] at hd
      simp only [Cd.atoms, List.length_append] at hn
      have := a.dep_pos
      obtain ⟨j, rfl, rfl⟩ : ∃ j, n = j + 1 ∧ spj = spCmps K j := hj.elim (fun z => by omega) id
      walk_at "go"
      intro t ht
      have x0 := Ex.new (o := .tup [V.str "and", V.str "or"]) ht
      have hs0 := x0 _ _ hs
      walk_at "go"
      refine ⟨x, a, e, d, H0, rfl, xh.trans x0, hx, by omega, by omega, fun l1 y1 H1 x1 hl1 h1 p1 => ?_⟩
      have hs1 := x1 _ _ hs0
      walk_at "go"
      refine ⟨y, b, e, d, H0, rfl, xh.trans (x0.trans x1), hy, by omega, by omega, fun l2 y2 H2 x2 hl2 h2 p2 => ?_⟩
      walk_at "go"
      have e1 := pr_len p1
      have e2 := pr_len p2
      refine ⟨l1, l2, y1, y2, rfl, rfl, x2 _ _ h1, h2, Nat.le_trans (show _ ≤ 100000 by omega) (by decide), fun l hl => ?_⟩
      have x3 := Ex.new (o := .lst (y1 ++ y2)) hl
      have x02 := (x0.trans x1).trans x2
      exact hQ l _ _ (x02.trans x3) (Ex.free x02 hl) upd_same (prd_app p1 p2)
theorem ok_comparisons {k : Nat} (T : Txt K mg) : ∀ n, FnOk P w K mg base CX0 (k + n + 1) (He.ga K "comparisons") (fdOf K (He.ga K "comparisons")) p_comparisons (spCmps K n)
  | 0 => ok1_comparisons (spj := spNo) T (.inl rfl) fnOk_no
  | n + 1 => ok1_comparisons T (.inr ⟨n, rfl, rfl⟩) (ok_comparisons T n)
theorem ok_terms_of (T : Txt K mg) : FnOk P w K mg base CX0 (1) (He.ga K "terms_of") (fdOf K (He.ga K "terms_of")) p_terms_of (spTOf K) := by
  refine FunD.ok T.d_terms_of sc_terms_of (fun vs H Q E h => ?_) (fun cdv A outer s H vs Q E hr h => ?_)
  · obtain ⟨v, c, e, d, H0, rfl, _⟩ := h
    rfl
  · obtain ⟨v, c, e, d, H0, rfl, xh, hc, ha, hQ⟩ := h
    refine ⟨_, PSs.nox ((pss_one (ps_ret (pe_ifExp (pt_cmpR op_eq (pe_ix ix_seq (pv 0) pe_int (fun _ _ => rfl)) pe_str (nomark _)) (pe_lst (pa_cons (pe_ix ix_seq (pv 0) pe_int (fun _ _ => rfl)) pa_nil)) (pe_lst (pa_cons (pe_ix ix_seq (pv 0) pe_int (fun _ _ => rfl)) (pa_cons (pe_ix ix_seq (pv 0) pe_int (fun _ _ => rfl)) pa_nil))))))), ?_⟩
    show tRet _ _ [some v] H
    walk_at "K"
    obtain ⟨p, xs, rfl, hs, row⟩ := (hc.atom ha)
    replace hs := xh _ _ hs
    cases c with
    | less a b =>
      obtain ⟨x, y, rfl, hx, hy⟩ := row
      walk_at "go"
      intro l hl
      exact hQ l _ _ (Ex.new hl) hl upd_same (.cons hx (.cons hy .nil))
    | equ a b =>
      obtain ⟨x, y, rfl, hx, hy⟩ := row
      walk_at "go"
      intro l hl
      exact hQ l _ _ (Ex.new hl) hl upd_same (.cons hx (.cons hy .nil))
    | res a m r =>
      obtain ⟨x, rfl, hx⟩ := row
      walk_at "go"
      intro l hl
      exact hQ l _ _ (Ex.new hl) hl upd_same (.cons hx .nil)
    | _ => cases ha
theorem ok_condition_names {k : Nat} (T : Txt K mg)
    (G_comparisons : FnOk P w K mg base CX0 k (He.ga K "comparisons") (fdOf K (He.ga K "comparisons")) p_comparisons (spCmps K 19))
    (G_terms_of : FnOk P w K mg base CX0 k (He.ga K "terms_of") (fdOf K (He.ga K "terms_of")) p_terms_of (spTOf K))
    (G_names_within : FnOk P w K mg base CX0 k (He.ga K "names_within") (fdOf K (He.ga K "names_within")) p_names_within (spNmsW K 19)) : FnOk P w K mg base CX0 (k + 1) (He.ga K "condition_names") (fdOf K (He.ga K "condition_names")) p_condition_names (spCNms K) := by
  refine FunD.ok T.d_condition_names sc_condition_names (fun vs H Q E h => ?_) (fun cdv A outer s H vs Q E hr h => ?_)
  · obtain ⟨v, c, e, d, rfl, _⟩ := h
    rfl
  · obtain ⟨v, c, e, d, rfl, hc, hd, he, hn, hm, hQ⟩ := h
    refine ⟨_, PSs.nox ((pss_cons (ps_set (i := 1) sc_condition_names.nd rfl (Or.inl rfl) (pe_lst pa_nil))
    (pss_cons (ps_for PassesOwn.never rfl (pi_list (pe_call G_comparisons hr rfl T.g_comparisons T.d_comparisons.kp (b_comparisons T) .nil pass0 (pa_cons (pv 0) pa_nil))) (pg_name (i := 2) sc_condition_names.nd rfl (Or.inl rfl) (hf := by first | exact Or.inl rfl | exact Or.inr rfl))
      (pss_one (ps_for PassesOwn.never rfl (pi_list (pe_call G_terms_of hr rfl T.g_terms_of T.d_terms_of.kp (b_terms_of T) .nil pass0 (pa_cons (pv 2) pa_nil))) (pg_name (i := 3) sc_condition_names.nd rfl (Or.inl rfl) (hf := by first | exact Or.inl rfl | exact Or.inr rfl))
          (pss_one (ps_aug (i := 1) sc_condition_names.nd rfl (Or.inl rfl) (pe_call G_names_within hr rfl T.g_names_within T.d_names_within.kp (b_names_within T) .nil pass0 (pa_cons (pv 3) pa_nil)) iop_ext)))))
    (pss_one (ps_ret (pv 1)))))), ?_⟩
    show tSeq _ _ _ [some v, none, none, none] H
    walk_at "K"
    walk_at "go"
    intro f hf
    walk_at "go"
    have x1 := Ex.new (o := .lst []) hf
    refine ⟨v, c, e, d, H, rfl, x1, hc, hd, hn, fun l ys H1 x2 hl0 hl hys => ?_⟩
    have hne : l ≠ f := (ne_of_none upd_same hl0).symm
    have hf1 := x2 _ _ (upd_same (H := H) (a := f) (o := .lst []))
    have x12 := x1.trans x2
    have hlen := pr_len hys
    have keep : ∀ {H2 : Hp} {o : HO}, Ex H H2 → Ex H (L2.upd H2 f o) := fun x b u hb => (upd_ne fun z => by rw [z, hf] at hb; cases hb).trans (x _ _ hb)
    clear x1 x2
    walk_at "go"
    refine for_it (walk_list (xs := ys)) (fun i σ H' => (∃ y2 y3, σ = [some v, some (.ref f), y2, y3]) ∧ Ex H H' ∧ H' l = some (.lst ys) ∧ H' f = some (.lst ((cnmss (c.atoms.take i)).map V.str))) ⟨⟨_, _, rfl⟩, x12, hl, hf1⟩ (fun i σ H' _ h => SqL.of h.2.2.1) ?_ ?_
    · rintro i x σ H2 H2' hi ⟨⟨y2, y3, rfl⟩, x2, hl2, hf2⟩ ⟨rfl, hx⟩
      obtain ⟨a, ha, hv⟩ := pr_get hys hx
      have hat := c.atoms_atom a (List.mem_of_getElem? ha)
      have e1 := cnmss_get ha
      have h1 := cnmss_take (l := c.atoms) (k := i + 1)
      rw [e1, List.length_append] at h1
      have hcn : (cnmss c.atoms).length ≤ 100000 := hm
      walk_at "go"
      refine ⟨x, a, e, 1, H, rfl, x2, hv, hat, fun l3 zs H3 x3 hl30 hl3 hzs => ?_⟩
      have hne3 : l3 ≠ f := (ne_of_none hf2 hl30).symm
      have hll3 : l ≠ l3 := ne_of_none hl2 hl30
      have hlen3 := pr_len hzs
      walk_at "go"
      refine for_it (walk_list (xs := zs)) (fun i' σ H' => (∃ y3, σ = [some v, some (.ref f), some x, y3]) ∧ Ex H H' ∧ H' l = some (.lst ys) ∧ H' l3 = some (.lst zs) ∧ H' f = some (.lst ((cnmss (c.atoms.take i) ++ Tm.nmss (a.tms.take i')).map V.str))) ⟨⟨_, rfl⟩, x2.trans x3, x3 _ _ hl2, hl3, by
        have := x3 _ _ hf2
        simpa [Tm.nmss] using this⟩ (fun i σ H' _ h => SqL.of h.2.2.2.1) ?_ ?_
      · rintro i' z σ H4 H4' hi' ⟨⟨y3, rfl⟩, x4, hl4, hl34, hf4⟩ ⟨rfl, hz⟩
        obtain ⟨t, ht, htv⟩ := pr_get hzs hz
        have f1 := nmss_get ht
        have f2 := Tm.nmss_take (l := a.tms) (k := i' + 1)
        rw [f1, List.length_append] at f2
        have f3 : (Tm.nmss a.tms).length = a.anms.length := rfl
        have hdt := htv.depth
        walk_at "go"
        refine ⟨z, t, e, rfl, htv.ex x4, by omega, by omega, fun q H5 x5 hq0 hq => ?_⟩
        walk_at "go"
        refine ⟨f, q, _, _, rfl, rfl, x5 _ _ hf4, hq, ?_, ?_⟩
        · rw [List.length_map, List.length_map, List.length_append]
          exact Nat.le_trans (show _ ≤ 100000 by omega) (by decide)
        · walk_at "go"
          rw [← List.map_append, List.append_assoc, ← f1]
          exact ⟨⟨_, rfl⟩, keep (x4.trans x5), (upd_ne hne).trans (x5 _ _ hl4), (upd_ne hne3).trans (x5 _ _ hl34), upd_same⟩
      · rintro σ H4 ⟨⟨y3, rfl⟩, x4, hl4, hl34, hf4⟩
        walk_at "go"
        rw [hlen3, List.take_length] at hf4
        refine ⟨⟨_, _, rfl⟩, x4, hl4, ?_⟩
        rw [e1]
        exact hf4
    · rintro σ H2 ⟨⟨y2, y3, rfl⟩, x2, hl2, hf2⟩
      walk_at "go"
      rw [hlen, List.take_length] at hf2
      exact hQ f H2 x2 hf hf2
end
end PW
/-! ### the called names of a condition -/
namespace PW
open PySem PySem.Spec PyProof.Rows L2
/-- the called names of a comparison -/
def Cd.acns (c : Cd) : List Str := Tm.cnss c.tms
def ccnss : List Cd → List Str
  | [] => []
  | a :: r => a.acns ++ ccnss r
def Cd.ccns (c : Cd) : List Str := ccnss c.atoms
theorem ccnss_get {as : List Cd} {i : Nat} {a : Cd} (h : as[i]? = some a) : ccnss (as.take (i + 1)) = ccnss (as.take i) ++ a.acns := by
  induction as generalizing i with
  | nil => cases h
  | cons b r ih =>
    cases i with
    | zero =>
      injection h with h
      subst h
      simp [ccnss]
    | succ i =>
      have := ih (i := i) (by simpa using h)
      simp only [List.take_succ_cons, ccnss, this, List.append_assoc]
theorem ccnss_take {l : List Cd} : ∀ {k : Nat}, (ccnss (l.take k)).length ≤ (ccnss l).length := by
  induction l with
  | nil => intro k; simp
  | cons a r ih =>
    intro k
    cases k with
    | zero => simp [ccnss]
    | succ k =>
      have := ih (k := k)
      simp only [List.take_succ_cons, ccnss, List.length_append]
      omega
end PW
/-! ### the called names of a condition: the program's list -/
namespace PW
open PySem PySem.Spec PyProof.Rows L2
def spCCns (K : PySem.W.Frag) : Sp := fun vs H Q _ => ∃ v c e d, vs = [v] ∧ IsCd K H e d v c ∧ c.dep ≤ 17 ∧ e ≤ 17 ∧ c.atoms.length ≤ 100000 ∧ c.ccns.length ≤ 100000 ∧ ∀ l H', Ex H H' → H l = none → H' l = some (.lst (c.ccns.map V.str)) → Q (.ref l) H'
section
variable {P : Program} {w : World} {K : PySem.W.Frag} {mg : Str → Option Value} {base : Heap}
theorem ok_condition_calls {k : Nat} (T : Txt K mg)
    (G_comparisons : FnOk P w K mg base CX0 k (He.ga K "comparisons") (fdOf K (He.ga K "comparisons")) p_comparisons (spCmps K 16))
    (G_terms_of : FnOk P w K mg base CX0 k (He.ga K "terms_of") (fdOf K (He.ga K "terms_of")) p_terms_of (spTOf K))
    (G_calls_within : FnOk P w K mg base CX0 k (He.ga K "calls_within") (fdOf K (He.ga K "calls_within")) p_calls_within (spCnsW K 16)) : FnOk P w K mg base CX0 (k + 1) (He.ga K "condition_calls") (fdOf K (He.ga K "condition_calls")) p_condition_calls (spCCns K) := by
  refine FunD.ok T.d_condition_calls sc_condition_calls (fun vs H Q E h => ?_) (fun cdv A outer s H vs Q E hr h => ?_)
  · obtain ⟨v, c, e, d, rfl, _⟩ := h
    rfl
  · obtain ⟨v, c, e, d, rfl, hc, hd, he, hn, hm, hQ⟩ := h
    refine ⟨_, PSs.nox ((pss_cons (ps_set (i := 1) sc_condition_calls.nd rfl (Or.inl rfl) (pe_lst pa_nil))
    (pss_cons (ps_for PassesOwn.never rfl (pi_list (pe_call G_comparisons hr rfl T.g_comparisons T.d_comparisons.kp (b_comparisons T) .nil pass0 (pa_cons (pv 0) pa_nil))) (pg_name (i := 2) sc_condition_calls.nd rfl (Or.inl rfl) (hf := by first | exact Or.inl rfl | exact Or.inr rfl))
      (pss_one (ps_for PassesOwn.never rfl (pi_list (pe_call G_terms_of hr rfl T.g_terms_of T.d_terms_of.kp (b_terms_of T) .nil pass0 (pa_cons (pv 2) pa_nil))) (pg_name (i := 3) sc_condition_calls.nd rfl (Or.inl rfl) (hf := by first | exact Or.inl rfl | exact Or.inr rfl))
          (pss_one (ps_aug (i := 1) sc_condition_calls.nd rfl (Or.inl rfl) (pe_call G_calls_within hr rfl T.g_calls_within T.d_calls_within.kp (b_calls_within T) .nil pass0 (pa_cons (pv 3) pa_nil)) iop_ext)))))
    (pss_one (ps_ret (pv 1)))))), ?_⟩
    show tSeq _ _ _ [some v, none, none, none] H
    walk_at "K"
    walk_at "go"
    intro f hf
    walk_at "go"
    have x1 := Ex.new (o := .lst []) hf
    refine ⟨v, c, e, d, H, rfl, x1, hc, hd, hn, fun l ys H1 x2 hl0 hl hys => ?_⟩
    have hne : l ≠ f := (ne_of_none upd_same hl0).symm
    have hf1 := x2 _ _ (upd_same (H := H) (a := f) (o := .lst []))
    have x12 := x1.trans x2
    have hlen := pr_len hys
    have keep : ∀ {H2 : Hp} {o : HO}, Ex H H2 → Ex H (L2.upd H2 f o) := fun x b u hb => (upd_ne fun z => by rw [z, hf] at hb; cases hb).trans (x _ _ hb)
    clear x1 x2
    walk_at "go"
    refine for_it (walk_list (xs := ys)) (fun i σ H' => (∃ y2 y3, σ = [some v, some (.ref f), y2, y3]) ∧ Ex H H' ∧ H' l = some (.lst ys) ∧ H' f = some (.lst ((ccnss (c.atoms.take i)).map V.str))) ⟨⟨_, _, rfl⟩, x12, hl, hf1⟩ (fun i σ H' _ h => SqL.of h.2.2.1) ?_ ?_
    · rintro i x σ H2 H2' hi ⟨⟨y2, y3, rfl⟩, x2, hl2, hf2⟩ ⟨rfl, hx⟩
      obtain ⟨a, ha, hv⟩ := pr_get hys hx
      have hat := c.atoms_atom a (List.mem_of_getElem? ha)
      have e1 := ccnss_get ha
      have h1 := ccnss_take (l := c.atoms) (k := i + 1)
      rw [e1, List.length_append] at h1
      have hcn : (ccnss c.atoms).length ≤ 100000 := hm
      walk_at "go"
      refine ⟨x, a, e, 1, H, rfl, x2, hv, hat, fun l3 zs H3 x3 hl30 hl3 hzs => ?_⟩
      have hne3 : l3 ≠ f := (ne_of_none hf2 hl30).symm
      have hll3 : l ≠ l3 := ne_of_none hl2 hl30
      have hlen3 := pr_len hzs
      walk_at "go"
      refine for_it (walk_list (xs := zs)) (fun i' σ H' => (∃ y3, σ = [some v, some (.ref f), some x, y3]) ∧ Ex H H' ∧ H' l = some (.lst ys) ∧ H' l3 = some (.lst zs) ∧ H' f = some (.lst ((ccnss (c.atoms.take i) ++ Tm.cnss (a.tms.take i')).map V.str))) ⟨⟨_, rfl⟩, x2.trans x3, x3 _ _ hl2, hl3, by
        have := x3 _ _ hf2
        simpa [Tm.cnss] using this⟩ (fun i σ H' _ h => SqL.of h.2.2.2.1) ?_ ?_
      · rintro i' z σ H4 H4' hi' ⟨⟨y3, rfl⟩, x4, hl4, hl34, hf4⟩ ⟨rfl, hz⟩
        obtain ⟨t, ht, htv⟩ := pr_get hzs hz
        have f1 := cnss_getT ht
        have f2 := Tm.cnss_take (l := a.tms) (k := i' + 1)
        rw [f1, List.length_append] at f2
        have f3 : (Tm.cnss a.tms).length = a.acns.length := rfl
        have hdt := htv.depth
        walk_at "go"
        refine ⟨z, t, e, rfl, htv.ex x4, by omega, by omega, fun q H5 x5 hq0 hq => ?_⟩
        walk_at "go"
        refine ⟨f, q, _, _, rfl, rfl, x5 _ _ hf4, hq, ?_, ?_⟩
        · rw [List.length_map, List.length_map, List.length_append]
          exact Nat.le_trans (show _ ≤ 100000 by omega) (by decide)
        · walk_at "go"
          rw [← List.map_append, List.append_assoc, ← f1]
          exact ⟨⟨_, rfl⟩, keep (x4.trans x5), (upd_ne hne).trans (x5 _ _ hl4), (upd_ne hne3).trans (x5 _ _ hl34), upd_same⟩
      · rintro σ H4 ⟨⟨y3, rfl⟩, x4, hl4, hl34, hf4⟩
        walk_at "go"
        rw [hlen3, List.take_length] at hf4
        refine ⟨⟨_, _, rfl⟩, x4, hl4, ?_⟩
        rw [e1]
        exact hf4
    · rintro σ H2 ⟨⟨y2, y3, rfl⟩, x2, hl2, hf2⟩
      walk_at "go"
      rw [hlen, List.take_length] at hf2
      exact hQ f H2 x2 hf hf2
end
end PW
/-! ### a condition made -/
namespace PW
open PySem PySem.Spec PyProof.Rows L2
theorem cd_new {K : PySem.W.Frag} {H : Hp} {b p : Addr} {xs : List V} {e d : Nat} {c : Cd} {u : HO} (hb : H b = some u) (hp : H p = none) (r : CdRow (IsCd K (hide H b) e d) (IsTm K (hide H b) e) xs c) : IsCd K (hide (L2.upd H p (.tup xs)) b) e (d + 1) (.ref p) c := by
  have x : Ex (hide H b) (hide (L2.upd H p (.tup xs)) b) := (Ex.new hp).hides b
  exact IsCd.mk (hide_new hb hp) (r.imp (fun _ _ z => z.ex x) fun _ _ z => z.ex x)
end PW
/-! ### trees of comparisons -/
namespace PW
open PySem PySem.Spec PyProof.Rows L2
namespace Tm
mutual
theorem lay {n m q : Nat} : ∀ t : Tm, t.ok n m q → t.pd.canLay0 = true
  | .num i, _ => by simp only [pd, PyData.canLay0, PyData.canLayAll0]; decide +kernel
  | .nam z, h => by
    have h : isNameZ z = true := by simpa only [ok] using h
    have hz := nm_ok (ns := [z]) (fun y hy => by rw [List.mem_singleton.mp hy]; exact isNm_iff.mp h) z List.mem_cons_self
    simp only [pd, PyData.canLay0, PyData.canLayAll0, hz]
    decide +kernel
  | .add a b, h => by
    have h : ok n m q a ∧ ok n m q b := by simpa only [ok] using h
    simp only [pd, PyData.canLay0, PyData.canLayAll0, lay a h.1, lay b h.2]
    decide +kernel
  | .sub a b, h => by
    have h : ok n m q a ∧ ok n m q b := by simpa only [ok] using h
    simp only [pd, PyData.canLay0, PyData.canLayAll0, lay a h.1, lay b h.2]
    decide +kernel
  | .tim i a, h => by
    have h : i.natAbs < m ∧ ok n m q a := by simpa only [ok] using h
    simp only [pd, PyData.canLay0, PyData.canLayAll0, lay a h.2]
    decide +kernel
  | .pow a, h => by
    have h : ok n m q a := by simpa only [ok] using h
    simp only [pd, PyData.canLay0, PyData.canLayAll0, lay a h]
    decide +kernel
  | .len a, h => by
    have h : ok n m q a := by simpa only [ok] using h
    simp only [pd, PyData.canLay0, PyData.canLayAll0, lay a h]
    decide +kernel
  | .quo a i, h => by
    have h : (1 ≤ i ∧ i < (q : Nat)) ∧ ok n m q a := by simpa only [ok] using h
    simp only [pd, PyData.canLay0, PyData.canLayAll0, lay a h.2]
    decide +kernel
  | .cal f as, h => by
    have h : isNameZ f = true ∧ as.length ≤ 3 ∧ oks n m q as := by simpa only [ok] using h
    have hz := nm_ok (ns := [f]) (fun y hy => by rw [List.mem_singleton.mp hy]; exact isNm_iff.mp h.1) f List.mem_cons_self
    simp only [pd, PyData.canLay0, PyData.canLayAll0, hz, lays as h.2.2]
    decide +kernel
theorem lays {n m q : Nat} : ∀ as : List Tm, oks n m q as → PyData.canLayAll0 (pds as) = true
  | [], _ => rfl
  | a :: r, h => by
    have h : ok n m q a ∧ oks n m q r := by simpa only [oks] using h
    simp only [pds, PyData.canLayAll0, lay a h.1, lays r h.2]
    rfl
end
end Tm
theorem Cd.lay : ∀ c : Cd, c.ok → c.pd.canLay0 = true
  | .tru, _ => by decide +kernel
  | .neg c, h => by
    simp only [Cd.pd, PyData.canLay0, PyData.canLayAll0, Cd.lay c h]
    decide +kernel
  | .con a b, h => by
    simp only [Cd.pd, PyData.canLay0, PyData.canLayAll0, Cd.lay a h.1, Cd.lay b h.2]
    decide +kernel
  | .dis a b, h => by
    simp only [Cd.pd, PyData.canLay0, PyData.canLayAll0, Cd.lay a h.1, Cd.lay b h.2]
    decide +kernel
  | .less s t, h => by
    simp only [Cd.pd, PyData.canLay0, PyData.canLayAll0, Tm.lay s h.1, Tm.lay t h.2]
    decide +kernel
  | .equ s t, h => by
    simp only [Cd.pd, PyData.canLay0, PyData.canLayAll0, Tm.lay s h.1, Tm.lay t h.2]
    decide +kernel
  | .res t m r, h => by
    simp only [Cd.pd, PyData.canLay0, PyData.canLayAll0, Tm.lay t h.1]
    decide +kernel
/-- a list of comparisons -/
structure AtL (K : PySem.W.Frag) (H : Hp) (e X : Nat) (l : Addr) (vs : List V) (as : List Cd) : Prop where
  at_ : H l = some (.lst vs)
  prd : Paired (IsCd K H e 1) vs as
  few : as.length ≤ 1000
  ok : ∀ a ∈ as, a.ok
  atm : ∀ a ∈ as, a.isAtom = true
  cst : ∀ a ∈ as, a.cost ≤ X
theorem AtL.ex {K : PySem.W.Frag} {H H' : Hp} {e X : Nat} {l : Addr} {vs : List V} {as : List Cd} (x : Ex H H') (h : AtL K H e X l vs as) : AtL K H' e X l vs as := ⟨x _ _ h.at_, prd_exC x h.prd, h.few, h.ok, h.atm, h.cst⟩
theorem dp_cds {K : PySem.W.Frag} {H : Hp} {e d : Nat} : ∀ {vs : List V} {as : List Cd}, Paired (IsCd K H e d) vs as → DpAll K H vs (as.map Cd.pd)
  | _, _, .nil => .nil
  | _, _, .cons a r => .cons a.dat (dp_cds r)
theorem shaped_cds {as : List Cd} {n : Nat} (ok : ∀ a ∈ as, a.ok) (hd : ∀ a ∈ as, a.dep ≤ 1 ∧ a.tdep n) (hn : n ≤ 20) : SeqAt.shaped (.list (as.map Cd.pd)) = true := by
  have h1 : PyData.canLayAll0 (as.map Cd.pd) = true := by
    clear hd
    induction as with
    | nil => rfl
    | cons a r ih =>
      simp only [List.map_cons, PyData.canLayAll0, Cd.lay a (ok a List.mem_cons_self), ih fun x hx => ok x (List.mem_cons_of_mem _ hx)]
      rfl
  have h2 : PyData.depthAll (as.map Cd.pd) ≤ 41 := by
    clear ok h1
    induction as with
    | nil => exact Nat.zero_le _
    | cons a r ih =>
      have q := hd a List.mem_cons_self
      have := Cd.pd_depth a q.2
      have := ih fun x hx => hd x (List.mem_cons_of_mem _ hx)
      simp only [List.map_cons, PyData.depthAll]
      omega
  unfold SeqAt.shaped
  simp only [PyData.canLay0, PyData.depth]
  rw [h1, Bool.true_and]
  exact decide_eq_true (by omega)
theorem eqv_cds {as : List Cd} : PyData.eqv (.list (as.map Cd.pd)) (.list []) = as.isEmpty := by
  cases as <;> rfl
theorem atom_dep {a : Cd} (h : a.isAtom = true) : a.dep = 1 := by
  cases a <;> first | rfl | cases h
theorem atom_atoms {a : Cd} (h : a.isAtom = true) : a.atoms = [a] := by
  cases a <;> first | rfl | cases h
end PW
/-! ### tuples stay -/
namespace PW
open PySem PySem.Spec PyProof.Rows L2
def TE (H H' : Hp) : Prop := ∀ p ys, H p = some (.tup ys) → H' p = some (.tup ys)
theorem TE.trans {H H1 H2 : Hp} (x : TE H H1) (y : TE H1 H2) : TE H H2 := fun p ys h => y p ys (x p ys h)
theorem TE.of {H H' : Hp} (x : Ex H H') : TE H H' := fun p ys h => x p _ h
theorem TE.upd {H : Hp} {D : Addr} {l l' : List V} (h : H D = some (.lst l)) : TE H (L2.upd H D (.lst l')) := fun p ys hp => (upd_ne fun z => by
  rw [z, h] at hp
  cases hp).trans hp
theorem TE.hid {H : Hp} {D : Addr} {l : List V} (h : H D = some (.lst l)) : TE H (hide H D) := fun p ys hp => (hide_ne fun z => by
  rw [z, h] at hp
  cases hp).trans hp
theorem TE.bag {H H' : Hp} {b c : Addr} (hB : BagAt H b c) (x : ExB b H H') : TE H H' := fun p ys hp => x p _ (fun z => by
  obtain ⟨cells, i, g, s, h, _⟩ := hB
  rw [z, h] at hp
  cases hp) hp
theorem TE.hidB {H : Hp} {b c : Addr} (hB : BagAt H b c) : TE H (hide H b) := by
  obtain ⟨cells, i, g, s, h, _⟩ := hB
  exact TE.hid h
theorem IsTm.te {K : PySem.W.Frag} {H H' : Hp} (x : TE H H') : ∀ {d : Nat} {v : V} {t : Tm}, IsTm K H d v t → IsTm K H' d v t
  | 0, _, _, h => h.elim
  | d + 1, v, t, h => by
    obtain ⟨p, xs, e, h1, h2⟩ := h
    exact ⟨p, xs, e, x _ _ h1, h2.imp (fun q => x _ _ q) fun _ _ z => IsTm.te x z⟩
theorem IsCd.te {K : PySem.W.Frag} {H H' : Hp} {e : Nat} (x : TE H H') : ∀ {d : Nat} {v : V} {c : Cd}, IsCd K H e d v c → IsCd K H' e d v c
  | 0, _, _, h => h.elim
  | d + 1, v, c, h => by
    obtain ⟨p, xs, e, h1, h2⟩ := h
    exact ⟨p, xs, e, x _ _ h1, h2.imp (fun _ _ z => IsCd.te x z) fun _ _ z => z.te x⟩
theorem prd_teC {K : PySem.W.Frag} {H H' : Hp} (x : TE H H') {e d : Nat} {ys : List V} {as : List Cd} (h : Paired (IsCd K H e d) ys as) : Paired (IsCd K H' e d) ys as := L2.Paired.mapP h fun _ _ z => z.te x
end PW
/-! ### terms and conditions at hand, by one record -/
namespace PW
open PySem PySem.Spec PyProof.Rows L2
structure St (K : PySem.W.Frag) (H : Hp) (kt : List (Nat × V × Tm)) (kc : List (Nat × Nat × V × Cd)) : Prop where
  tms : ∀ p ∈ kt, IsTm K H p.1 p.2.1 p.2.2
  cds : ∀ p ∈ kc, IsCd K H p.1 p.2.1 p.2.2.1 p.2.2.2
section
variable {K : PySem.W.Frag} {H H' : Hp} {kt : List (Nat × V × Tm)} {kc : List (Nat × Nat × V × Cd)} {d e i : Nat} {v : V} {t : Tm} {c : Cd} {p : Addr} {xs : List V}
theorem St.nil : St K H [] [] := ⟨fun _ h => (nomatch h), fun _ h => (nomatch h)⟩
theorem St.te (s : St K H kt kc) (x : TE H H') : St K H' kt kc := ⟨fun p h => (s.tms p h).te x, fun p h => (s.cds p h).te x⟩
theorem St.ex (s : St K H kt kc) (x : Ex H H') : St K H' kt kc := s.te (TE.of x)
theorem St.new (s : St K H kt kc) {o : HO} (h : H p = none) : St K (L2.upd H p o) kt kc := s.ex (Ex.new h)
theorem St.pull {b c : Addr} (s : St K H kt kc) (hB : BagAt H b c) (x : ExB b H H') : St K H' kt kc := s.te (TE.bag hB x)
theorem St.tm (s : St K H kt kc) (i : Nat) (h : kt[i]? = some (d, v, t)) : IsTm K H d v t := s.tms _ (List.mem_of_getElem? h)
theorem St.cd (s : St K H kt kc) (i : Nat) (h : kc[i]? = some (e, d, v, c)) : IsCd K H e d v c := s.cds _ (List.mem_of_getElem? h)
theorem St.addT (s : St K H kt kc) (h : IsTm K H d v t) : St K H ((d, v, t) :: kt) kc := ⟨fun p hp => by
  rcases List.mem_cons.mp hp with rfl | hp
  · exact h
  · exact s.tms p hp, s.cds⟩
theorem St.addC (s : St K H kt kc) (h : IsCd K H e d v c) : St K H kt ((e, d, v, c) :: kc) := ⟨s.tms, fun p hp => by
  rcases List.mem_cons.mp hp with rfl | hp
  · exact h
  · exact s.cds p hp⟩
theorem St.mkT (s : St K H kt kc) (hp : H p = none) (r : TmRow K H (IsTm K H d) xs t) : St K (L2.upd H p (.tup xs)) ((d + 1, .ref p, t) :: kt) kc := by
  have x := Ex.new (o := .tup xs) hp
  exact (s.ex x).addT (IsTm.mk upd_same (r.imp (fun q => x _ _ q) fun _ _ z => z.ex x))
theorem St.mkC (s : St K H kt kc) (hp : H p = none) (r : CdRow (IsCd K H e d) (IsTm K H e) xs c) : St K (L2.upd H p (.tup xs)) kt ((e, d + 1, .ref p, c) :: kc) := by
  have x := Ex.new (o := .tup xs) hp
  exact (s.ex x).addC (IsCd.mk upd_same (r.imp (fun _ _ z => z.ex x) fun _ _ z => z.ex x))
end
end PW
/-! ### a flat term without the unknown -/
namespace PW
open PySem PySem.Spec PyProof.Rows L2
namespace Tm
/-- unknowns and their powers are replaced by zero -/
def wo (us : List Str) : Tm → Tm
  | .nam z => if z ∈ us then .num 0 else .nam z
  | .pow (.nam z) => if z ∈ us then .num 0 else .pow (.nam z)
  | .tim i a => .tim i (wo us a)
  | .add a b => .add (wo us a) (wo us b)
  | .sub a b => .sub (wo us a) (wo us b)
  | t => t
theorem wo_ok {us : List Str} {n m q : Nat} (hn : 0 < n) : ∀ {t : Tm}, t.ok n m q → (wo us t).ok n m q
  | .num _, h => by simpa only [wo] using h
  | .nam z, h => by
    simp only [wo]
    split
    · simp only [ok]
      exact hn
    · exact h
  | .add a b, h => by
    simp only [wo, ok] at h ⊢
    exact ⟨wo_ok hn h.1, wo_ok hn h.2⟩
  | .sub a b, h => by
    simp only [wo, ok] at h ⊢
    exact ⟨wo_ok hn h.1, wo_ok hn h.2⟩
  | .tim i a, h => by
    simp only [wo, ok] at h ⊢
    exact ⟨h.1, wo_ok hn h.2⟩
  | .pow a, h => by
    cases a with
    | nam z =>
      simp only [wo]
      split
      · simp only [ok]
        exact hn
      · exact h
    | _ => simpa only [wo] using h
  | .len _, h => by simpa only [wo] using h
  | .quo _ _, h => by simpa only [wo] using h
  | .cal _ _, h => by simpa only [wo] using h
end Tm
theorem inV_mapW {z : Str} {ns : List Str} : inV (.str z) (ns.map V.str) = true ↔ z ∈ ns := by
  unfold inV
  rw [List.any_map, List.any_eq_true]
  constructor
  · rintro ⟨y, hy, e⟩
    have := eqV_str.mp e
    subst this
    exact hy
  · intro h
    exact ⟨z, h, eqV_str.mpr rfl⟩
theorem in_strs {z : Str} {us : List Str} : inV (.str z) (us.map V.str) = decide (z ∈ us) := by
  by_cases h : z ∈ us
  · rw [decide_eq_true h]
    exact inV_mapW.mpr h
  · rw [decide_eq_false h]
    exact Bool.eq_false_iff.mpr fun q => h (inV_mapW.mp q)
theorem flat_strW {us : List Str} : (us.map V.str).all flatV = true := List.all_eq_true.mpr fun y hy => by
  obtain ⟨z, _, rfl⟩ := List.mem_map.mp hy
  rfl
def spWo (K : PySem.W.Frag) (n : Nat) : Sp := fun vs H Q _ => ∃ v l t d us, vs = [v, .ref l] ∧ IsTm K H d v t ∧ H l = some (.lst (us.map V.str)) ∧ t.dep ≤ n + 1 ∧ ∀ v' H', Ex H H' → IsTm K H' d v' (t.wo us) → Q v' H'
section
variable {P : Program} {w : World} {K : PySem.W.Frag} {mg : Str → Option Value} {base : Heap}
theorem ok1_without {k n : Nat} {spj : Sp} (T : Txt K mg) (hj : n = 0 ∨ ∃ j, n = j + 1 ∧ spj = spWo K j)
    (G_without : FnOk P w K mg base CX0 k (He.ga K "without") (fdOf K (He.ga K "without")) p_without (spj)) : FnOk P w K mg base CX0 (k + 1) (He.ga K "without") (fdOf K (He.ga K "without")) p_without (spWo K n) := by
  refine FunD.ok T.d_without sc_without (fun vs H Q E h => ?_) (fun cdv A outer s H vs Q E hr h => ?_)
  · obtain ⟨v, l, t, d, us, rfl, _⟩ := h
    rfl
  · obtain ⟨v, l, t, d, us, rfl, ht, hl, hd, hQ⟩ := h
    refine ⟨_, PSs.nox ((pss_cons (ps_set (i := 2) sc_without.nd rfl (Or.inl rfl) (pe_ix ix_seq (pv 0) pe_int (fun _ _ => rfl)))
    (pss_cons (ps_if (pt_cmpR op_eq (pv 2) pe_str (nomark _))
      (pss_one (ps_ret (pe_ifExp (pt_cmpR op_in_seq (pe_ix ix_seq (pv 0) pe_int (fun _ _ => rfl)) (pv 1) rfl) (pe_tup (pa_cons pe_str (pa_cons pe_int pa_nil))) (pv 0))))
      pss_nil)
    (pss_cons (ps_if (pt_cmpR op_eq (pv 2) pe_str (nomark _))
      (pss_one (ps_ret (pe_ifExp (PW.pt (pw_and (pt_cmpR op_eq (pe_ix ix_seq (pe_ix ix_seq (pv 0) pe_int (fun _ _ => rfl)) pe_int (fun _ _ => rfl)) pe_str (nomark _)) (pw_and1 (pt_cmpR op_in_seq (pe_ix ix_seq (pe_ix ix_seq (pv 0) pe_int (fun _ _ => rfl)) pe_int (fun _ _ => rfl)) (pv 1) rfl)))) (pe_tup (pa_cons pe_str (pa_cons pe_int pa_nil))) (pv 0))))
      pss_nil)
    (pss_cons (ps_if (pt_cmpR op_eq (pv 2) pe_str (nomark _))
      (pss_one (ps_ret (pe_tup (pa_cons pe_str (pa_cons (pe_ix ix_seq (pv 0) pe_int (fun _ _ => rfl)) (pa_cons (pe_call G_without hr rfl T.g_without T.d_without.kp (b_without T) .nil pass0 (pa_cons (pe_ix ix_seq (pv 0) pe_int (fun _ _ => rfl)) (pa_cons (pv 1) pa_nil))) pa_nil))))))
      pss_nil)
    (pss_cons (ps_if (pt_cmpR op_in_seq (pv 2) (pe_tup (pa_cons pe_str (pa_cons pe_str pa_nil))) rfl)
      (pss_one (ps_ret (pe_tup (pa_cons (pv 2) (pa_cons (pe_call G_without hr rfl T.g_without T.d_without.kp (b_without T) .nil pass0 (pa_cons (pe_ix ix_seq (pv 0) pe_int (fun _ _ => rfl)) (pa_cons (pv 1) pa_nil))) (pa_cons (pe_call G_without hr rfl T.g_without T.d_without.kp (b_without T) .nil pass0 (pa_cons (pe_ix ix_seq (pv 0) pe_int (fun _ _ => rfl)) (pa_cons (pv 1) pa_nil))) pa_nil))))))
      pss_nil)
    (pss_one (ps_ret (pv 0))))))))), ?_⟩
    show tSeq _ _ _ [some v, some (.ref l), none] H
    walk_at "K"
    have ht0 := ht
    obtain ⟨d, rfl⟩ : ∃ e, d = e + 1 := ⟨d - 1, by
      have := ht.depth
      have := t.dep_pos
      omega⟩
    obtain ⟨p, xs, rfl, hs, row⟩ := ht
    have sub : ∀ {x : V} {a : Tm}, IsTm K H d x a → a.dep ≤ n → ∀ (H1 : Hp) (Q1 : VK) (E1 : XK), Ex H H1 → (∀ v' H', Ex H1 H' → IsTm K H' d v' (a.wo us) → Q1 v' H') → spj [x, .ref l] H1 Q1 E1 := fun {x a} h1 h2 H1 Q1 E1 x1 q => by
      have hp := a.dep_pos
      obtain ⟨j, rfl, rfl⟩ : ∃ j, n = j + 1 ∧ spj = spWo K j := hj.elim (fun z => by omega) id
      exact ⟨x, l, a, d, us, rfl, h1.ex x1, x1 _ _ hl, h2, q⟩
    cases t with
    | nam z =>
      have row : xs = _ := row
      subst row
      walk_at "go"
      refine ⟨l, _, rfl, .inl (SqL.of hl), rfl, flat_strW, ?_⟩
      rw [in_strs]
      by_cases hz : z ∈ us
      · rw [decide_eq_true hz]
        walk_at "go"
        intro q hq
        refine hQ _ _ (Ex.new hq) ?_
        simp only [Tm.wo, if_pos hz]
        exact IsTm.mk upd_same rfl
      · rw [decide_eq_false hz]
        walk_at "go"
        refine hQ _ _ (Ex.refl _) ?_
        simp only [Tm.wo, if_neg hz]
        exact ht0
    | pow a =>
      obtain ⟨x, rfl, hx⟩ := row
      obtain ⟨d, rfl⟩ : ∃ e, d = e + 1 := ⟨d - 1, by
        have := hx.depth
        have := a.dep_pos
        omega⟩
      have hx0 := hx
      obtain ⟨p2, ys, rfl, hs2, row2⟩ := hx
      cases a with
      | nam z =>
        have row2 : ys = _ := row2
        subst row2
        walk_at "go"
        refine ⟨l, _, rfl, .inl (SqL.of hl), rfl, flat_strW, ?_⟩
        rw [in_strs]
        by_cases hz : z ∈ us
        · rw [decide_eq_true hz]
          walk_at "go"
          intro q hq
          refine hQ _ _ (Ex.new hq) ?_
          simp only [Tm.wo, if_pos hz]
          exact IsTm.mk upd_same rfl
        · rw [decide_eq_false hz]
          walk_at "go"
          refine hQ _ _ (Ex.refl _) ?_
          simp only [Tm.wo, if_neg hz]
          exact ht0
      | num i =>
        obtain ⟨r, er⟩ := row2.head
        simp only [Tm.word] at er
        subst er
        walk_at "go"
        exact hQ _ _ (Ex.refl _) (by simp only [Tm.wo]; exact ht0)
      | add a b =>
        obtain ⟨r, er⟩ := row2.head
        simp only [Tm.word] at er
        subst er
        walk_at "go"
        exact hQ _ _ (Ex.refl _) (by simp only [Tm.wo]; exact ht0)
      | sub a b =>
        obtain ⟨r, er⟩ := row2.head
        simp only [Tm.word] at er
        subst er
        walk_at "go"
        exact hQ _ _ (Ex.refl _) (by simp only [Tm.wo]; exact ht0)
      | tim i a =>
        obtain ⟨r, er⟩ := row2.head
        simp only [Tm.word] at er
        subst er
        walk_at "go"
        exact hQ _ _ (Ex.refl _) (by simp only [Tm.wo]; exact ht0)
      | pow a =>
        obtain ⟨r, er⟩ := row2.head
        simp only [Tm.word] at er
        subst er
        walk_at "go"
        exact hQ _ _ (Ex.refl _) (by simp only [Tm.wo]; exact ht0)
      | len a =>
        obtain ⟨r, er⟩ := row2.head
        simp only [Tm.word] at er
        subst er
        walk_at "go"
        exact hQ _ _ (Ex.refl _) (by simp only [Tm.wo]; exact ht0)
      | quo a i =>
        obtain ⟨r, er⟩ := row2.head
        simp only [Tm.word] at er
        subst er
        walk_at "go"
        exact hQ _ _ (Ex.refl _) (by simp only [Tm.wo]; exact ht0)
      | cal f as =>
        obtain ⟨r, er⟩ := row2.head
        simp only [Tm.word] at er
        subst er
        walk_at "go"
        exact hQ _ _ (Ex.refl _) (by simp only [Tm.wo]; exact ht0)
    | tim i a =>
      obtain ⟨x, rfl, hx⟩ := row
      simp only [Tm.dep] at hd
      walk_at "go"
      refine sub hx (by omega) _ _ _ (Ex.refl _) fun v' H1 x1 hv => ?_
      walk_at "go"
      intro q hq
      refine hQ _ _ (x1.trans (Ex.new hq)) ?_
      simp only [Tm.wo]
      exact IsTm.mk upd_same ⟨_, rfl, hv.ex (Ex.new hq)⟩
    | add a b =>
      obtain ⟨x, y, rfl, hx, hy⟩ := row
      simp only [Tm.dep] at hd
      walk_at "go"
      intro a2 ha2
      have xa := Ex.new (o := .tup [V.str "add", V.str "subtract"]) ha2
      have hs1 := xa _ _ hs
      walk_at "go"
      refine sub hx (by omega) _ _ _ xa fun v1 H1 x1 hv1 => ?_
      have hs2 := x1 _ _ hs1
      walk_at "go"
      refine sub hy (by omega) _ _ _ (xa.trans x1) fun v2 H2 x2 hv2 => ?_
      walk_at "go"
      intro q hq
      refine hQ _ _ (((xa.trans x1).trans x2).trans (Ex.new hq)) ?_
      simp only [Tm.wo]
      exact IsTm.mk upd_same ⟨_, _, rfl, (hv1.ex x2).ex (Ex.new hq), hv2.ex (Ex.new hq)⟩
    | sub a b =>
      obtain ⟨x, y, rfl, hx, hy⟩ := row
      simp only [Tm.dep] at hd
      walk_at "go"
      intro a2 ha2
      have xa := Ex.new (o := .tup [V.str "add", V.str "subtract"]) ha2
      have hs1 := xa _ _ hs
      walk_at "go"
      refine sub hx (by omega) _ _ _ xa fun v1 H1 x1 hv1 => ?_
      have hs2 := x1 _ _ hs1
      walk_at "go"
      refine sub hy (by omega) _ _ _ (xa.trans x1) fun v2 H2 x2 hv2 => ?_
      walk_at "go"
      intro q hq
      refine hQ _ _ (((xa.trans x1).trans x2).trans (Ex.new hq)) ?_
      simp only [Tm.wo]
      exact IsTm.mk upd_same ⟨_, _, rfl, (hv1.ex x2).ex (Ex.new hq), hv2.ex (Ex.new hq)⟩
    | num i =>
      obtain ⟨r, er⟩ := row.head
      simp only [Tm.word] at er
      subst er
      walk_at "go"
      intro a2 ha2
      have xa := Ex.new (o := .tup [V.str "add", V.str "subtract"]) ha2
      refine ⟨a2, _, rfl, .inr (SqT.of upd_same), rfl, rfl, _, rfl, r_ifF' (by decide +kernel) ?_⟩
      walk_at "go"
      exact hQ _ _ xa (by simp only [Tm.wo]; exact ht0.ex xa)
    | len a =>
      obtain ⟨r, er⟩ := row.head
      simp only [Tm.word] at er
      subst er
      walk_at "go"
      intro a2 ha2
      have xa := Ex.new (o := .tup [V.str "add", V.str "subtract"]) ha2
      refine ⟨a2, _, rfl, .inr (SqT.of upd_same), rfl, rfl, _, rfl, r_ifF' (by decide +kernel) ?_⟩
      walk_at "go"
      exact hQ _ _ xa (by simp only [Tm.wo]; exact ht0.ex xa)
    | quo a i =>
      obtain ⟨r, er⟩ := row.head
      simp only [Tm.word] at er
      subst er
      walk_at "go"
      intro a2 ha2
      have xa := Ex.new (o := .tup [V.str "add", V.str "subtract"]) ha2
      refine ⟨a2, _, rfl, .inr (SqT.of upd_same), rfl, rfl, _, rfl, r_ifF' (by decide +kernel) ?_⟩
      walk_at "go"
      exact hQ _ _ xa (by simp only [Tm.wo]; exact ht0.ex xa)
    | cal f as =>
      obtain ⟨r, er⟩ := row.head
      simp only [Tm.word] at er
      subst er
      walk_at "go"
      intro a2 ha2
      have xa := Ex.new (o := .tup [V.str "add", V.str "subtract"]) ha2
      refine ⟨a2, _, rfl, .inr (SqT.of upd_same), rfl, rfl, _, rfl, r_ifF' (by decide +kernel) ?_⟩
      walk_at "go"
      exact hQ _ _ xa (by simp only [Tm.wo]; exact ht0.ex xa)
theorem ok_without {k : Nat} (T : Txt K mg) : ∀ n, FnOk P w K mg base CX0 (k + n + 1) (He.ga K "without") (fdOf K (He.ga K "without")) p_without (spWo K n)
  | 0 => ok1_without (spj := spNo) T (.inl rfl) fnOk_no
  | n + 1 => ok1_without T (.inr ⟨n, rfl, rfl⟩) (ok_without T n)
end
end PW
/-! ### how often a term has the unknown -/
namespace PW
open PySem PySem.Spec PyProof.Rows L2
namespace Tm
/-- how often a flat term has the power of an unknown, and the unknown itself -/
def mul (u : Str) : Tm → Int × Int
  | .nam z => (0, if z = u then 1 else 0)
  | .pow (.nam z) => (if z = u then 1 else 0, 0)
  | .tim i a => (i * (mul u a).1, i * (mul u a).2)
  | .add a b => ((mul u a).1 + (mul u b).1, (mul u a).2 + (mul u b).2)
  | .sub a b => ((mul u a).1 - (mul u b).1, (mul u a).2 - (mul u b).2)
  | _ => (0, 0)
theorem pow_pd (u : Str) (a : Tm) : ((if PyData.eqv a.pd (.tuple [.str "name", .str u]) then 1 else 0 : Int), (0 : Int)) = mul u (.pow a) := by
  cases a with
  | nam z =>
    show ((if ((("name" : Str) == "name") && ((z == u) && true)) = true then 1 else 0 : Int), (0 : Int)) = (if z = u then 1 else 0, 0)
    by_cases e : z = u
    · subst e
      simp
    · rw [if_neg e, beq_eq_false_iff_ne.mpr e]
      rfl
  | cal f as => rfl
  | _ => rfl
theorem mul_lim (u : Str) {n m q : Nat} (hm : m ≤ 2 ^ 100) : ∀ {t : Tm}, t.ok n m q → (mul u t).1.natAbs < 2 ^ (101 * t.dep) ∧ (mul u t).2.natAbs < 2 ^ (101 * t.dep)
  | .num _, _ => ⟨Nat.two_pow_pos _, Nat.two_pow_pos _⟩
  | .nam z, _ => by
    have : (1 : Nat) < 2 ^ (101 * dep (.nam z)) := Nat.one_lt_two_pow (by have := dep_pos (.nam z); omega)
    simp only [mul]
    refine ⟨Nat.two_pow_pos _, ?_⟩
    split
    · exact this
    · exact Nat.two_pow_pos _
  | .pow a, _ => by
    have h1 : (1 : Nat) < 2 ^ (101 * dep (.pow a)) := Nat.one_lt_two_pow (by have := dep_pos (.pow a); omega)
    rw [← pow_pd]
    refine ⟨?_, Nat.two_pow_pos _⟩
    show (if _ then 1 else 0 : Int).natAbs < _
    split
    · exact h1
    · exact Nat.two_pow_pos _
  | .len _, _ => ⟨Nat.two_pow_pos _, Nat.two_pow_pos _⟩
  | .quo _ _, _ => ⟨Nat.two_pow_pos _, Nat.two_pow_pos _⟩
  | .cal _ _, _ => ⟨Nat.two_pow_pos _, Nat.two_pow_pos _⟩
  | .tim i a, h => by
    have h : i.natAbs < m ∧ a.ok n m q := by simpa only [ok] using h
    obtain ⟨h1, h2⟩ := mul_lim u hm h.2
    have e : 101 * dep (.tim i a) = 100 + 101 * a.dep + 1 := by simp only [dep]; omega
    have hi : i.natAbs < 2 ^ 100 := Nat.lt_of_lt_of_le h.1 hm
    have go : ∀ x : Int, x.natAbs < 2 ^ (101 * a.dep) → (i * x).natAbs < 2 ^ (100 + 101 * a.dep + 1) := fun x hx => by
      rw [Int.natAbs_mul]
      refine Nat.lt_of_lt_of_le (Nat.mul_lt_mul'' hi hx) ?_
      rw [← Nat.pow_add]
      exact Nat.pow_le_pow_right (by decide) (by omega)
    rw [e]
    exact ⟨go _ h1, go _ h2⟩
  | .add a b, h => by
    have h : a.ok n m q ∧ b.ok n m q := by simpa only [ok] using h
    obtain ⟨h1, h2⟩ := mul_lim u hm h.1
    obtain ⟨h3, h4⟩ := mul_lim u hm h.2
    have e1 : 2 ^ (101 * a.dep) * 2 ≤ 2 ^ (101 * dep (.add a b)) := by
      rw [← Nat.pow_succ]
      exact Nat.pow_le_pow_right (by decide) (by simp only [dep]; omega)
    have e2 : 2 ^ (101 * b.dep) * 2 ≤ 2 ^ (101 * dep (.add a b)) := by
      rw [← Nat.pow_succ]
      exact Nat.pow_le_pow_right (by decide) (by simp only [dep]; omega)
    simp only [mul]
    omega
  | .sub a b, h => by
    have h : a.ok n m q ∧ b.ok n m q := by simpa only [ok] using h
    obtain ⟨h1, h2⟩ := mul_lim u hm h.1
    obtain ⟨h3, h4⟩ := mul_lim u hm h.2
    have e1 : 2 ^ (101 * a.dep) * 2 ≤ 2 ^ (101 * dep (.sub a b)) := by
      rw [← Nat.pow_succ]
      exact Nat.pow_le_pow_right (by decide) (by simp only [dep]; omega)
    have e2 : 2 ^ (101 * b.dep) * 2 ≤ 2 ^ (101 * dep (.sub a b)) := by
      rw [← Nat.pow_succ]
      exact Nat.pow_le_pow_right (by decide) (by simp only [dep]; omega)
    simp only [mul]
    omega
end Tm
/-- the term that tells the sign of a comparison, or the term of a remainder -/
def Cd.dif : Cd → Tm
  | .less a b => .sub b a
  | .equ a b => .sub b a
  | .res t _ _ => t
  | _ => .num 0
def spMult (K : PySem.W.Frag) (n : Nat) : Sp := fun vs H Q _ => ∃ v u t d N M R, vs = [v, .str u] ∧ IsTm K H d v t ∧ t.dep ≤ n + 1 ∧ t.ok N M R ∧ M ≤ 2 ^ 100 ∧ PyData.strOk u = true ∧ ∀ p H', Ex H H' → H' p = some (.tup [.int (t.mul u).1, .int (t.mul u).2]) → Q (.ref p) H'
theorem r_mulI {i j : Int} {H : Hp} {Q : VK} (h : CMulX i j) (q : Q (.int (i * j)) H) : rI CMulX (fun i j => V.int (i * j)) (.int i) (.int j) H Q := ⟨i, j, rfl, rfl, h, q⟩
def spDif (K : PySem.W.Frag) : Sp := fun vs H Q _ => ∃ v c e d, vs = [v] ∧ IsCd K H e d v c ∧ c.isAtom = true ∧ ∀ x H', Ex H H' → IsTm K H' (e + 1) x c.dif → Q x H'
section
variable {P : Program} {w : World} {K : PySem.W.Frag} {mg : Str → Option Value} {base : Heap}
theorem ok1_multiples {k n : Nat} {spj : Sp} (T : Txt K mg) (hj : n = 0 ∨ ∃ j, n = j + 1 ∧ spj = spMult K j) (hn20 : n ≤ 20)
    (G_multiples : FnOk P w K mg base CX0 k (He.ga K "multiples") (fdOf K (He.ga K "multiples")) p_multiples (spj)) : FnOk P w K mg base CX0 (k + 1) (He.ga K "multiples") (fdOf K (He.ga K "multiples")) p_multiples (spMult K n) := by
  refine FunD.ok T.d_multiples sc_multiples (fun vs H Q E h => ?_) (fun cdv A outer s H vs Q E hr h => ?_)
  · obtain ⟨v, u, t, d, N, M, R, rfl, _⟩ := h
    rfl
  · obtain ⟨v, u, t, d, N, M, R, rfl, ht, hd, ok, hM, hu, hQ⟩ := h
    refine ⟨_, PSs.nox ((pss_cons (ps_set (i := 2) sc_multiples.nd rfl (Or.inl rfl) (pe_ix ix_tup (pv 0) pe_int (fun _ _ => rfl)))
    (pss_cons (ps_if (pt_cmpR op_eq (pv 2) pe_str (nomark _))
      (pss_one (ps_ret (pe_tup (pa_cons pe_int (pa_cons (pe_ifExp (pt_cmpR op_eq (pe_ix ix_tup (pv 0) pe_int (fun _ _ => rfl)) (pv 1) (nomark _)) pe_int pe_int) pa_nil)))))
      pss_nil)
    (pss_cons (ps_if (pt_cmpR op_eq (pv 2) pe_str (nomark _))
      (pss_one (ps_ret (pe_tup (pa_cons (pe_ifExp (pt_cmpR (op_eqD hr.units) (pe_ix ix_tup (pv 0) pe_int (fun _ _ => rfl)) (pe_tup (pa_cons pe_str (pa_cons (pv 1) pa_nil))) (nomark _)) pe_int pe_int) (pa_cons pe_int pa_nil)))))
      pss_nil)
    (pss_cons (ps_if (pt_cmpR op_eq (pv 2) pe_str (nomark _))
      (pss_cons (ps_asg (pe_call G_multiples hr rfl T.g_multiples T.d_multiples.kp (b_multiples T) .nil pass0 (pa_cons (pe_ix ix_tup (pv 0) pe_int (fun _ _ => rfl)) (pa_cons (pv 1) pa_nil))) (pg_tup rfl (pgs_cons (pg_name (i := 3) sc_multiples.nd rfl (Or.inl rfl) (hf := by first | exact Or.inl rfl | exact Or.inr rfl)) (pgs_cons (pg_name (i := 4) sc_multiples.nd rfl (Or.inl rfl) (hf := by first | exact Or.inl rfl | exact Or.inr rfl)) pgs_nil))))
        (pss_one (ps_ret (pe_tup (pa_cons (pe_op op_mulX (pe_ix ix_tup (pv 0) pe_int (fun _ _ => rfl)) (pv 3)) (pa_cons (pe_op op_mulX (pe_ix ix_tup (pv 0) pe_int (fun _ _ => rfl)) (pv 4)) pa_nil))))))
      pss_nil)
    (pss_cons (ps_if (pt_cmpR op_notIn_seq (pv 2) (pe_tup (pa_cons pe_str (pa_cons pe_str pa_nil))) rfl)
      (pss_one (ps_ret (pe_tup (pa_cons pe_int (pa_cons pe_int pa_nil)))))
      pss_nil)
    (pss_cons (ps_asg (pe_call G_multiples hr rfl T.g_multiples T.d_multiples.kp (b_multiples T) .nil pass0 (pa_cons (pe_ix ix_tup (pv 0) pe_int (fun _ _ => rfl)) (pa_cons (pv 1) pa_nil))) (pg_tup rfl (pgs_cons (pg_name (i := 3) sc_multiples.nd rfl (Or.inl rfl) (hf := by first | exact Or.inl rfl | exact Or.inr rfl)) (pgs_cons (pg_name (i := 4) sc_multiples.nd rfl (Or.inl rfl) (hf := by first | exact Or.inl rfl | exact Or.inr rfl)) pgs_nil))))
    (pss_cons (ps_asg (pe_call G_multiples hr rfl T.g_multiples T.d_multiples.kp (b_multiples T) .nil pass0 (pa_cons (pe_ix ix_tup (pv 0) pe_int (fun _ _ => rfl)) (pa_cons (pv 1) pa_nil))) (pg_tup rfl (pgs_cons (pg_name (i := 5) sc_multiples.nd rfl (Or.inl rfl) (hf := by first | exact Or.inl rfl | exact Or.inr rfl)) (pgs_cons (pg_name (i := 6) sc_multiples.nd rfl (Or.inl rfl) (hf := by first | exact Or.inl rfl | exact Or.inr rfl)) pgs_nil))))
    (pss_one (ps_ret (pe_ifExp (pt_cmpR op_eq (pv 2) pe_str (nomark _)) (pe_tup (pa_cons (pe_op op_add (pv 3) (pv 5)) (pa_cons (pe_op op_add (pv 4) (pv 6)) pa_nil))) (pe_tup (pa_cons (pe_op op_sub (pv 3) (pv 5)) (pa_cons (pe_op op_sub (pv 4) (pv 6)) pa_nil)))))))))))))), ?_⟩
    show tSeq _ _ _ [some v, some (.str u), none, none, none, none, none] H
    walk_at "K"
    have ht0 := ht
    obtain ⟨d, rfl⟩ : ∃ e, d = e + 1 := ⟨d - 1, by
      have := ht.depth
      have := t.dep_pos
      omega⟩
    obtain ⟨p, xs, rfl, hs, row⟩ := ht
    obtain ⟨hl1, hl2⟩ := Tm.mul_lim u hM ok
    cases t with
    | nam z =>
      have row : xs = _ := row
      subst row
      walk_at "go"
      by_cases e : z = u
      · subst e
        refine r_ifT' (decide_eq_true rfl) ?_
        walk_at "go"
        intro q hq
        refine hQ q _ (Ex.new hq) ?_
        simp only [Tm.mul, if_true]
        exact upd_same
      · refine r_ifF' (decide_eq_false fun h => e (V.str.inj h)) ?_
        walk_at "go"
        intro q hq
        refine hQ q _ (Ex.new hq) ?_
        simp only [Tm.mul, if_neg e]
        exact upd_same
    | pow a =>
      obtain ⟨x, rfl, hx⟩ := row
      walk_at "go"
      intro a2 ha2
      have xa := Ex.new (o := .tup [V.str "name", V.str u]) ha2
      have oka : a.ok N M R := by simpa only [Tm.ok] using ok
      have hda : a.dep ≤ 20 := by
        simp only [Tm.dep] at hd
        omega
      refine ⟨_, .tuple [.str "name", .str u], (hx.ex xa).dat, .tup (SqT.of upd_same) (.cons (.str _) (.cons (.str _) .nil)), ?_, ?_, ?_⟩
      · unfold SeqAt.shaped
        rw [Tm.lay a oka, Bool.true_and]
        have := Tm.pd_depth a
        exact decide_eq_true (by omega)
      · unfold SeqAt.shaped
        have hn : PyData.strOk (Str.ofString "name") = true := by decide +kernel
        simp only [PyData.canLay0, PyData.canLayAll0, hu, hn, PyData.depth, PyData.depthAll]
        simp
      · have e := Tm.pow_pd u a
        rw [← e] at hQ
        cases hb : PyData.eqv a.pd (.tuple [.str "name", .str u]) with
        | true =>
          rw [hb] at hQ
          walk_at "go"
          intro q hq
          exact hQ q _ (xa.trans (Ex.new hq)) upd_same
        | false =>
          rw [hb] at hQ
          walk_at "go"
          intro q hq
          exact hQ q _ (xa.trans (Ex.new hq)) upd_same
    | tim i a =>
      obtain ⟨x, rfl, hx⟩ := row
      walk_at "go"
      have ok : i.natAbs < M ∧ a.ok N M R := by simpa only [Tm.ok] using ok
      simp only [Tm.dep] at hd
      have dp := a.dep_pos
      obtain ⟨j, rfl, rfl⟩ : ∃ j, n = j + 1 ∧ spj = spMult K j := hj.elim (fun z => by omega) id
      refine ⟨_, u, a, d, N, M, R, rfl, hx, by omega, ok.2, hM, hu, fun q H1 x1 hq => ?_⟩
      have hs1 := x1 _ _ hs
      walk_at "go"
      obtain ⟨g1, g2⟩ := Tm.mul_lim u hM ok.2
      have g0 : i.natAbs < 2 ^ 100 := Nat.lt_of_lt_of_le ok.1 hM
      refine r_mulI (mulx_ok g0 g1 (by omega)) ?_
      walk_at "go"
      refine r_mulI (mulx_ok g0 g2 (by omega)) ?_
      walk_at "go"
      intro q2 hq2
      exact hQ q2 _ (x1.trans (Ex.new hq2)) upd_same
    | add a b =>
      obtain ⟨x, y, rfl, hx, hy⟩ := row
      walk_at "go"
      intro a2 ha2
      have xa := Ex.new (o := .tup [V.str "add", V.str "subtract"]) ha2
      have ok : a.ok N M R ∧ b.ok N M R := by simpa only [Tm.ok] using ok
      simp only [Tm.dep] at hd
      have dp := a.dep_pos
      have dq := b.dep_pos
      obtain ⟨j, rfl, rfl⟩ : ∃ j, n = j + 1 ∧ spj = spMult K j := hj.elim (fun z => by omega) id
      have hs1 := xa _ _ hs
      refine ⟨a2, _, rfl, .inr (SqT.of upd_same), rfl, rfl, _, rfl, r_ifF' (by decide +kernel) ?_⟩
      walk_at "go"
      refine ⟨_, u, a, d, N, M, R, rfl, hx.ex xa, by omega, ok.1, hM, hu, fun q H1 x1 hq => ?_⟩
      have hs2 := x1 _ _ hs1
      walk_at "go"
      refine ⟨_, u, b, d, N, M, R, rfl, hy.ex (xa.trans x1), by omega, ok.2, hM, hu, fun q2 H2 x2 hq2 => ?_⟩
      walk_at "go"
      intro q3 hq3
      exact hQ q3 _ (((xa.trans x1).trans x2).trans (Ex.new hq3)) upd_same
    | sub a b =>
      obtain ⟨x, y, rfl, hx, hy⟩ := row
      walk_at "go"
      intro a2 ha2
      have xa := Ex.new (o := .tup [V.str "add", V.str "subtract"]) ha2
      have ok : a.ok N M R ∧ b.ok N M R := by simpa only [Tm.ok] using ok
      simp only [Tm.dep] at hd
      have dp := a.dep_pos
      have dq := b.dep_pos
      obtain ⟨j, rfl, rfl⟩ : ∃ j, n = j + 1 ∧ spj = spMult K j := hj.elim (fun z => by omega) id
      have hs1 := xa _ _ hs
      refine ⟨a2, _, rfl, .inr (SqT.of upd_same), rfl, rfl, _, rfl, r_ifF' (by decide +kernel) ?_⟩
      walk_at "go"
      refine ⟨_, u, a, d, N, M, R, rfl, hx.ex xa, by omega, ok.1, hM, hu, fun q H1 x1 hq => ?_⟩
      have hs2 := x1 _ _ hs1
      walk_at "go"
      refine ⟨_, u, b, d, N, M, R, rfl, hy.ex (xa.trans x1), by omega, ok.2, hM, hu, fun q2 H2 x2 hq2 => ?_⟩
      walk_at "go"
      intro q3 hq3
      exact hQ q3 _ (((xa.trans x1).trans x2).trans (Ex.new hq3)) upd_same
    | num i =>
      have row : xs = _ := row
      subst row
      walk_at "go"
      intro a ha
      refine ⟨a, _, rfl, .inr (SqT.of upd_same), rfl, rfl, _, rfl, r_ifT' (by decide +kernel) ?_⟩
      walk_at "go"
      intro p hp
      exact hQ p _ ((Ex.new ha).trans (Ex.new hp)) upd_same
    | len a =>
      obtain ⟨x, rfl, hx⟩ := row
      walk_at "go"
      intro a ha
      refine ⟨a, _, rfl, .inr (SqT.of upd_same), rfl, rfl, _, rfl, r_ifT' (by decide +kernel) ?_⟩
      walk_at "go"
      intro p hp
      exact hQ p _ ((Ex.new ha).trans (Ex.new hp)) upd_same
    | quo a i =>
      obtain ⟨x, rfl, hx⟩ := row
      walk_at "go"
      intro a ha
      refine ⟨a, _, rfl, .inr (SqT.of upd_same), rfl, rfl, _, rfl, r_ifT' (by decide +kernel) ?_⟩
      walk_at "go"
      intro p hp
      exact hQ p _ ((Ex.new ha).trans (Ex.new hp)) upd_same
    | cal f as =>
      obtain ⟨q, ys, rfl, hq, hys⟩ := row
      walk_at "go"
      intro a ha
      refine ⟨a, _, rfl, .inr (SqT.of upd_same), rfl, rfl, _, rfl, r_ifT' (by decide +kernel) ?_⟩
      walk_at "go"
      intro p hp
      exact hQ p _ ((Ex.new ha).trans (Ex.new hp)) upd_same
theorem ok_multiples {k : Nat} (T : Txt K mg) : ∀ n, n ≤ 20 → FnOk P w K mg base CX0 (k + n + 1) (He.ga K "multiples") (fdOf K (He.ga K "multiples")) p_multiples (spMult K n)
  | 0, _ => ok1_multiples (spj := spNo) T (.inl rfl) (by omega) fnOk_no
  | n + 1, h => ok1_multiples T (.inr ⟨n, rfl, rfl⟩) h (ok_multiples T n (by omega))
theorem ok_difference {k : Nat} (T : Txt K mg) : FnOk P w K mg base CX0 (k + 1) (He.ga K "difference") (fdOf K (He.ga K "difference")) p_difference (spDif K) := by
  refine FunD.ok T.d_difference sc_difference (fun vs H Q E h => ?_) (fun cdv A outer s H vs Q E hr h => ?_)
  · obtain ⟨v, c, e, d, rfl, _⟩ := h
    rfl
  · obtain ⟨v, c, e, d, rfl, hc, ha, hQ⟩ := h
    refine ⟨_, PSs.nox ((pss_one (ps_ret (pe_ifExp (pt_cmpR op_eq (pe_ix ix_tup (pv 0) pe_int (fun _ _ => rfl)) pe_str (nomark _)) (pe_ix ix_tup (pv 0) pe_int (fun _ _ => rfl)) (pe_tup (pa_cons pe_str (pa_cons (pe_ix ix_tup (pv 0) pe_int (fun _ _ => rfl)) (pa_cons (pe_ix ix_tup (pv 0) pe_int (fun _ _ => rfl)) pa_nil)))))))), ?_⟩
    show tRet _ _ [some v] H
    walk_at "K"
    obtain ⟨d, rfl⟩ : ∃ e, d = e + 1 := ⟨d - 1, by
      have := hc.depth
      have := c.dep_pos
      omega⟩
    obtain ⟨p, xs, rfl, hs, row⟩ := hc
    cases c with
    | less a b =>
      obtain ⟨x, y, rfl, hx, hy⟩ := row
      walk_at "go"
      intro q hq
      have e1 := Ex.new (o := .tup [V.str "subtract", y, x]) hq
      exact hQ _ _ e1 (IsTm.mk upd_same ⟨y, x, rfl, hy.ex e1, hx.ex e1⟩)
    | equ a b =>
      obtain ⟨x, y, rfl, hx, hy⟩ := row
      walk_at "go"
      intro q hq
      have e1 := Ex.new (o := .tup [V.str "subtract", y, x]) hq
      exact hQ _ _ e1 (IsTm.mk upd_same ⟨y, x, rfl, hy.ex e1, hx.ex e1⟩)
    | res t m r =>
      obtain ⟨x, rfl, hx⟩ := row
      walk_at "go"
      exact hQ _ _ (Ex.refl _) (hx.up (by omega))
    | _ => cases ha
end
end PW
/-! ### the greatest common divisor, told exactly -/
namespace PW
open PySem PySem.Spec PyProof.Rows L2
def spGcd : Sp := fun vs H Q _ => ∃ a b : Nat, vs = [.int (a : Nat), .int (b : Nat)] ∧ Q (.int (Nat.gcd a b : Nat)) H
theorem abs_intW (a : Int) : (if a < 0 then -a else a) = (a.natAbs : Int) := by
  split <;> omega
section
variable {P : Program} {w : World} {K : PySem.W.Frag} {mg : Str → Option Value} {base : Heap}
theorem ok_gcd (T : Txt K mg) : FnOk P w K mg base CX0 (1) (He.ga K "common") (fdOf K (He.ga K "common")) p_common (spGcd) := by
  refine FunD.ok T.d_common sc_common (fun vs H Q E h => ?_) (fun cdv A outer s H vs Q E hr h => ?_)
  · obtain ⟨a, b, rfl, _⟩ := h
    rfl
  · obtain ⟨a, b, rfl, q⟩ := h
    refine ⟨_, PSs.nox ((pss_cons (ps_par (i := 0) (j := 1) (by rfl) sc_common.nd rfl rfl (by decide) rfl rfl (pa_cons (pe_callB call_absN (by rfl) T.f_abs (by decide +kernel) (pa_cons (pv 0) pa_nil)) (pa_cons (pe_callB call_absN (by rfl) T.f_abs (by decide +kernel) (pa_cons (pv 1) pa_nil)) pa_nil)) (by rfl))
    (pss_cons (ps_while PassesOwn.never (pt_cmpR op_gt (pv 1) pe_int (nomark _))
      (pss_one (ps_par (i := 0) (j := 1) (by rfl) sc_common.nd rfl rfl (by decide) rfl rfl (pa_cons (pv 1) (pa_cons (pe_op op_mod (pv 0) (pv 1)) pa_nil)) (by rfl))))
    (pss_one (ps_ret (pv 0)))))), ?_⟩
    show tSeq _ _ _ [some (V.int (a : Nat)), some (V.int (b : Nat))] H
    walk_at "go"
    rw [abs_intW, abs_intW, Int.natAbs_natCast, Int.natAbs_natCast]
    refine while_it (fun m σ H' => H' = H ∧ ∃ x y : Nat, σ = [some (V.int (x : Nat)), some (V.int (y : Nat))] ∧ m = y ∧ Nat.gcd x y = Nat.gcd a b) (m0 := b) ⟨rfl, a, b, rfl, rfl, rfl⟩ ?_
    rintro m σ H' ⟨rfl, x, y, rfl, rfl, hg⟩
    walk_at "go"
    refine r_if2 (fun e => ?_) (fun e => ?_)
    · have hy0 : (0 : Int) < (m : Nat) := of_decide_eq_true e
      refine r_turn ?_
      walk_at "go"
      have hlt := Nat.mod_lt x (show m > 0 by omega)
      refine ⟨x % m, hlt, rfl, m, x % m, ?_, rfl, ?_⟩
      · rfl
      · rw [← hg, Nat.gcd_comm x m, Nat.gcd_rec m x, Nat.gcd_comm]
    · have hy0 : ¬ (0 : Int) < (m : Nat) := of_decide_eq_false e
      walk_at "go"
      have hm : m = 0 := by omega
      subst hm
      rw [Nat.gcd_zero_right] at hg
      rw [hg]
      exact q
end
end PW
/-! ### plain numbers of periods -/
namespace PW
open PySem PySem.Spec PyProof.Rows L2
/-- a positive number without its factors of two -/
def oddN : Nat → Nat → Nat
  | 0, m => m
  | f + 1, m => if m % 2 = 0 then oddN f (m / 2) else m
/-- the least positive exponent of a power of two with remainder 1 -/
def ordN (m : Nat) : Nat := (((List.range m).find? fun e => 2 ^ (e + 1) % m == 1 % m).getD 0) + 1
end PW
/-! ### joint, order_of_two, odd_part -/
namespace PW
open PySem PySem.Spec PyProof.Rows L2
def spJoint : Sp := fun vs H Q _ => ∃ a b : Nat, vs = [.int (a : Nat), .int (b : Nat)] ∧ 0 < a ∧ 0 < b ∧ a < 2 ^ 1000 ∧ b < 2 ^ 1000 ∧ Q (.int (Nat.lcm a b : Nat)) H
def spOrd : Sp := fun vs H Q _ => ∃ m : Nat, vs = [.int (m : Nat)] ∧ m % 2 = 1 ∧ m ≤ 12 ∧ Q (.int (ordN m : Nat)) H
def spOdd : Sp := fun vs H Q _ => ∃ m : Nat, vs = [.int (m : Nat)] ∧ 0 < m ∧ m ≤ 12 ∧ Q (.int (oddN m m : Nat)) H
theorem odd_half : ∀ x < 13, 0 < x → x % 2 = 0 → oddN x x = oddN (x / 2) (x / 2) := by decide
theorem odd_self : ∀ x < 13, x % 2 = 1 → oddN x x = x := by decide
theorem ord_fact : ((List.range 13).all fun m => m % 2 != 1 || (decide (1 ≤ ordN m) && (decide (ordN m ≤ 12) && ((2 ^ ordN m % m == 1 % m) && (List.range 13).all fun f => !(decide (1 ≤ f) && decide (f < ordN m)) || (2 ^ f % m != 1 % m))))) = true := by decide +kernel
theorem ord_ok {m : Nat} (h1 : m % 2 = 1) (h2 : m ≤ 12) : 1 ≤ ordN m ∧ 2 ^ ordN m % m = 1 % m ∧ ∀ f, 1 ≤ f → f < ordN m → 2 ^ f % m ≠ 1 % m := by
  have h := List.all_eq_true.mp ord_fact m (List.mem_range.mpr (by omega))
  rw [h1] at h
  simp only [bne_self_eq_false, Bool.false_or, Bool.and_eq_true, decide_eq_true_eq, beq_iff_eq] at h
  obtain ⟨g1, g2, g3, g4⟩ := h
  refine ⟨g1, g3, fun f f1 f2 e => ?_⟩
  have := List.all_eq_true.mp g4 f (List.mem_range.mpr (by omega))
  simp [f1, f2, e] at this
section
variable {P : Program} {w : World} {K : PySem.W.Frag} {mg : Str → Option Value} {base : Heap}
theorem ok_odd_part (T : Txt K mg) : FnOk P w K mg base CX0 (1) (He.ga K "odd_part") (fdOf K (He.ga K "odd_part")) p_odd_part (spOdd) := by
  refine FunD.ok T.d_odd_part sc_odd_part (fun vs H Q E h => ?_) (fun cdv A outer s H vs Q E hr h => ?_)
  · obtain ⟨m, rfl, _⟩ := h
    rfl
  · obtain ⟨m, rfl, hm, hl, q⟩ := h
    refine ⟨_, PSs.nox ((pss_cons (ps_while PassesOwn.never (pt_cmpR op_eq (pe_op op_mod (pv 0) pe_int) pe_int (nomark _))
      (pss_one (ps_aug (i := 0) sc_odd_part.nd rfl (Or.inl rfl) pe_int iop_fdivW)))
    (pss_one (ps_ret (pv 0))))), ?_⟩
    show tSeq _ _ _ [some (V.int (m : Nat))] H
    walk_at "go"
    refine while_it (fun n σ H' => H' = H ∧ ∃ x : Nat, σ = [some (V.int (x : Nat))] ∧ n = x ∧ 0 < x ∧ x ≤ 12 ∧ oddN x x = oddN m m) (m0 := m) ⟨rfl, m, rfl, rfl, hm, hl, rfl⟩ ?_
    rintro n σ H' ⟨rfl, x, rfl, rfl, h0, h12, hx⟩
    walk_at "go"
    have ei : ((n : Nat) : Int) % 2 = ((n % 2 : Nat) : Int) := by omega
    rw [ei]
    by_cases he : n % 2 = 0
    · refine r_ifT' (by rw [he]; rfl) ?_
      refine r_turn ?_
      walk_at "go"
      refine ⟨n / 2, by omega, rfl, n / 2, ?_, rfl, by omega, by omega, ?_⟩
      · rw [show ((n : Nat) : Int) / 2 = ((n / 2 : Nat) : Int) by omega]
        rfl
      · rw [← hx, odd_half n (by omega) (by omega) he]
    · refine r_ifF' (decide_eq_false fun e => he (by
        have := V.int.inj e
        omega)) ?_
      walk_at "go"
      rw [odd_self n (by omega) (by omega)] at hx
      rw [hx]
      exact q
theorem ok_order_of_two (T : Txt K mg) : FnOk P w K mg base CX0 (1) (He.ga K "order_of_two") (fdOf K (He.ga K "order_of_two")) p_order_of_two (spOrd) := by
  refine FunD.ok T.d_order_of_two sc_order_of_two (fun vs H Q E h => ?_) (fun cdv A outer s H vs Q E hr h => ?_)
  · obtain ⟨m, rfl, _⟩ := h
    rfl
  · obtain ⟨m, rfl, hm, hl, q⟩ := h
    obtain ⟨o1, o2, o3⟩ := ord_ok hm hl
    refine ⟨_, PSs.nox ((pss_cons (ps_par (i := 1) (j := 2) (by rfl) sc_order_of_two.nd rfl rfl (by decide) rfl rfl (pa_cons pe_int (pa_cons (pe_op op_mod pe_int (pv 0)) pa_nil)) (by rfl))
    (pss_cons (ps_while PassesOwn.never (pt_cmpR op_ne (pv 2) (pe_op op_mod pe_int (pv 0)) (nomark _))
      (pss_cons (ps_set (i := 2) sc_order_of_two.nd rfl (Or.inl rfl) (pe_op op_mod (pe_op op_mulX (pv 2) pe_int) (pv 0)))
        (pss_one (ps_aug (i := 1) sc_order_of_two.nd rfl (Or.inl rfl) pe_int ip_add))))
    (pss_one (ps_ret (pv 1)))))), ?_⟩
    show tSeq _ _ _ [some (V.int (m : Nat)), none, none] H
    walk_at "go"
    refine while_it (fun n σ H' => H' = H ∧ ∃ f : Nat, σ = [some (V.int (m : Nat)), some (V.int (f : Nat)), some (V.int ((2 ^ f % m : Nat) : Int))] ∧ n = ordN m - f ∧ 1 ≤ f ∧ f ≤ ordN m) (m0 := ordN m - 1) ⟨rfl, 1, rfl, rfl, by omega, o1⟩ ?_
    rintro n σ H' ⟨rfl, f, rfl, rfl, f1, f2⟩
    walk_at "go"
    have e1 : (1 : Int) % ((m : Nat) : Int) = ((1 % m : Nat) : Int) := (Int.natCast_emod 1 m).symm
    rw [e1]
    by_cases he : f = ordN m
    · subst he
      refine r_ifF' (by rw [o2]; simp) ?_
      walk_at "go"
      exact q
    · have h1 := o3 f f1 (by omega)
      refine r_ifT' (by
        rw [decide_eq_false fun z => h1 (by
          have := V.int.inj z
          omega)]
        rfl) ?_
      refine r_turn ?_
      walk_at "go"
      have hlt := Nat.mod_lt (2 ^ f) (show m > 0 by omega)
      refine ⟨_, _, rfl, rfl, mulx_ok (a := 4) (b := 2) (by rw [Int.natAbs_natCast]; exact Nat.lt_of_lt_of_le hlt (by omega)) (by decide) (by decide), ?_⟩
      walk_at "go"
      refine ⟨ordN m - (f + 1), by omega, rfl, f + 1, ?_, rfl, by omega, by omega⟩
      have e2 : ((2 ^ f % m : Nat) : Int) * 2 % ((m : Nat) : Int) = ((2 ^ (f + 1) % m : Nat) : Int) := by
        rw [show ((2 ^ f % m : Nat) : Int) * 2 = (((2 ^ f % m) * 2 : Nat) : Int) by omega, ← Int.natCast_emod, Nat.pow_succ, Nat.mod_mul_mod]
      rw [e2]
      rfl
theorem ok_joint {k : Nat} (T : Txt K mg)
    (G_common : FnOk P w K mg base CX0 k (He.ga K "common") (fdOf K (He.ga K "common")) p_common (spGcd)) : FnOk P w K mg base CX0 (k + 1) (He.ga K "joint") (fdOf K (He.ga K "joint")) p_joint (spJoint) := by
  refine FunD.ok T.d_joint sc_joint (fun vs H Q E h => ?_) (fun cdv A outer s H vs Q E hr h => ?_)
  · obtain ⟨a, b, rfl, _⟩ := h
    rfl
  · obtain ⟨a, b, rfl, ha, hb, la, lb, q⟩ := h
    refine ⟨_, PSs.nox ((pss_one (ps_ret (pe_op op_fdivW (pe_op op_mulX (pv 0) (pv 1)) (pe_call G_common hr rfl T.g_common T.d_common.kp (b_common T) .nil pass0 (pa_cons (pv 0) (pa_cons (pv 1) pa_nil))))))), ?_⟩
    show tRet _ _ [some (V.int (a : Nat)), some (V.int (b : Nat))] H
    walk_at "go"
    refine ⟨_, _, rfl, rfl, mulx_ok (a := 1000) (b := 1000) (by rw [Int.natAbs_natCast]; exact la) (by rw [Int.natAbs_natCast]; exact lb) (by decide), ?_⟩
    walk_at "go"
    refine ⟨a, b, rfl, ?_⟩
    have hg : 0 < Nat.gcd a b := Nat.gcd_pos_of_pos_left _ ha
    have hg2 : Nat.gcd a b < 2 ^ 1000 := Nat.lt_of_le_of_lt (Nat.gcd_le_left _ ha) la
    refine ⟨_, _, rfl, rfl, ⟨by omega, ?_⟩, ?_⟩
    · rw [Int.natAbs_natCast]
      exact Nat.lt_trans ((Nat.log2_lt (by omega)).mpr hg2) (by decide)
    · exact q
end
end PW
/-! ### the period of comparisons -/
namespace PW
open PySem PySem.Spec PyProof.Rows L2
/-- the period behind one more comparison -/
def Cd.perS (u : Str) (f : Nat) : Cd → Nat
  | .res t m _ =>
    let f1 := if (t.mul u).2 ≠ 0 then Nat.lcm f m.toNat else f
    if (t.mul u).1 ≠ 0 then Nat.lcm f1 (ordN (oddN m.toNat m.toNat)) else f1
  | _ => f
def perL (u : Str) (cs : List Cd) : Nat := cs.foldl (Cd.perS u) 1
def Cd.isRest : Cd → Bool
  | .res _ _ _ => true
  | _ => false
/-- no comparison of remainders -/
def NoRest (cs : List Cd) : Prop := ∀ c ∈ cs, c.isRest = false
theorem per_no {u : Str} {cs : List Cd} (h : NoRest cs) : perL u cs = 1 := by
  have go : ∀ (cs : List Cd) (f : Nat), NoRest cs → cs.foldl (Cd.perS u) f = f := by
    intro cs
    induction cs with
    | nil => intro f _; rfl
    | cons c r ih =>
      intro f h
      have hc := h c (List.mem_cons_self ..)
      rw [List.foldl_cons, show Cd.perS u f c = f from by
        cases c with
        | res t m q => cases hc
        | _ => rfl]
      exact ih f fun x hx => h x (List.mem_cons_of_mem _ hx)
  exact go cs 1 h
def spPer (K : PySem.W.Frag) (Pre : List Cd → Prop) : Sp := fun vs H Q _ => ∃ l u e ys cs H0, vs = [.ref l, .str u] ∧ Ex H0 H ∧ H l = some (.lst ys) ∧ Paired (IsCd K H0 e 1) ys cs ∧ (∀ c ∈ cs, c.isAtom = true) ∧ e ≤ 20 ∧ PyData.strOk u = true ∧ Pre cs ∧ ∀ H', Ex H H' → Q (.int (perL u cs : Nat)) H'
section
variable {P : Program} {w : World} {K : PySem.W.Frag} {mg : Str → Option Value} {base : Heap}
theorem ok_period_no {k : Nat} (T : Txt K mg) : FnOk P w K mg base CX0 (k + 1) (He.ga K "period_of") (fdOf K (He.ga K "period_of")) p_period_of (spPer K NoRest) := by
  have G_multiples : FnOk P w K mg base CX0 (k) (He.ga K "multiples") (fdOf K (He.ga K "multiples")) p_multiples (spNo) := fnOk_no
  have G_joint : FnOk P w K mg base CX0 (k) (He.ga K "joint") (fdOf K (He.ga K "joint")) p_joint (spNo) := fnOk_no
  have G_order_of_two : FnOk P w K mg base CX0 (k) (He.ga K "order_of_two") (fdOf K (He.ga K "order_of_two")) p_order_of_two (spNo) := fnOk_no
  have G_odd_part : FnOk P w K mg base CX0 (k) (He.ga K "odd_part") (fdOf K (He.ga K "odd_part")) p_odd_part (spNo) := fnOk_no
  refine FunD.ok T.d_period_of sc_period_of (fun vs H Q E h => ?_) (fun cdv A outer s H vs Q E hr h => ?_)
  · obtain ⟨l, u, e, ys, cs, H0, rfl, _⟩ := h
    rfl
  · obtain ⟨l, u, e, ys, cs, H0, rfl, x0, hl, hys, hat, he, hu, hp, hQ⟩ := h
    refine ⟨_, PSs.nox ((pss_cons (ps_set (i := 2) sc_period_of.nd rfl (Or.inl rfl) pe_int)
    (pss_cons (ps_for PassesOwn.never rfl (pi_list (pv 0)) (pg_name (i := 3) sc_period_of.nd rfl (Or.inl rfl) (hf := by first | exact Or.inl rfl | exact Or.inr rfl))
      (pss_one (ps_if (pt_cmpR op_eq (pe_ix ix_tup (pv 3) pe_int (fun _ _ => rfl)) pe_str (nomark _))
          (pss_cons (ps_asg (pe_call G_multiples hr rfl T.g_multiples T.d_multiples.kp (b_multiples T) .nil pass0 (pa_cons (pe_ix ix_tup (pv 3) pe_int (fun _ _ => rfl)) (pa_cons (pv 1) pa_nil))) (pg_tup rfl (pgs_cons (pg_name (i := 4) sc_period_of.nd rfl (Or.inl rfl) (hf := by first | exact Or.inl rfl | exact Or.inr rfl)) (pgs_cons (pg_name (i := 5) sc_period_of.nd rfl (Or.inl rfl) (hf := by first | exact Or.inl rfl | exact Or.inr rfl)) pgs_nil))))
            (pss_cons (ps_if (pt_cmpR op_ne (pv 5) pe_int (nomark _))
              (pss_one (ps_set (i := 2) sc_period_of.nd rfl (Or.inl rfl) (pe_call G_joint hr rfl T.g_joint T.d_joint.kp (b_joint T) .nil pass0 (pa_cons (pv 2) (pa_cons (pe_ix ix_tup (pv 3) pe_int (fun _ _ => rfl)) pa_nil)))))
              pss_nil)
            (pss_one (ps_if (pt_cmpR op_ne (pv 4) pe_int (nomark _))
              (pss_one (ps_set (i := 2) sc_period_of.nd rfl (Or.inl rfl) (pe_call G_joint hr rfl T.g_joint T.d_joint.kp (b_joint T) .nil pass0 (pa_cons (pv 2) (pa_cons (pe_call G_order_of_two hr rfl T.g_order_of_two T.d_order_of_two.kp (b_order_of_two T) .nil pass0 (pa_cons (pe_call G_odd_part hr rfl T.g_odd_part T.d_odd_part.kp (b_odd_part T) .nil pass0 (pa_cons (pe_ix ix_tup (pv 3) pe_int (fun _ _ => rfl)) pa_nil)) pa_nil)) pa_nil)))))
              pss_nil))))
          pss_nil)))
    (pss_one (ps_ret (pv 2)))))), ?_⟩
    show tSeq _ _ _ [some (.ref l), some (.str u), none, none, none, none] H
    walk_at "K"
    walk_at "go"
    refine for_it (walk_list (xs := ys)) (fun i σ H' => (∃ y, σ = [some (.ref l), some (.str u), some (.int 1), y, none, none]) ∧ H' = H) ⟨⟨_, rfl⟩, rfl⟩ (fun i σ H' _ h => ?_) ?_ ?_
    · obtain ⟨_, rfl⟩ := h
      exact SqL.of hl
    · rintro i x σ H1 H1' hi ⟨⟨y, rfl⟩, rfl⟩ ⟨rfl, hx⟩
      obtain ⟨c, hc, hv⟩ := pr_get hys hx
      have hm := List.mem_of_getElem? hc
      have hr1 := hp c hm
      obtain ⟨p, xs, rfl, hs, row⟩ := hv
      have hs := x0 _ _ hs
      cases c with
      | less a b =>
        obtain ⟨x, y, rfl, _⟩ := row
        walk_at "go"
        exact ⟨⟨_, rfl⟩, rfl⟩
      | equ a b =>
        obtain ⟨x, y, rfl, _⟩ := row
        walk_at "go"
        exact ⟨⟨_, rfl⟩, rfl⟩
      | res t m r => cases hr1
      | _ => cases hat _ hm
    · rintro σ H1 ⟨⟨y, rfl⟩, rfl⟩
      walk_at "go"
      have q := hQ H1 (Ex.refl _)
      rw [per_no hp] at q
      exact q
end
end PW
/-! ### need_names -/
namespace PW
open PySem PySem.Spec PyProof.Rows L2
/-- an error with a name -/
def NamC (K : PySem.W.Frag) (cls : Str) (x : V) (H : Hp) (E : XK) : Prop := ∀ d H', Ex H H' → H' d = some (.xd [("name", x), ("tag", .str cls)]) → E (.ref (He.ga K cls)) (some d) H'
/-- a value that may stand for a name -/
def NmV (K : PySem.W.Frag) (H : Hp) (x : V) : Prop := (∃ z, x = .str z ∧ z.length ≤ 100000) ∨ ∃ n, isNameV x = false ∧ TyX K H x (.type n) ∧ kitB n "str" = some false ∧ flatV x = true
theorem TyX.exW {K : PySem.W.Frag} {H H' : Hp} {x : V} {t : Value} (e : Ex H H') (h : TyX K H x t) : TyX K H' x t := by
  cases h with
  | base h =>
    refine .base ?_
    cases h with
    | non => exact .non
    | bl b => exact .bl b
    | int i => exact .int i
    | str z => exact .str z
    | flt z => exact .flt z
    | lst q => exact .lst (e _ _ q)
    | frz q => exact .frz (e _ _ q)
    | tup q => exact .tup (e _ _ q)
    | dK q => exact .dK (e _ _ q)
    | dT q => exact .dT (e _ _ q)
    | ins q a b c d f => exact .ins (e _ _ q) a b c d f
  | byt b => exact .byt b
  | set q => exact .set (e _ _ q)
  | kList a c => exact .kList a c
  | kTuple a c => exact .kTuple a c
  | kDict a c => exact .kDict a c
  | fTuple q => exact .fTuple (e _ _ q)
  | fDict q => exact .fDict (e _ _ q)
theorem cut_take {xs : List V} {i : Nat} (h : i ≤ xs.length) : cutV xs none (some (i : Int)) = xs.take i := by
  have e : HT.sIx xs.length xs.length (some (i : Int)) = i := (HT.sIx_nat _ _ _).trans (Nat.min_eq_left h)
  unfold cutV
  rw [e]
  show (xs.drop 0).take (i - 0) = _
  rw [List.drop_zero, Nat.sub_zero]
/-- the first name that is none, or that stands before -/
def nnErr : List V → List V → Option (Str × V)
  | _, [] => none
  | seen, x :: r => if isNameV x then (if inV x seen then some ("DuplicateName", x) else nnErr (seen ++ [x]) r) else some ("InvalidName", x)
theorem nn_at : ∀ {xs : List V} {seen : List V} {i : Nat}, (∀ j x, j < i → xs[j]? = some x → isNameV x = true ∧ inV x (seen ++ xs.take j) = false) → nnErr seen xs = nnErr (seen ++ xs.take i) (xs.drop i)
  | [], seen, i, h => by simp
  | x :: r, seen, 0, h => by simp
  | x :: r, seen, i + 1, h => by
    obtain ⟨h1, h2⟩ := h 0 x (by omega) rfl
    rw [List.take_zero, List.append_nil] at h2
    rw [nnErr, if_pos h1, if_neg (by rw [h2]; decide), nn_at (xs := r) (seen := seen ++ [x]) (i := i) (fun j y hj hy => ?_)]
    · rw [List.append_assoc]
      rfl
    · have := h (j + 1) y (by omega) (by simpa using hy)
      rw [List.append_assoc]
      exact this
def NnK (K : PySem.W.Frag) (H : Hp) (Q : VK) (E : XK) : Option (Str × V) → Prop
  | none => ∀ H', Ex H H' → Q .non H'
  | some (c, x) => (c = "InvalidName" → NamC K "InvalidName" x H E) ∧ (c = "DuplicateName" → NamC K "DuplicateName" x H E)
def spNeedN (K : PySem.W.Frag) : Sp := fun vs H Q E => ∃ l xs, vs = [.ref l] ∧ H l = some (.lst xs) ∧ xs.length ≤ 1000 ∧ (∀ x ∈ xs, NmV K H x) ∧ NnK K H Q E (nnErr [] xs)
section
variable {P : Program} {w : World} {K : PySem.W.Frag} {mg : Str → Option Value} {base : Heap}
theorem okX_need_names {k : Nat} (hP : IsPG P) (T : Txt K mg)
    (G_is_name : FnOk P w K mg base CX0 k (He.ga K "is_name") (fdOf K (He.ga K "is_name")) p_is_name (spIsName K)) : FnOk P w K mg base (L2.CX P w) (k + 1) (He.ga K "need_names") (fdOf K (He.ga K "need_names")) p_need_names (spNeedN K) := by
  refine FunD.ok T.d_need_names sc_need_names (fun vs H Q E h => ?_) (fun cdv A outer s H vs Q E hr h => ?_)
  · obtain ⟨l, xs, rfl, _⟩ := h
    rfl
  · obtain ⟨l, xs, rfl, hl, hn, hx, hQ⟩ := h
    refine ⟨_, ((pss_one (ps_for (passes_of rfl) rfl (pi_enum (by rfl) T.f_enumerate (pa_cons (pv 0) pa_nil)) (pg_tup rfl (pgs_cons (pg_name (i := 1) sc_need_names.nd rfl (Or.inl rfl) (hf := by first | exact Or.inl rfl | exact Or.inr rfl)) (pgs_cons (pg_name (i := 2) sc_need_names.nd rfl (Or.inl rfl) (hf := by first | exact Or.inl rfl | exact Or.inr rfl)) pgs_nil)))
      (pss_cons (ps_if (pt_not (pt_val (pe_call G_is_name hr rfl T.g_is_name T.d_is_name.kp (b_is_name T) .nil pass0 (pa_cons (pv 2) pa_nil))))
          (pss_one (ps_raise rfl (takes_of rfl rfl rfl rfl) (PW.pmk1 (xmk_InvalidName hP T) (by decide) (raises_own T.x_InvalidName.oex.exC T.x_InvalidName.oex.tyC) T.x_InvalidName.oex.kC T.g_InvalidName hr (pa_cons (pv 2) pa_nil) rfl)))
          pss_nil)
        (pss_one (ps_if (pt_cmpR op_in_seq (pv 2) (pe_slice sl_list (pv 0) po_none (po_some (pv 1))) rfl)
          (pss_one (ps_raise rfl (takes_of rfl rfl rfl rfl) (PW.pmk1 (xmk_DuplicateName hP T) (by decide) (raises_own T.x_DuplicateName.oex.exC T.x_DuplicateName.oex.tyC) T.x_DuplicateName.oex.kC T.g_DuplicateName hr (pa_cons (pv 2) pa_nil) rfl)))
          pss_nil)))))), ?_⟩
    show tFor _ _ _ _ [some (.ref l), none, none] H
    walk_at "K"
    walk_at "go"
    refine for_it (walk_enum (xs := xs)) (fun i σ H' => (∃ y z, σ = [some (.ref l), y, z]) ∧ Ex H H' ∧ ∀ j x, j < i → xs[j]? = some x → isNameV x = true ∧ inV x (xs.take j) = false) ⟨⟨_, _, rfl⟩, Ex.refl _, fun j x hj _ => by omega⟩ (fun i σ H' _ h => SqL.of (h.2.1 _ _ hl)) ?_ ?_
    · rintro i x σ H1 H1' hi ⟨⟨y, z, rfl⟩, x1, hp⟩ hy
      obtain ⟨T1, u, x, rfl, hT1, rfl, hu, hw⟩ := hy
      injection hu with hu
      subst hu
      have hw : xs[i]? = some x := hw
      have hmem : x ∈ xs := List.mem_of_getElem? hw
      have x2 := x1.trans (Ex.new (o := .tup [V.int (i : Nat), x]) hT1)
      have ee : nnErr [] xs = nnErr (xs.take i) (x :: xs.drop (i + 1)) := by
        have e := nn_at (xs := xs) (seen := []) (i := i) (fun j y hj hy => hp j y hj hy)
        obtain ⟨hlt, hz⟩ := List.getElem?_eq_some_iff.mp hw
        rw [e, List.nil_append, List.drop_eq_getElem_cons hlt, hz]
      walk_at "go"
      refine ⟨x, rfl, ?_, fun H2 x3 => ?_⟩
      · rcases hx x hmem with h | ⟨n, h1, h2, h3, _⟩
        · exact .inl h
        · exact .inr ⟨n, h1, TyX.exW x2 h2, h3⟩
      have x4 := x2.trans x3
      cases hb : isNameV x with
      | false =>
        walk_at "go"
        rw [ee, nnErr, if_neg (by rw [hb]; decide)] at hQ
        exact ⟨_, rfl, _, rfl, fun d hd => hQ.1 rfl d _ (x4.trans (Ex.new hd)) upd_same⟩
      | true =>
        walk_at "go"
        refine r_slL (SqL.of (x4 _ _ hl)) fun a ha => ?_
        rw [cut_take (by omega)]
        refine ⟨a, xs.take i, rfl, .inl (SqL.of upd_same), ?_, ?_, ?_⟩
        · rcases hx x hmem with ⟨z, rfl, _⟩ | ⟨_, _, _, _, h⟩
          · rfl
          · exact h
        · refine List.all_eq_true.mpr fun y hy => ?_
          rcases hx y (List.mem_of_mem_take hy) with ⟨z, rfl, _⟩ | ⟨_, _, _, _, h⟩
          · rfl
          · exact h
        · have x5 := x4.trans (Ex.new (o := .lst (xs.take i)) ha)
          cases hi2 : inV x (xs.take i) with
          | true =>
            walk_at "go"
            rw [ee, nnErr, if_pos hb, if_pos hi2] at hQ
            exact ⟨_, rfl, _, rfl, fun d hd => hQ.2 rfl d _ (x5.trans (Ex.new hd)) upd_same⟩
          | false =>
            walk_at "go"
            refine ⟨⟨_, _, rfl⟩, x5, fun j y hj hy => ?_⟩
            rcases Nat.lt_or_ge j i with h | h
            · exact hp j y h hy
            · have : j = i := by omega
              subst this
              rw [hw] at hy
              cases hy
              exact ⟨hb, hi2⟩
    · rintro σ H1 ⟨⟨y, z, rfl⟩, x1, hp⟩
      rw [nn_at (xs := xs) (seen := []) (i := xs.length) (fun j y hj hy => hp j y hj hy), List.drop_length] at hQ
      walk_at "go"
      exact hQ _ x1
end
end PW
/-! ### what is not flat -/
namespace PW
open PySem PySem.Spec PyProof.Rows L2
namespace Tm
/-- whether an unknown within is not flat -/
def hot : Tm → Bool
  | .len _ => true
  | .quo _ _ => true
  | .cal _ _ => true
  | .pow (.nam _) => false
  | .pow _ => true
  | _ => false
/-- the first unknown of a part that is to hold none -/
def hotF (us : List Str) (t : Tm) : Option Str := if t.hot then t.nms.find? fun z => inV (.str z) (us.map V.str) else none
mutual
def bad (us : List Str) : Tm → Option Str
  | .num _ => none
  | .nam _ => none
  | .add a b => (bad us a).or (bad us b)
  | .sub a b => (bad us a).or (bad us b)
  | .tim _ a => bad us a
  | .pow a => (hotF us (.pow a)).or (bad us a)
  | .len a => (hotF us (.len a)).or (bad us a)
  | .quo a i => (hotF us (.quo a i)).or (bad us a)
  | .cal f as => (hotF us (.cal f as)).or (bads us as)
def bads (us : List Str) : List Tm → Option Str
  | [] => none
  | a :: r => (bad us a).or (bads us r)
end
theorem bad_all (us : List Str) (t : Tm) : t.bad us = (t.hotF us).or (bads us t.parts) := by
  cases t with
  | pow a => cases a <;> simp [bad, hotF, hot, bads, parts]
  | _ => simp [bad, hotF, hot, bads, parts]
theorem bads_ok {us : List Str} {as : List Tm} {i : Nat} {a : Tm} (h : as[i]? = some a) (h0 : bads us (as.take i) = none) (h1 : a.bad us = none) : bads us (as.take (i + 1)) = none := by
  induction as generalizing i with
  | nil => cases h
  | cons b r ih =>
    cases i with
    | zero =>
      injection h with h
      subst h
      simp [bads, h1]
    | succ i =>
      rw [List.take_succ_cons, bads, Option.or_eq_none_iff] at h0 ⊢
      exact ⟨h0.1, ih (by simpa using h) h0.2⟩
theorem bads_bad {us : List Str} {as : List Tm} {i : Nat} {a : Tm} {z : Str} (h : as[i]? = some a) (h0 : bads us (as.take i) = none) (h1 : a.bad us = some z) : bads us as = some z := by
  induction as generalizing i with
  | nil => cases h
  | cons b r ih =>
    cases i with
    | zero =>
      injection h with h
      subst h
      simp [bads, h1]
    | succ i =>
      rw [List.take_succ_cons, bads, Option.or_eq_none_iff] at h0
      rw [bads, h0.1, Option.none_or]
      exact ih (by simpa using h) h0.2
end Tm
/-- a word's first letters tell what is hot -/
theorem word_power {t : Tm} (h : t.word = "power") : ∃ a, t = .pow a := by
  cases t with
  | pow a => exact ⟨a, rfl⟩
  | _ => exact absurd h (by simp only [Tm.word]; decide +kernel)
theorem hot_of {t : Tm} (h : inV (.str t.word) [.str "length", .str "quotient", .str "call"] = true) : t.hot = true := by
  cases t with
  | len a => rfl
  | quo a i => rfl
  | cal f as => rfl
  | _ => exact absurd h (by simp only [Tm.word]; decide +kernel)
theorem cold_of {t : Tm} (h : inV (.str t.word) [.str "length", .str "quotient", .str "call"] = false) (h2 : t.word ≠ "power") : t.hot = false := by
  cases t with
  | len a => exact absurd h (by simp only [Tm.word]; decide +kernel)
  | quo a i => exact absurd h (by simp only [Tm.word]; decide +kernel)
  | cal f as => exact absurd h (by simp only [Tm.word]; decide +kernel)
  | pow a => exact absurd rfl h2
  | _ => rfl
theorem find_at {us : List Str} {ns : List Str} {i : Nat} {z : Str} (h0 : ∀ y ∈ ns.take i, inV (.str y) (us.map V.str) = false) (h : ns[i]? = some z) (h1 : inV (.str z) (us.map V.str) = true) : ns.find? (fun z => inV (.str z) (us.map V.str)) = some z := by
  induction ns generalizing i with
  | nil => cases h
  | cons b r ih =>
    cases i with
    | zero =>
      injection h with h
      subst h
      exact List.find?_cons_of_pos h1
    | succ i =>
      rw [List.take_succ_cons] at h0
      rw [List.find?_cons_of_neg (by rw [h0 b (List.mem_cons_self ..)]; decide)]
      exact ih (fun y hy => h0 y (List.mem_cons_of_mem _ hy)) (by simpa using h)
theorem find_no {us : List Str} {ns : List Str} (h0 : ∀ y ∈ ns, inV (.str y) (us.map V.str) = false) : ns.find? (fun z => inV (.str z) (us.map V.str)) = none := List.find?_eq_none.mpr fun y hy => by rw [h0 y hy]; decide
theorem Tm.nms_at {t a : Tm} {i : Nat} (h : t.parts[i]? = some a) : a.nms.length ≤ t.nms.length := by
  by_cases hw : t.word = "name"
  · obtain ⟨z, rfl⟩ := word_name hw
    cases h
  · rw [Tm.nms_parts hw]
    have h1 := Tm.nmss_take (l := t.parts) (k := i + 1)
    rw [nmss_get h, List.length_append] at h1
    omega
def FlK (K : PySem.W.Frag) (H : Hp) (Q : VK) (E : XK) : Option Str → Prop
  | none => ∀ H', Ex H H' → Q .non H'
  | some z => NamC K "NotFlat" (.str z) H E
def spFlat (K : PySem.W.Frag) (n : Nat) : Sp := fun vs H Q E => ∃ v l t d us, vs = [v, .ref l] ∧ IsTm K H d v t ∧ t.dep ≤ n + 1 ∧ t.nms.length ≤ 100000 ∧ H l = some (.lst (us.map V.str)) ∧ FlK K H Q E (t.bad us)
theorem flat_strs {us : List Str} : (us.map V.str).all flatV = true := List.all_eq_true.mpr fun y hy => by
  obtain ⟨z, _, rfl⟩ := List.mem_map.mp hy
  rfl
section
variable {P : Program} {w : World} {K : PySem.W.Frag} {mg : Str → Option Value} {base : Heap}
theorem okX1_need_flat {k n : Nat} {spj : Sp} (hP : IsPG P) (T : Txt K mg) (hj : n = 0 ∨ ∃ j, n = j + 1 ∧ spj = spFlat K j) (hn17 : n ≤ 19)
    (G_names_within : FnOk P w K mg base CX0 k (He.ga K "names_within") (fdOf K (He.ga K "names_within")) p_names_within (spNmsW K 19))
    (G_parts_of : FnOk P w K mg base CX0 k (He.ga K "parts_of") (fdOf K (He.ga K "parts_of")) p_parts_of (spParts K))
    (G_need_flat : FnOk P w K mg base (L2.CX P w) k (He.ga K "need_flat") (fdOf K (He.ga K "need_flat")) p_need_flat (spj)) : FnOk P w K mg base (L2.CX P w) (k + 1) (He.ga K "need_flat") (fdOf K (He.ga K "need_flat")) p_need_flat (spFlat K n) := by
  refine FunD.ok T.d_need_flat sc_need_flat (fun vs H Q E h => ?_) (fun cdv A outer s H vs Q E hr h => ?_)
  · obtain ⟨v, l, t, d, us, rfl, _⟩ := h
    rfl
  · obtain ⟨v, l, t, d, us, rfl, ht, hd, hn, hl, hQ⟩ := h
    refine ⟨_, ((pss_cons (ps_set (i := 2) sc_need_flat.nd rfl (Or.inl rfl) (pe_ix ix_tup (pv 0) pe_int (fun _ _ => rfl)))
    (pss_cons (ps_if (PW.pt (pw_or (pt_cmpR op_in_seq (pv 2) (pe_tup (pa_cons pe_str (pa_cons pe_str (pa_cons pe_str pa_nil)))) rfl) (pw_or1 (PW.pt (pw_and (pt_cmpR op_eq (pv 2) pe_str (nomark _)) (pw_and1 (pt_cmpR op_ne (pe_ix ix_seq (pe_ix ix_tup (pv 0) pe_int (fun _ _ => rfl)) pe_int (fun _ _ => rfl)) pe_str (nomark _))))))))
      (pss_one (ps_for (passes_of rfl) rfl (pi_list (pe_call G_names_within hr rfl T.g_names_within T.d_names_within.kp (b_names_within T) .nil pass0 (pa_cons (pv 0) pa_nil))) (pg_name (i := 3) sc_need_flat.nd rfl (Or.inl rfl) (hf := by first | exact Or.inl rfl | exact Or.inr rfl))
          (pss_one (ps_if (pt_cmpR op_in_seq (pv 3) (pv 1) rfl)
              (pss_one (ps_raise rfl (takes_of rfl rfl rfl rfl) (PW.pmk1 (xmk_NotFlat hP T) (by decide) (raises_own T.x_NotFlat.oex.exC T.x_NotFlat.oex.tyC) T.x_NotFlat.oex.kC T.g_NotFlat hr (pa_cons (pv 3) pa_nil) rfl)))
              pss_nil))))
      pss_nil)
    (pss_one (ps_for (passes_of rfl) rfl (pi_list (pe_call G_parts_of hr rfl T.g_parts_of T.d_parts_of.kp (b_parts_of T) .nil pass0 (pa_cons (pv 0) pa_nil))) (pg_name (i := 4) sc_need_flat.nd rfl (Or.inl rfl) (hf := by first | exact Or.inl rfl | exact Or.inr rfl))
      (pss_one (ps_expr (pe_call G_need_flat hr rfl T.g_need_flat T.d_need_flat.kp (b_need_flat T) .nil (passes_call (takes_of rfl rfl rfl rfl) (fun _ _ _ _ h => h)) (pa_cons (pv 4) (pa_cons (pv 1) pa_nil)))))))))), ?_⟩
    show tSeq _ _ _ [some v, some (.ref l), none, none, none] H
    walk_at "K"
    obtain ⟨d, rfl⟩ : ∃ e, d = e + 1 := ⟨d - 1, by
      have := ht.depth
      have := t.dep_pos
      omega⟩
    have ht0 := ht
    obtain ⟨p, xs, rfl, hs, row⟩ := ht
    obtain ⟨r, er⟩ := row.head
    have hs2 := hs
    rw [er] at hs2
    rw [Tm.bad_all] at hQ
    refine r_seqP (fun σ' H' => σ' = [some (.ref p), some (.ref l), some (.str t.word), none, none] ∧ H = H') ?_ (fun N hN => by
      walk_at "go"
      exact hN _ _ ⟨rfl, rfl⟩)
    rintro σ' H' ⟨rfl, rfl⟩
    refine r_seqP (fun σ' H' => ∃ y, σ' = [some (.ref p), some (.ref l), some (.str t.word), y, none] ∧ Ex H H' ∧ t.hotF us = none) ?_ ?_
    · rintro σ' H1 ⟨y, rfl, x1, hh⟩
      rw [hh, Option.none_or] at hQ
      walk_at "go"
      refine ⟨p, xs, t, IsTm K H d, rfl, x1 _ _ hs, row.imp (x1 _ _) fun _ _ z => z, fun l2 ys H2 x2 hl0 hl2 hys => ?_⟩
      have x12 := x1.trans x2
      clear x1 x2
      have hlen := pr_len hys
      walk_at "go"
      refine for_it (walk_list (xs := ys)) (fun i σ H' => (∃ y2, σ = [some (.ref p), some (.ref l), some (.str t.word), y, y2]) ∧ Ex H H' ∧ H' l2 = some (.lst ys) ∧ Tm.bads us (t.parts.take i) = none) ⟨⟨_, rfl⟩, x12, hl2, rfl⟩ (fun i σ H' _ h => SqL.of h.2.2.1) ?_ ?_
      · rintro i x σ H3 H3' hi ⟨⟨y2, rfl⟩, x3, hl3, hb⟩ ⟨rfl, hx⟩
        obtain ⟨a, ha, hv⟩ := pr_get hys hx
        have had := Tm.dep_parts hd a (List.mem_of_getElem? ha)
        obtain ⟨j, rfl, rfl⟩ : ∃ j, n = j + 1 ∧ spj = spFlat K j := hj.elim (fun z => by
          have := a.dep_pos
          omega) id
        walk_at "go"
        refine ⟨x, l, a, d, us, rfl, hv.ex x3, by omega, ?_, x3 _ _ hl, ?_⟩
        · exact Nat.le_trans (Tm.nms_at ha) hn
        · cases hba : a.bad us with
          | none =>
            intro H4 x4
            walk_at "go"
            exact ⟨⟨_, rfl⟩, x3.trans x4, x4 _ _ hl3, Tm.bads_ok ha hb hba⟩
          | some z =>
            rw [Tm.bads_bad ha hb hba] at hQ
            exact fun d2 H4 x4 => hQ d2 H4 (x3.trans x4)
      · rintro σ H3 ⟨⟨y2, rfl⟩, x3, hl3, hb⟩
        walk_at "go"
        rw [hlen, List.take_length] at hb
        rw [hb] at hQ
        exact hQ H3 x3
    · intro N hN
      have loop : ∀ H1, Ex H H1 → t.hot = true → tFor (iList K (tCall (spNmsW K 19) [] E0 (tCons (tVar 0) tNil))) (gName 3)
          (tIfS (tTest (tOp (rIn K false) (tVar 3) (tVar 1))) (fun x σ H => tMk1 (He.ga K "NotFlat") "NotFlat" "name" (tCons (tVar 3) tNil) σ H fun cls d H' => E cls d H') tNext)
          { nx := N, rt := Q } [some (V.ref p), some (V.ref l), some (V.str t.word), none, none] H1 := by
        intro H1 x1 hh
        have hF : t.hotF us = t.nms.find? fun z => inV (.str z) (us.map V.str) := if_pos hh
        walk_at "go"
        refine ⟨_, t, d + 1, rfl, ht0.ex x1, by omega, hn, fun l2 H2 x2 hl20 hl2 => ?_⟩
        have x12 := x1.trans x2
        walk_at "go"
        refine for_it (walk_list (xs := t.nms.map V.str)) (fun i σ H' => (∃ y, σ = [some (V.ref p), some (V.ref l), some (V.str t.word), y, none]) ∧ H' = H2 ∧ ∀ y ∈ t.nms.take i, inV (.str y) (us.map V.str) = false) ⟨⟨_, rfl⟩, rfl, fun y hy => by rw [List.take_zero] at hy; exact nomatch hy⟩ (fun i σ H' _ h => ?_) ?_ ?_
        · obtain ⟨_, rfl, _⟩ := h
          exact SqL.of hl2
        · rintro i x σ H3 H3' hi ⟨⟨y, rfl⟩, rfl, hp⟩ ⟨rfl, hx⟩
          rw [List.getElem?_map] at hx
          obtain ⟨u, hu, rfl⟩ := Option.map_eq_some_iff.mp hx
          walk_at "go"
          refine ⟨l, us.map V.str, rfl, .inl (SqL.of (x12 _ _ hl)), rfl, flat_strs, ?_⟩
          cases hb : inV (.str u) (us.map V.str) with
          | true =>
            rw [hF, find_at hp hu hb] at hQ
            walk_at "go"
            exact ⟨_, rfl, _, rfl, fun d hd => hQ d _ (x12.trans (Ex.new hd)) upd_same⟩
          | false =>
            walk_at "go"
            refine ⟨⟨_, rfl⟩, rfl, fun y hy => ?_⟩
            rw [List.take_add_one, hu] at hy
            rcases List.mem_append.mp hy with q | q
            · exact hp y q
            · rw [List.mem_singleton.mp q]
              exact hb
        · rintro σ H3 ⟨⟨y, rfl⟩, rfl, hp⟩
          rw [List.length_map, List.take_length] at hp
          exact hN _ _ ⟨y, rfl, x12, by rw [hF]; exact find_no hp⟩
      walk_at "go"
      intro a ha
      have xa := Ex.new (o := .tup [V.str "length", V.str "quotient", V.str "call"]) ha
      refine ⟨a, _, rfl, .inr (SqT.of upd_same), rfl, rfl, ?_⟩
      cases hw : inV (V.str t.word) [V.str "length", V.str "quotient", V.str "call"] with
      | true => exact ⟨_, rfl, r_ifT (r_ifT (loop _ xa (hot_of hw)))⟩
      | false =>
        walk_at "go"
        by_cases hp : t.word = "power"
        · obtain ⟨b, rfl⟩ := word_power hp
          obtain ⟨x, e, hx⟩ := row
          refine r_ifT' (decide_eq_true (congrArg V.str hp)) ?_
          rw [e] at hs
          obtain ⟨d, rfl⟩ : ∃ e, d = e + 1 := ⟨d - 1, by
            have := hx.depth
            have := b.dep_pos
            omega⟩
          obtain ⟨p2, ys, rfl, hs3, row2⟩ := hx
          obtain ⟨r2, er2⟩ := row2.head
          rw [er2] at hs3
          have hs4 := xa _ _ hs3
          have hs5 := xa _ _ hs
          walk_at "go"
          by_cases hb : b.word = "name"
          · obtain ⟨z, rfl⟩ := word_name hb
            refine r_ifF' (by rw [hb]; rfl) ?_
            exact hN _ _ ⟨_, rfl, xa, rfl⟩
          · refine r_ifT' (by
              rw [Bool.not_eq_true', decide_eq_false_iff_not]
              exact fun z => hb (V.str.inj z)) ?_
            refine loop _ xa ?_
            cases b with
            | nam z => exact absurd rfl hb
            | _ => rfl
        · refine r_ifF' (decide_eq_false fun z => hp (V.str.inj z)) (r_ifF ?_)
          exact hN _ _ ⟨_, rfl, xa, by rw [Tm.hotF, cold_of hw hp]; rfl⟩
theorem okX_need_flat {k : Nat} (hP : IsPG P) (T : Txt K mg)
    (G_names_within : FnOk P w K mg base CX0 k (He.ga K "names_within") (fdOf K (He.ga K "names_within")) p_names_within (spNmsW K 19))
    (G_parts_of : FnOk P w K mg base CX0 k (He.ga K "parts_of") (fdOf K (He.ga K "parts_of")) p_parts_of (spParts K)) : ∀ n, n ≤ 19 → FnOk P w K mg base (L2.CX P w) (k + n + 1) (He.ga K "need_flat") (fdOf K (He.ga K "need_flat")) p_need_flat (spFlat K n)
  | 0, _ => okX1_need_flat (spj := spNo) hP T (.inl rfl) (by omega) G_names_within G_parts_of fnOk_no
  | n + 1, h => okX1_need_flat hP T (.inr ⟨n, rfl, rfl⟩) h (G_names_within.mono (by omega)) (G_parts_of.mono (by omega)) (okX_need_flat hP T G_names_within G_parts_of n (by omega))
end
end PW
/-! ### a wish is made, or refused -/
namespace PW
open PySem PySem.Spec PyProof.Rows L2
/-- what refuses a wish -/
inductive WE where
  | nam (cls : Str) (x : V)
  | lim (n : Int)
/-- an error with a limit -/
def LimC (K : PySem.W.Frag) (n : Int) (H : Hp) (E : XK) : Prop := ∀ d H', Ex H H' → H' d = some (.xd [("limit", .int n), ("tag", .str "LimitReached")]) → E (.ref (He.ga K "LimitReached")) (some d) H'
/-- the errors with a name -/
def NamW (K : PySem.W.Frag) (cls : Str) (x : V) (H : Hp) (E : XK) : Prop := (cls = "InvalidName" → NamC K "InvalidName" x H E) ∧ (cls = "DuplicateName" → NamC K "DuplicateName" x H E) ∧ (cls = "UnknownName" → NamC K "UnknownName" x H E) ∧ (cls = "NotFlat" → NamC K "NotFlat" x H E)
theorem NamC.on {K : PySem.W.Frag} {cls : Str} {x : V} {H H1 : Hp} {E : XK} (h : NamC K cls x H E) (e : Ex H H1) : NamC K cls x H1 E := fun d H' y => h d H' (e.trans y)
theorem LimC.on {K : PySem.W.Frag} {n : Int} {H H1 : Hp} {E : XK} (h : LimC K n H E) (e : Ex H H1) : LimC K n H1 E := fun d H' y => h d H' (e.trans y)
theorem NamC.new {K : PySem.W.Frag} {cls : Str} {x : V} {H : Hp} {E : XK} (h : NamC K cls x H E) {d : Addr} (hd : H d = none) : E (.ref (He.ga K cls)) (some d) (upd H d (.xd [("name", x), ("tag", .str cls)])) := h d _ (Ex.new hd) upd_same
theorem LimC.new {K : PySem.W.Frag} {n : Int} {H : Hp} {E : XK} (h : LimC K n H E) {d : Addr} (hd : H d = none) : E (.ref (He.ga K "LimitReached")) (some d) (upd H d (.xd [("limit", .int n), ("tag", .str "LimitReached")])) := h d _ (Ex.new hd) upd_same
/-- the first unknown that is not flat -/
def badA (u : Str) : List Cd → Option Str
  | [] => none
  | a :: r => (Tm.bads [u] a.tms).or (badA u r)
/-- a multiple beyond the bound -/
def Cd.big (u : Str) (c : Cd) : Bool := decide ((999 : Int) < (if (c.dif.mul u).1 < 0 then -(c.dif.mul u).1 else (c.dif.mul u).1)) || decide ((999 : Int) < (if (c.dif.mul u).2 < 0 then -(c.dif.mul u).2 else (c.dif.mul u).2))
def wErr2 (ns : List V) (u : Str) (c : Cd) : Option WE :=
  if ns.length > 4 then some (.lim 3) else
  match c.cnms.find? fun z => !inV (.str z) ns with
  | some z => some (.nam "UnknownName" (.str z))
  | none => match badA u c.atoms with
    | some z => some (.nam "NotFlat" (.str z))
    | none => if c.atoms.length > 6 then some (.lim 6) else if c.atoms.any (Cd.big u) then some (.lim 999) else if perL u c.atoms > 60 then some (.lim 60) else none
/-- what refuses a wish with these given names, this unknown and this condition -/
def wErr (xs : List V) (u : V) (c : Cd) : Option WE := match nnErr [] (xs ++ [u]) with
  | some (k, x) => some (.nam k x)
  | none => match u with
    | .str z => wErr2 (xs ++ [u]) z c
    | _ => none
abbrev WhC (K : PySem.W.Frag) : Addr := He.ga K "Wish"
def fsW (rows per given unk cond : V) : List (Str × V) := [("rows", rows), ("own_period", per), ("own_given", given), ("own_unknown", unk), ("own_condition", cond)]
/-- the errors that leave -/
def WeK (K : PySem.W.Frag) (H : Hp) (E : XK) : WE → Prop
  | .nam k x => NamW K k x H E
  | .lim n => (n = 3 → LimC K 3 H E) ∧ (n = 6 → LimC K 6 H E) ∧ (n = 999 → LimC K 999 H E) ∧ (n = 60 → LimC K 60 H E)
/-- the factors of a comparison's term are not too great -/
def DifOk (a : Cd) : Prop := ∃ N M R, a.dif.ok N M R ∧ M ≤ 2 ^ 100
def spWInit (K : PySem.W.Frag) (Pre : List Cd → Prop) : Sp := fun vs H Q E => ∃ x dx g u cv xs c e d H0, vs = [.ref x, .ref g, u, cv] ∧ H x = some (.ins (WhC K) dx []) ∧ H0 x = none ∧ Ex H0 H ∧ (H0 g = some (.lst xs) ∨ H0 g = some (.tup xs)) ∧ xs.length ≤ 900 ∧ (∀ y ∈ xs ++ [u], NmV K H0 y) ∧
  IsCd K H0 e d cv c ∧ (c.dep ≤ 20 ∧ e ≤ 20 ∧ c.atoms.length ≤ 1000 ∧ c.cnms.length ≤ 100000) ∧ (∀ a ∈ c.atoms, DifOk a) ∧ (c.atoms.length ≤ 6 → Pre c.atoms) ∧
  (∀ w, wErr xs u c = some w → WeK K H0 E w) ∧
  (wErr xs u c = none → ∀ us l t ys H', u = .str us → Ex H0 H' → H' x = some (.ins (WhC K) dx (fsW (.ref l) (.int (perL us c.atoms : Nat)) (.ref t) u cv)) → H0 l = none → H' l = some (.lst ys) → Paired (IsCd K H0 e 1) ys c.atoms → (H0 t = none ∨ H0 t = some (.tup xs)) → H' t = some (.tup xs) → Q .non H')
theorem nn_all : ∀ {xs seen : List V}, nnErr seen xs = none → ∀ x ∈ xs, isNameV x = true
  | [], _, _, x, h => nomatch h
  | y :: r, seen, h, x, hx => by
    unfold nnErr at h
    by_cases e : isNameV y = true
    · rw [if_pos e] at h
      by_cases e2 : inV y seen = true
      · rw [if_pos e2] at h
        cases h
      · rw [if_neg e2] at h
        rcases List.mem_cons.mp hx with rfl | hx
        · exact e
        · exact nn_all h x hx
    · rw [if_neg e] at h
      cases h
theorem name_str {x : V} (h : isNameV x = true) : ∃ z, x = .str z ∧ isNameZ z = true := by
  cases x with
  | str z => exact ⟨z, rfl, h⟩
  | _ => cases h
theorem flat_nmv {K : PySem.W.Frag} {H : Hp} {xs : List V} (h : ∀ y ∈ xs, NmV K H y) : xs.all flatV = true := List.all_eq_true.mpr fun y hy => by
  rcases h y hy with ⟨z, rfl, _⟩ | ⟨_, _, _, _, h⟩
  · rfl
  · exact h
theorem NmV.ex {K : PySem.W.Frag} {H H' : Hp} {x : V} (e : Ex H H') (h : NmV K H x) : NmV K H' x := by
  rcases h with h | ⟨n, h1, h2, h3⟩
  · exact .inl h
  · exact .inr ⟨n, h1, TyX.exW e h2, h3⟩
theorem badA_ok {u : Str} {as : List Cd} {i : Nat} {a : Cd} (h : as[i]? = some a) (h0 : badA u (as.take i) = none) (h1 : Tm.bads [u] a.tms = none) : badA u (as.take (i + 1)) = none := by
  induction as generalizing i with
  | nil => cases h
  | cons b r ih =>
    cases i with
    | zero =>
      injection h with h
      subst h
      simp [badA, h1]
    | succ i =>
      rw [List.take_succ_cons, badA, Option.or_eq_none_iff] at h0 ⊢
      exact ⟨h0.1, ih (by simpa using h) h0.2⟩
theorem badA_bad {u : Str} {as : List Cd} {i : Nat} {a : Cd} {z : Str} (h : as[i]? = some a) (h0 : badA u (as.take i) = none) (h1 : Tm.bads [u] a.tms = some z) : badA u as = some z := by
  induction as generalizing i with
  | nil => cases h
  | cons b r ih =>
    cases i with
    | zero =>
      injection h with h
      subst h
      simp [badA, h1]
    | succ i =>
      rw [List.take_succ_cons, badA, Option.or_eq_none_iff] at h0
      rw [badA, h0.1, Option.none_or]
      exact ih (by simpa using h) h0.2
theorem Ex.put {H0 H : Hp} {x : Addr} {o : HO} (e : Ex H0 H) (h : H0 x = none) : Ex H0 (L2.upd H x o) := fun a u hu => (upd_ne (ne_of_none hu h)).trans (e a u hu)
theorem upd2W {H : Hp} {x : Addr} {a b : HO} : L2.upd (L2.upd H x a) x b = L2.upd H x b := by
  funext c
  by_cases h : c = x
  · rw [h, upd_same, upd_same]
  · rw [upd_ne h, upd_ne h, upd_ne h]
theorem find_pos {f : Str → Bool} {ns : List Str} {i : Nat} {z : Str} (h0 : ∀ y ∈ ns.take i, f y = false) (h : ns[i]? = some z) (h1 : f z = true) : ns.find? f = some z := by
  induction ns generalizing i with
  | nil => cases h
  | cons b r ih =>
    cases i with
    | zero =>
      injection h with h
      subst h
      exact List.find?_cons_of_pos h1
    | succ i =>
      rw [List.take_succ_cons] at h0
      rw [List.find?_cons_of_neg (by rw [h0 b (List.mem_cons_self ..)]; decide)]
      exact ih (fun y hy => h0 y (List.mem_cons_of_mem _ hy)) (by simpa using h)
theorem atoms_atom : ∀ (c : Cd), ∀ a ∈ c.atoms, a.isAtom = true
  | .tru, a, h => nomatch h
  | .neg c, a, h => atoms_atom c a h
  | .con x y, a, h => (List.mem_append.mp h).elim (atoms_atom x a) (atoms_atom y a)
  | .dis x y, a, h => (List.mem_append.mp h).elim (atoms_atom x a) (atoms_atom y a)
  | .less s t, a, h => by rw [List.mem_singleton.mp h]; rfl
  | .equ s t, a, h => by rw [List.mem_singleton.mp h]; rfl
  | .res t m r, a, h => by rw [List.mem_singleton.mp h]; rfl
section
variable {P : Program} {w : World} {K : PySem.W.Frag} {mg : Str → Option Value} {base : Heap}
theorem okX_wish_init {k : Nat} {Pre : List Cd → Prop} (hP : IsPG P) (T : Txt K mg)
    (G_need_names : FnOk P w K mg base (L2.CX P w) k (He.ga K "need_names") (fdOf K (He.ga K "need_names")) p_need_names (spNeedN K))
    (G_condition_names : FnOk P w K mg base CX0 k (He.ga K "condition_names") (fdOf K (He.ga K "condition_names")) p_condition_names (spCNms K))
    (G_comparisons : FnOk P w K mg base CX0 k (He.ga K "comparisons") (fdOf K (He.ga K "comparisons")) p_comparisons (spCmps K 19))
    (G_terms_of : FnOk P w K mg base CX0 k (He.ga K "terms_of") (fdOf K (He.ga K "terms_of")) p_terms_of (spTOf K))
    (G_need_flat : FnOk P w K mg base (L2.CX P w) k (He.ga K "need_flat") (fdOf K (He.ga K "need_flat")) p_need_flat (spFlat K 19))
    (G_multiples : FnOk P w K mg base CX0 k (He.ga K "multiples") (fdOf K (He.ga K "multiples")) p_multiples (spMult K 20))
    (G_difference : FnOk P w K mg base CX0 k (He.ga K "difference") (fdOf K (He.ga K "difference")) p_difference (spDif K))
    (G_period_of : FnOk P w K mg base CX0 k (He.ga K "period_of") (fdOf K (He.ga K "period_of")) p_period_of (spPer K Pre)) : FnOk P w K mg base (L2.CX P w) (k + 1) (He.ma K (He.ga K "Wish") "__init__") (fdOf K (He.fAd K ("Wish", some "__init__"))) p_Wish___init__ (spWInit K Pre) := by
  refine FunD.ok T.d_Wish___init__ sc_Wish___init__ (fun vs H Q E h => ?_) (fun cdv A outer s H vs Q E hr h => ?_)
  · obtain ⟨x, dx, g, u, cv, xs, c, e, d, H0, rfl, _⟩ := h
    rfl
  · obtain ⟨x, dx, g, u, cv, xs, c, e, d, H0, rfl, hx, hx0, x0, hg, hxl, hnv, hc, ⟨hd, he, han, hcn⟩, hok, hpre, hE, hQ⟩ := h
    have kC := T.k_Wish
    refine ⟨_, ((pss_cons (ps_set (i := 4) sc_Wish___init__.nd rfl (Or.inl rfl) (pe_lst (StX.pa_star (pv 1) (pa_cons (pv 2) pa_nil) (by rfl))))
    (pss_cons (ps_expr (pe_call G_need_names hr rfl T.g_need_names T.d_need_names.kp (b_need_names T) .nil (passes_call (takes_of rfl rfl rfl rfl) (fun _ _ _ _ h => h)) (pa_cons (pv 4) pa_nil)))
    (pss_cons (ps_if (pt_cmpR op_gt (pe_callB call_lenN (by rfl) T.f_len (by decide +kernel) (pa_cons (pv 4) pa_nil)) (pe_op op_add (pe_gint rfl T.c_MOST_GIVEN) pe_int) (nomark _))
      (pss_one (ps_raise rfl (takes_of rfl rfl rfl rfl) (PW.pmk1 (xmk_LimitReached hP T) (by decide) (raises_own T.x_LimitReached.oex.exC T.x_LimitReached.oex.tyC) T.x_LimitReached.oex.kC T.g_LimitReached hr (pa_cons (pe_gint rfl T.c_MOST_GIVEN) pa_nil) rfl)))
      pss_nil)
    (pss_cons (ps_for (passes_of rfl) rfl (pi_list (pe_call G_condition_names hr rfl T.g_condition_names T.d_condition_names.kp (b_condition_names T) .nil pass0 (pa_cons (pv 3) pa_nil))) (pg_name (i := 5) sc_Wish___init__.nd rfl (Or.inl rfl) (hf := by first | exact Or.inl rfl | exact Or.inr rfl))
      (pss_one (ps_if (pt_cmpR op_notIn_seq (pv 5) (pv 4) rfl)
          (pss_one (ps_raise rfl (takes_of rfl rfl rfl rfl) (PW.pmk1 (xmk_UnknownName hP T) (by decide) (raises_own T.x_UnknownName.oex.exC T.x_UnknownName.oex.tyC) T.x_UnknownName.oex.kC T.g_UnknownName hr (pa_cons (pv 5) pa_nil) rfl)))
          pss_nil)))
    (pss_cons (ps_set (i := 6) sc_Wish___init__.nd rfl (Or.inl rfl) (pe_call G_comparisons hr rfl T.g_comparisons T.d_comparisons.kp (b_comparisons T) .nil pass0 (pa_cons (pv 3) pa_nil)))
    (pss_cons (ps_for (passes_of rfl) rfl (pi_list (pv 6)) (pg_name (i := 7) sc_Wish___init__.nd rfl (Or.inl rfl) (hf := by first | exact Or.inl rfl | exact Or.inr rfl))
      (pss_one (ps_for (passes_of rfl) rfl (pi_list (pe_call G_terms_of hr rfl T.g_terms_of T.d_terms_of.kp (b_terms_of T) .nil pass0 (pa_cons (pv 7) pa_nil))) (pg_name (i := 8) sc_Wish___init__.nd rfl (Or.inl rfl) (hf := by first | exact Or.inl rfl | exact Or.inr rfl))
          (pss_one (ps_expr (pe_call G_need_flat hr rfl T.g_need_flat T.d_need_flat.kp (b_need_flat T) .nil (passes_call (takes_of rfl rfl rfl rfl) (fun _ _ _ _ h => h)) (pa_cons (pv 8) (pa_cons (pe_lst (pa_cons (pv 2) pa_nil)) pa_nil))))))))
    (pss_cons (ps_if (pt_cmpR op_gt (pe_callB call_lenN (by rfl) T.f_len (by decide +kernel) (pa_cons (pv 6) pa_nil)) (pe_gint rfl T.c_MOST_COMPARISONS) (nomark _))
      (pss_one (ps_raise rfl (takes_of rfl rfl rfl rfl) (PW.pmk1 (xmk_LimitReached hP T) (by decide) (raises_own T.x_LimitReached.oex.exC T.x_LimitReached.oex.tyC) T.x_LimitReached.oex.kC T.g_LimitReached hr (pa_cons (pe_gint rfl T.c_MOST_COMPARISONS) pa_nil) rfl)))
      pss_nil)
    (pss_cons (ps_for (passes_of rfl) rfl (pi_list (pv 6)) (pg_name (i := 7) sc_Wish___init__.nd rfl (Or.inl rfl) (hf := by first | exact Or.inl rfl | exact Or.inr rfl))
      (pss_cons (ps_asg (pe_call G_multiples hr rfl T.g_multiples T.d_multiples.kp (b_multiples T) .nil pass0 (pa_cons (pe_call G_difference hr rfl T.g_difference T.d_difference.kp (b_difference T) .nil pass0 (pa_cons (pv 7) pa_nil)) (pa_cons (pv 2) pa_nil))) (pg_tup rfl (pgs_cons (pg_name (i := 9) sc_Wish___init__.nd rfl (Or.inl rfl) (hf := by first | exact Or.inl rfl | exact Or.inr rfl)) (pgs_cons (pg_name (i := 10) sc_Wish___init__.nd rfl (Or.inl rfl) (hf := by first | exact Or.inl rfl | exact Or.inr rfl)) pgs_nil))))
        (pss_one (ps_if (PW.pt (pw_or (pt_cmpR op_gt (pe_callB call_absN (by rfl) T.f_abs (by decide +kernel) (pa_cons (pv 9) pa_nil)) (pe_gint rfl T.c_MOST_MULTIPLE) (nomark _)) (pw_or1 (pt_cmpR op_gt (pe_callB call_absN (by rfl) T.f_abs (by decide +kernel) (pa_cons (pv 10) pa_nil)) (pe_gint rfl T.c_MOST_MULTIPLE) (nomark _)))))
          (pss_one (ps_raise rfl (takes_of rfl rfl rfl rfl) (PW.pmk1 (xmk_LimitReached hP T) (by decide) (raises_own T.x_LimitReached.oex.exC T.x_LimitReached.oex.tyC) T.x_LimitReached.oex.kC T.g_LimitReached hr (pa_cons (pe_gint rfl T.c_MOST_MULTIPLE) pa_nil) rfl)))
          pss_nil))))
    (pss_cons (ps_if (pt_cmpR op_gt (pe_call G_period_of hr rfl T.g_period_of T.d_period_of.kp (b_period_of T) .nil pass0 (pa_cons (pv 6) (pa_cons (pv 2) pa_nil))) (pe_gint rfl T.c_MOST_PERIOD) (nomark _))
      (pss_one (ps_raise rfl (takes_of rfl rfl rfl rfl) (PW.pmk1 (xmk_LimitReached hP T) (by decide) (raises_own T.x_LimitReached.oex.exC T.x_LimitReached.oex.tyC) T.x_LimitReached.oex.kC T.g_LimitReached hr (pa_cons (pe_gint rfl T.c_MOST_PERIOD) pa_nil) rfl)))
      pss_nil)
    (pss_cons (ps_fld (pv 0) (pv 6) rfl)
    (pss_cons (ps_fld (pv 0) (pe_call G_period_of hr rfl T.g_period_of T.d_period_of.kp (b_period_of T) .nil pass0 (pa_cons (pv 6) (pa_cons (pv 2) pa_nil))) rfl)
    (pss_cons (ps_fld (pv 0) (pe_callTy call_tupleN (by rfl) T.f_tuple (by decide +kernel) (pa_cons (pv 1) pa_nil)) rfl)
    (pss_cons (ps_fld (pv 0) (pv 2) rfl)
    (pss_one (ps_fld (pv 0) (pv 3) rfl)))))))))))))))), ?_⟩
    show tSeq _ _ _ [some (.ref x), some (.ref g), some u, some cv, none, none, none, none, none, none, none] H
    walk_at "K"
    have hg1 := hg.imp (x0 _ _) (x0 _ _)
    walk_at "go"
    unfold StX.tStar
    walk_at "go"
    refine ⟨g, xs, rfl, hg1.elim (fun z => .inr (SqL.of z)) (fun z => .inl (SqT.of z)), ?_⟩
    walk_at "go"
    have hlen : (xs ++ [u]).length = xs.length + 1 := by rw [List.length_append, List.length_singleton]
    refine ⟨Nat.le_trans (show (xs ++ [u]).length ≤ 1000 by omega) (by decide), fun p hp => ?_⟩
    have x1 : Ex H0 (L2.upd H p (.lst (xs ++ [u]))) := x0.trans (Ex.new hp)
    walk_at "go"
    refine ⟨p, xs ++ [u], rfl, upd_same, by omega, fun y hy => (hnv y hy).ex x1, ?_⟩
    cases hn : nnErr [] (xs ++ [u]) with
    | some kx =>
      obtain ⟨kk, y⟩ := kx
      have := hE (.nam kk y) (by unfold wErr; rw [hn])
      exact ⟨fun e => (this.1 e).on x1, fun e => (this.2.1 e).on x1⟩
    | none =>
      intro H2 x2
      obtain ⟨us, rfl, hus⟩ := name_str (nn_all hn u (List.mem_append_right _ (List.mem_singleton.mpr rfl)))
      have hso := nm_ok (ns := [us]) (fun y hy => by rw [List.mem_singleton.mp hy]; exact isNm_iff.mp hus) us List.mem_cons_self
      have ew : wErr xs (.str us) c = wErr2 (xs ++ [.str us]) us c := by unfold wErr; rw [hn]
      rw [ew] at hE hQ
      have hp2 := x2 _ _ (upd_same (H := H) (a := p) (o := .lst (xs ++ [.str us])))
      have hx2 := x2 _ _ (Ex.new (o := .lst (xs ++ [.str us])) hp _ _ hx)
      replace x2 := x1.trans x2
      clear x1 hx hg1
      generalize hN : xs ++ [V.str us] = ns at *
      have hfl : ns.all flatV = true := flat_nmv hnv
      walk_at "go"
      by_cases h4 : ns.length > 4
      · refine r_ifT' (decide_eq_true (by omega)) ?_
        walk_at "go"
        have q := hE (.lim 3) (by unfold wErr2; rw [if_pos h4])
        exact ⟨_, rfl, fun d hd => ((q.1 rfl).on x2).new hd⟩
      refine r_ifF' (decide_eq_false (by omega)) ?_
      unfold wErr2 at hE hQ
      rw [if_neg h4] at hE hQ
      walk_at "go"
      refine ⟨cv, c, e, d, rfl, hc.ex x2, hd, he, by omega, hcn, fun l H3 x3 hl0 hl => ?_⟩
      have hp3 := x3 _ _ hp2
      have hx3 := x3 _ _ hx2
      replace x3 := x2.trans x3
      clear x2 hp2 hx2
      walk_at "go"
      refine for_it (walk_list (xs := c.cnms.map V.str)) (fun i σ H' => (∃ y, σ = [some (V.ref x), some (V.ref g), some (V.str us), some cv, some (V.ref p), y, none, none, none, none, none]) ∧ H' = H3 ∧ ∀ y ∈ c.cnms.take i, (fun z => !inV (.str z) ns) y = false) ⟨⟨_, rfl⟩, rfl, fun y hy => by rw [List.take_zero] at hy; exact nomatch hy⟩ (fun i σ H' _ h => ?_) ?_ ?_
      · obtain ⟨_, rfl, _⟩ := h
        exact SqL.of hl
      · rintro i z σ H4 H4' hi ⟨⟨y, rfl⟩, rfl, hz⟩ ⟨rfl, hx⟩
        rw [List.getElem?_map] at hx
        obtain ⟨z, hu, rfl⟩ := Option.map_eq_some_iff.mp hx
        walk_at "go"
        refine ⟨p, ns, rfl, .inl (SqL.of hp3), rfl, hfl, ?_⟩
        cases hb : inV (.str z) ns with
        | true =>
          walk_at "go"
          refine ⟨⟨_, rfl⟩, rfl, fun y hy => ?_⟩
          rw [List.take_add_one, hu] at hy
          rcases List.mem_append.mp hy with q | q
          · exact hz y q
          · rw [List.mem_singleton.mp q]
            show (!inV (V.str z) ns) = false
            rw [hb]
            rfl
        | false =>
          walk_at "go"
          rw [find_pos (f := fun z => !inV (.str z) ns) hz hu (by show (!inV (V.str z) ns) = true; rw [hb]; rfl)] at hE
          have q := hE _ rfl
          exact ⟨_, rfl, _, rfl, fun d hd => ((q.2.2.1 rfl).on x3).new hd⟩
      · rintro σ H4 ⟨⟨y, rfl⟩, rfl, hz⟩
        rw [List.length_map, List.take_length] at hz
        have hfn : c.cnms.find? (fun z => !inV (.str z) ns) = none := List.find?_eq_none.mpr fun y hy => by
          have := hz y hy
          simp only at this
          rw [this]
          decide
        rw [hfn] at hE hQ
        simp only at hE hQ
        walk_at "go"
        refine ⟨cv, c, e, d, H0, rfl, x3, hc, by omega, by omega, fun lr ys H5 x5 hlr0 hlr hys => ?_⟩
        walk_at "go"
        have hx5 := x5 _ _ hx3
        replace x5 := x3.trans x5
        have hsz : ys.length = c.atoms.length := pr_len hys
        have hlr00 : H0 lr = none := by
          cases q : H0 lr with
          | none => rfl
          | some o => rw [x3 _ _ q] at hlr0; cases hlr0
        clear x3 hp3 hx3 hl hl0
        refine for_it (walk_list (xs := ys)) (fun i σ H' => (∃ y7 y8, σ = [some (V.ref x), some (V.ref g), some (V.str us), some cv, some (V.ref p), y, some (V.ref lr), y7, y8, none, none]) ∧ Ex H5 H' ∧ badA us (c.atoms.take i) = none) ⟨⟨_, _, rfl⟩, Ex.refl _, rfl⟩ (fun i σ H' _ h => SqL.of (h.2.1 _ _ hlr)) ?_ ?_
        · rintro i v σ H6 H6' hi ⟨⟨y7, y8, rfl⟩, x6, hb⟩ ⟨rfl, hv⟩
          obtain ⟨a, ha, hva⟩ := pr_get hys hv
          have hmem := List.mem_of_getElem? ha
          walk_at "go"
          refine ⟨v, a, e, 1, H0, rfl, x5.trans x6, hva, atoms_atom c a hmem, fun lt ts H7 x7 hlt0 hlt hts => ?_⟩
          replace x7 := x6.trans x7
          have htl : ts.length = a.tms.length := pr_len hts
          walk_at "go"
          refine for_it (walk_list (xs := ts)) (fun j σ H' => (∃ y8, σ = [some (V.ref x), some (V.ref g), some (V.str us), some cv, some (V.ref p), y, some (V.ref lr), some v, y8, none, none]) ∧ Ex H5 H' ∧ H' lt = some (.lst ts) ∧ Tm.bads [us] (a.tms.take j) = none) ⟨⟨_, rfl⟩, x7, hlt, rfl⟩ (fun j σ H' _ h => SqL.of h.2.2.1) ?_ ?_
          · rintro j w1 σ H8 H8' hj ⟨⟨y8, rfl⟩, x8, hlt8, hbj⟩ ⟨rfl, hw⟩
            obtain ⟨t, ht, hwt⟩ := pr_get hts hw
            walk_at "go"
            intro r hr0
            have x9 := x8.trans (Ex.new (o := .lst [V.str us]) hr0)
            have x09 := x5.trans x9
            refine ⟨w1, r, t, e, [us], rfl, hwt.ex x09, ?_, ?_, upd_same, ?_⟩
            · have := hwt.depth
              omega
            · have h1 := cnmss_take (l := c.atoms) (k := i + 1)
              rw [cnmss_get ha, List.length_append] at h1
              have h2 := Tm.nmss_take (l := a.tms) (k := j + 1)
              rw [nmss_get ht, List.length_append] at h2
              have h3 : (cnmss c.atoms).length ≤ 100000 := hcn
              have h4 : a.anms.length = (Tm.nmss a.tms).length := rfl
              omega
            · cases hbt : t.bad [us] with
              | none =>
                intro H10 x10
                walk_at "go"
                exact ⟨⟨_, rfl⟩, x9.trans x10, x10 _ _ (Ex.new (o := .lst [V.str us]) hr0 _ _ hlt8), Tm.bads_ok ht hbj hbt⟩
              | some z =>
                rw [badA_bad ha hb (Tm.bads_bad ht hbj hbt)] at hE
                exact ((hE _ rfl).2.2.2 rfl).on x09
          · rintro σ H8 ⟨⟨y8, rfl⟩, x8, hlt8, hbj⟩
            rw [htl, List.take_length] at hbj
            walk_at "go"
            exact ⟨⟨_, _, rfl⟩, x8, badA_ok ha hb hbj⟩
        · rintro σ H6 ⟨⟨y7, y8, rfl⟩, x6, hb⟩
          rw [hsz, List.take_length] at hb
          rw [hb] at hE hQ
          simp only at hE hQ
          have hx6 := x6 _ _ hx5
          have hlr6 := x6 _ _ hlr
          replace x6 := x5.trans x6
          walk_at "go"
          by_cases h6 : c.atoms.length > 6
          · refine r_ifT' (decide_eq_true (by omega)) ?_
            walk_at "go"
            rw [if_pos h6] at hE
            exact ⟨_, rfl, fun d hd => (((hE _ rfl).2.1 rfl).on x6).new hd⟩
          refine r_ifF' (decide_eq_false (by omega)) ?_
          rw [if_neg h6] at hE hQ
          walk_at "go"
          refine for_it (walk_list (xs := ys)) (fun i σ H' => (∃ y7 y9 y10, σ = [some (V.ref x), some (V.ref g), some (V.str us), some cv, some (V.ref p), y, some (V.ref lr), y7, y8, y9, y10]) ∧ Ex H6 H' ∧ (c.atoms.take i).any (Cd.big us) = false) ⟨⟨_, _, _, rfl⟩, Ex.refl _, rfl⟩ (fun i σ H' _ h => SqL.of (h.2.1 _ _ hlr6)) ?_ ?_
          · rintro i v σ H7 H7' hi ⟨⟨y7, y9, y10, rfl⟩, x7, hb7⟩ ⟨rfl, hv⟩
            obtain ⟨a, ha, hva⟩ := pr_get hys hv
            have hmem := List.mem_of_getElem? ha
            obtain ⟨N, M, R, hok, hM⟩ := hok a hmem
            walk_at "go"
            refine ⟨v, a, e, 1, rfl, hva.ex (x6.trans x7), atoms_atom c a hmem, fun w1 H8 x8 hw1 => ?_⟩
            walk_at "go"
            refine ⟨w1, us, a.dif, e + 1, N, M, R, rfl, hw1, ?_, hok, hM, hso, fun q H9 x9 hq => ?_⟩
            · have := hw1.depth
              omega
            walk_at "go"
            have x69 := (x7.trans x8).trans x9
            have bigE : a.big us = true → LimC K 999 H9 E := fun hb => by
              rw [if_pos (List.any_eq_true.mpr ⟨a, hmem, hb⟩)] at hE
              exact ((hE _ rfl).2.2.1 rfl).on (x6.trans x69)
            refine r_if2 (fun e1 => ?_) (fun e1 => ?_)
            · walk_at "go"
              have hb : a.big us = true := by
                unfold Cd.big
                rw [e1]
                rfl
              exact ⟨_, rfl, fun d hd => (bigE hb).new hd⟩
            · walk_at "go"
              refine r_if2 (fun e2 => ?_) (fun e2 => ?_)
              · walk_at "go"
                have hb : a.big us = true := by
                  unfold Cd.big
                  rw [e1, e2]
                  rfl
                exact ⟨_, rfl, fun d hd => (bigE hb).new hd⟩
              · walk_at "go"
                have hb : a.big us = false := by
                  unfold Cd.big
                  rw [e1, e2]
                  rfl
                refine ⟨⟨_, _, _, rfl⟩, x69, ?_⟩
                rw [List.take_add_one, ha, List.any_append, hb7]
                show (false || (a.big us || false)) = false
                rw [hb]
                rfl
          · rintro σ H7 ⟨⟨y7, y9, y10, rfl⟩, x7, hb7⟩
            rw [hsz, List.take_length] at hb7
            rw [hb7] at hE hQ
            simp only [Bool.false_eq_true, if_false] at hE hQ
            have hx7 := x7 _ _ hx6
            have hlr7 := x7 _ _ hlr6
            replace x7 := x6.trans x7
            walk_at "go"
            refine ⟨lr, us, e, ys, c.atoms, H0, rfl, x7, hlr7, hys, atoms_atom c, by omega, hso, hpre (Nat.le_of_not_gt h6), fun H8 x8 => ?_⟩
            walk_at "go"
            by_cases h60 : perL us c.atoms > 60
            · refine r_ifT' (decide_eq_true (by omega)) ?_
              walk_at "go"
              rw [if_pos h60] at hE
              exact ⟨_, rfl, fun d hd => (((hE _ rfl).2.2.2 rfl).on (x7.trans x8)).new hd⟩
            refine r_ifF' (decide_eq_false (by omega)) ?_
            rw [if_neg h60] at hQ
            have hx8 := x8 _ _ hx7
            have hlr8 := x8 _ _ hlr7
            replace x8 := x7.trans x8
            have n1 := T.n_Wish_rows
            have n2 := T.n_Wish_own_period
            have n3 := T.n_Wish_own_given
            have n4 := T.n_Wish_own_unknown
            have n5 := T.n_Wish_own_condition
            have hxl : lr ≠ x := fun z => by
              rw [z, hx8] at hlr8
              cases hlr8
            walk_at "go"
            have y1 := Ex.put (o := .ins (WhC K) dx [("rows", V.ref lr)]) x8 hx0
            refine ⟨lr, us, e, ys, c.atoms, H0, rfl, y1, (upd_ne hxl).trans hlr8, hys, atoms_atom c, by omega, hso, hpre (Nat.le_of_not_gt h6), fun H9 x9 => ?_⟩
            have hx9 := x9 _ _ (upd_same (H := H8) (a := x) (o := .ins (WhC K) dx [("rows", V.ref lr)]))
            have hlr9 := x9 _ _ ((upd_ne hxl).trans hlr8)
            replace x9 := y1.trans x9
            walk_at "go"
            have z0 : putF "own_period" (V.int (perL us c.atoms : Nat)) ([("rows", V.ref lr)] : List (Str × V)) = ([("rows", V.ref lr), ("own_period", V.int (perL us c.atoms : Nat))] : List (Str × V)) := rfl
            rw [z0]
            have y2 := Ex.put (o := .ins (WhC K) dx [("rows", V.ref lr), ("own_period", V.int (perL us c.atoms : Nat))]) x9 hx0
            rcases hg with hg | hg
            · refine r_cTupleL (SqL.of (y2 _ _ hg)) fun t ht => ?_
              have htx : t ≠ x := fun z => by
                rw [z, upd_same] at ht
                cases ht
              walk_at "go"
              have hlt : lr ≠ t := fun z => by
                rw [upd_ne htx, ← z, hlr9] at ht
                cases ht
              have ht00 : H0 t = none := by
                cases q : H0 t with
                | none => rfl
                | some o => rw [y2 _ _ q] at ht; cases ht
              have fin := hQ rfl us lr t ys (L2.upd (L2.upd (L2.upd H9 x (.ins (WhC K) dx [("rows", V.ref lr), ("own_period", V.int (perL us c.atoms : Nat))])) t (.tup xs)) x (.ins (WhC K) dx (fsW (.ref lr) (.int (perL us c.atoms : Nat)) (.ref t) (.str us) cv))) rfl (Ex.put (y2.trans (Ex.new ht)) hx0) upd_same hlr00 ((upd_ne hxl).trans ((upd_ne hlt).trans ((upd_ne hxl).trans hlr9))) hys (.inl ht00) ((upd_ne htx).trans upd_same)
              rw [upd2W, upd2W]
              exact fin
            · have hgx : g ≠ x := fun z => by
                rw [z, hx0] at hg
                cases hg
              refine ⟨g, xs, rfl, .inr ⟨SqT.of (y2 _ _ hg), ?_⟩⟩
              walk_at "go"
              have fin := hQ rfl us lr g ys (L2.upd (L2.upd H9 x (.ins (WhC K) dx [("rows", V.ref lr), ("own_period", V.int (perL us c.atoms : Nat))])) x (.ins (WhC K) dx (fsW (.ref lr) (.int (perL us c.atoms : Nat)) (.ref g) (.str us) cv))) rfl (Ex.put y2 hx0) upd_same hlr00 ((upd_ne hxl).trans ((upd_ne hxl).trans hlr9)) hys (.inr hg) ((upd_ne hgx).trans (y2 _ _ hg))
              rw [upd2W, upd2W]
              exact fin
end
end PW
/-! ### the forms of comparisons -/
namespace PW
open PySem PySem.Spec PyProof.Rows L2
/-- how often a comparison has the power, the unknown, and the term of the rest -/
def IsFm (K : PySem.W.Frag) (H : Hp) (d : Nat) (u : Str) (v : V) (c : Cd) : Prop := ∃ p tv, v = .ref p ∧ H p = some (.tup [.int (c.dif.mul u).1, .int (c.dif.mul u).2, tv]) ∧ IsTm K H d tv (c.dif.wo [u])
theorem IsFm.te {K : PySem.W.Frag} {H H' : Hp} {d : Nat} {u : Str} {v : V} {c : Cd} (x : TE H H') (h : IsFm K H d u v c) : IsFm K H' d u v c := by
  obtain ⟨p, tv, e, h1, h2⟩ := h
  exact ⟨p, tv, e, x _ _ h1, h2.te x⟩
theorem IsFm.ex {K : PySem.W.Frag} {H H' : Hp} {d : Nat} {u : Str} {v : V} {c : Cd} (x : Ex H H') (h : IsFm K H d u v c) : IsFm K H' d u v c := h.te (TE.of x)
theorem prd_teF {K : PySem.W.Frag} {H H' : Hp} {d : Nat} {u : Str} (x : TE H H') {zs : List V} {cs : List Cd} (h : Paired (IsFm K H d u) zs cs) : Paired (IsFm K H' d u) zs cs := L2.Paired.mapP h fun _ _ z => z.te x
def spForms (K : PySem.W.Frag) : Sp := fun vs H Q _ => ∃ l u e ys cs H0, vs = [.ref l, .str u] ∧ Ex H0 H ∧ H l = some (.lst ys) ∧ Paired (IsCd K H0 e 1) ys cs ∧ (∀ a ∈ cs, a.isAtom = true) ∧ e ≤ 20 ∧ PyData.strOk u = true ∧ cs.length ≤ 1000 ∧ (∀ a ∈ cs, DifOk a) ∧
  ∀ f zs H', Ex H H' → H f = none → H' f = some (.lst zs) → Paired (IsFm K H' (e + 1) u) zs cs → Q (.ref f) H'
section
variable {P : Program} {w : World} {K : PySem.W.Frag} {mg : Str → Option Value} {base : Heap}
theorem ok_forms_of {k : Nat} (T : Txt K mg)
    (G_difference : FnOk P w K mg base CX0 k (He.ga K "difference") (fdOf K (He.ga K "difference")) p_difference (spDif K))
    (G_multiples : FnOk P w K mg base CX0 k (He.ga K "multiples") (fdOf K (He.ga K "multiples")) p_multiples (spMult K 20))
    (G_without : FnOk P w K mg base CX0 k (He.ga K "without") (fdOf K (He.ga K "without")) p_without (spWo K 20)) : FnOk P w K mg base CX0 (k + 1) (He.ga K "forms_of") (fdOf K (He.ga K "forms_of")) p_forms_of (spForms K) := by
  refine FunD.ok T.d_forms_of sc_forms_of (fun vs H Q E h => ?_) (fun cdv A outer s H vs Q E hr h => ?_)
  · obtain ⟨l, u, e, ys, cs, H0, rfl, _⟩ := h
    rfl
  · obtain ⟨l, u, e, ys, cs, H0, rfl, x0, hl, hys, hat, he, hu, hn, hok, hQ⟩ := h
    refine ⟨_, PSs.nox ((pss_cons (ps_set (i := 2) sc_forms_of.nd rfl (Or.inl rfl) (pe_lst pa_nil))
    (pss_cons (ps_for PassesOwn.never rfl (pi_list (pv 0)) (pg_name (i := 3) sc_forms_of.nd rfl (Or.inl rfl) (hf := by first | exact Or.inl rfl | exact Or.inr rfl))
      (pss_cons (ps_set (i := 4) sc_forms_of.nd rfl (Or.inl rfl) (pe_call G_difference hr rfl T.g_difference T.d_difference.kp (b_difference T) .nil pass0 (pa_cons (pv 3) pa_nil)))
        (pss_cons (ps_asg (pe_call G_multiples hr rfl T.g_multiples T.d_multiples.kp (b_multiples T) .nil pass0 (pa_cons (pv 4) (pa_cons (pv 1) pa_nil))) (pg_tup rfl (pgs_cons (pg_name (i := 5) sc_forms_of.nd rfl (Or.inl rfl) (hf := by first | exact Or.inl rfl | exact Or.inr rfl)) (pgs_cons (pg_name (i := 6) sc_forms_of.nd rfl (Or.inl rfl) (hf := by first | exact Or.inl rfl | exact Or.inr rfl)) pgs_nil))))
        (pss_one (ps_expr (pe_bm PySem.F.plainAttrs_list PySem.F.slot_list_append PySem.F.type_list_append mt_append (pv 2) (pa_cons (pe_tup (pa_cons (pv 5) (pa_cons (pv 6) (pa_cons (pe_call G_without hr rfl T.g_without T.d_without.kp (b_without T) .nil pass0 (pa_cons (pv 4) (pa_cons (pe_lst (pa_cons (pv 1) pa_nil)) pa_nil))) pa_nil)))) pa_nil)))))))
    (pss_one (ps_ret (pv 2)))))), ?_⟩
    show tSeq _ _ _ [some (.ref l), some (.str u), none, none, none, none, none] H
    walk_at "K"
    walk_at "go"
    intro f hf
    have nfl : l ≠ f := ne_of_none hl hf
    have keep : ∀ {H2 : Hp} {o : HO}, Ex H H2 → Ex H (L2.upd H2 f o) := fun x b u hb => (upd_ne fun z => by rw [z, hf] at hb; cases hb).trans (x _ _ hb)
    have hlen := pr_len hys
    walk_at "go"
    refine for_it (walk_list (xs := ys)) (fun i σ H' => (∃ y3 y4 y5 y6, σ = [some (.ref l), some (.str u), some (.ref f), y3, y4, y5, y6]) ∧ Ex H H' ∧ ∃ zs, H' f = some (.lst zs) ∧ Paired (IsFm K H' (e + 1) u) zs (cs.take i)) ⟨⟨_, _, _, _, rfl⟩, Ex.new hf, [], upd_same, by rw [List.take_zero]; exact .nil⟩ (fun i σ H' _ h => SqL.of (h.2.1 _ _ hl)) ?_ ?_
    · rintro i x σ H1 H1' hi ⟨⟨y3, y4, y5, y6, rfl⟩, x1, zs, hf1, hzs⟩ ⟨rfl, hx⟩
      obtain ⟨c, hc, hv⟩ := pr_get hys hx
      have hm := List.mem_of_getElem? hc
      obtain ⟨N, M, R, ho, hM⟩ := hok c hm
      walk_at "go"
      refine ⟨x, c, e, 1, rfl, hv.ex (x0.trans x1), hat c hm, fun tv H2 x2 htv => ?_⟩
      walk_at "go"
      refine ⟨tv, u, c.dif, e + 1, N, M, R, rfl, htv, by have := htv.depth; omega, ho, hM, hu, fun p H3 x3 hp => ?_⟩
      have hf3 := x3 _ _ (x2 _ _ hf1)
      walk_at "go"
      intro g hg
      have x4 := (x2.trans x3).trans (Ex.new (o := .lst [V.str u]) hg)
      have htv4 := (htv.ex x3).ex (Ex.new (o := .lst [V.str u]) hg)
      walk_at "go"
      refine ⟨tv, g, c.dif, e + 1, [u], rfl, htv4, upd_same, by have := htv.depth; omega, fun tw H5 x5 htw => ?_⟩
      walk_at "go"
      intro q hq
      have x6 := (x4.trans x5).trans (Ex.new (o := .tup [V.int (c.dif.mul u).1, V.int (c.dif.mul u).2, tw]) hq)
      have hf6 := x6 _ _ hf1
      have hfm : IsFm K (L2.upd H5 q (.tup [V.int (c.dif.mul u).1, V.int (c.dif.mul u).2, tw])) (e + 1) u (.ref q) c := ⟨q, tw, rfl, upd_same, htw.ex (Ex.new hq)⟩
      have hzs6 := prd_teF (TE.of x6) hzs
      have x16 := x1.trans x6
      generalize L2.upd H5 q (.tup [V.int (c.dif.mul u).1, V.int (c.dif.mul u).2, tw]) = H6 at hf6 hfm hzs6 x16 ⊢
      clear x2 x3 x4 x5 x6 hg hq htv htv4 htw hp
      have hzl := pr_len hzs6
      rw [List.length_take] at hzl
      walk_at "go"
      refine r_append hf6 (Nat.lt_of_le_of_lt (show zs.length ≤ 1000 by omega) (by decide)) ?_
      walk_at "go"
      have te := TE.upd (l' := zs ++ [V.ref q]) hf6
      refine ⟨⟨_, _, _, _, rfl⟩, keep x16, zs ++ [.ref q], upd_same, ?_⟩
      rw [List.take_add_one, hc]
      exact prd_app (prd_teF te hzs6) (.cons (hfm.te te) .nil)
    · rintro σ H1 ⟨⟨y3, y4, y5, y6, rfl⟩, x1, zs, hf1, hzs⟩
      rw [hlen, List.take_length] at hzs
      walk_at "go"
      exact hQ f zs H1 x1 hf hf1 hzs
end
end PW
/-! ### a wish with its rows: need_plain, forms, period -/
namespace PW
open PySem PySem.Spec PyProof.Rows L2
/-- a wish in the heap, with its comparisons -/
structure IsWr (K : PySem.W.Frag) (H : Hp) (x : Addr) (gs : List Str) (u : Str) (c : Cd) (per : Nat) (e d : Nat) : Prop where
  ex : ∃ dx l t cv ys, H x = some (.ins (WhC K) dx (fsW (.ref l) (.int (per : Nat)) (.ref t) (.str u) cv)) ∧ H t = some (.tup (gs.map V.str)) ∧ IsCd K H e d cv c ∧ H l = some (.lst ys) ∧ Paired (IsCd K H e 1) ys c.atoms
theorem IsWr.up {K : PySem.W.Frag} {H H' : Hp} {x : Addr} {gs : List Str} {u : Str} {c : Cd} {per e d : Nat} (y : Ex H H') (h : IsWr K H x gs u c per e d) : IsWr K H' x gs u c per e d := by
  obtain ⟨dx, l, t, cv, ys, h1, h2, h3, h4, h5⟩ := h.ex
  exact ⟨dx, l, t, cv, ys, y _ _ h1, y _ _ h2, h3.ex y, y _ _ h4, prd_exC y h5⟩
def spNeedP (K : PySem.W.Frag) : Sp := fun vs H Q _ => ∃ x gs u c per e d, vs = [.ref x] ∧ IsWr K H x gs u c per e d ∧ (c.dep ≤ 17 ∧ e ≤ 17 ∧ c.atoms.length ≤ 1000) ∧ c.ccns = [] ∧ ∀ H', Ex H H' → Q .non H'
def spWForms (K : PySem.W.Frag) : Sp := fun vs H Q _ => ∃ x gs u c per e d, vs = [.ref x] ∧ IsWr K H x gs u c per e d ∧ (e ≤ 20 ∧ c.atoms.length ≤ 1000) ∧ PyData.strOk u = true ∧ (∀ a ∈ c.atoms, DifOk a) ∧ ∀ f zs H', Ex H H' → H f = none → H' f = some (.lst zs) → Paired (IsFm K H' (e + 1) u) zs c.atoms → Q (.ref f) H'
def spWPerF (K : PySem.W.Frag) : Sp := fun vs H Q _ => ∃ x gs u c per e d, vs = [.ref x] ∧ IsWr K H x gs u c per e d ∧ Q (.int (per : Nat)) H
section
variable {P : Program} {w : World} {K : PySem.W.Frag} {mg : Str → Option Value} {base : Heap}
theorem ok_need_plain {k : Nat} (T : Txt K mg)
    (G_condition_calls : FnOk P w K mg base CX0 k (He.ga K "condition_calls") (fdOf K (He.ga K "condition_calls")) p_condition_calls (spCCns K)) : FnOk P w K mg base CX0 (k + 1) (He.ma K (He.ga K "Wish") "need_plain") (fdOf K (He.fAd K ("Wish", some "need_plain"))) p_Wish_need_plain (spNeedP K) := by
  refine FunD.ok T.d_Wish_need_plain sc_Wish_need_plain (fun vs H Q E h => ?_) (fun cdv A outer s H vs Q E hr h => ?_)
  · obtain ⟨x, gs, u, c, per, e, d, rfl, _⟩ := h
    rfl
  · obtain ⟨x, gs, u, c, per, e, d, rfl, hW, ⟨hd, he, hA⟩, hc0, hQ⟩ := h
    obtain ⟨dx, l, t, cv, ys, h1, h2, h3, h4, h5⟩ := hW.ex
    have kC := T.k_Wish
    have n1 := T.n_Wish_own_condition
    refine ⟨_, PSs.nox ((pss_one (ps_for PassesOwn.never rfl (pi_list (pe_call G_condition_calls hr rfl T.g_condition_calls T.d_condition_calls.kp (b_condition_calls T) .nil pass0 (pa_cons (pe_fld (pv 0) rfl) pa_nil))) (pg_name (i := 1) sc_Wish_need_plain.nd rfl (Or.inl rfl) (hf := by first | exact Or.inl rfl | exact Or.inr rfl))
      (pss_one ps_never)))), ?_⟩
    show tFor _ _ _ _ [some (.ref x), none] H
    walk_at "K"
    walk_at "go"
    refine ⟨cv, c, e, d, rfl, h3, hd, he, Nat.le_trans hA (by decide), by rw [hc0]; exact Nat.zero_le _, fun l2 H2 x2 hl0 hl2 => ?_⟩
    rw [hc0] at hl2
    walk_at "go"
    refine for_it (walk_list (xs := [])) (fun _ σ H' => σ = [some (.ref x), none] ∧ H' = H2) ⟨rfl, rfl⟩ (fun _ _ _ _ h => by rw [h.2]; exact SqL.of hl2) (fun i x σ H' H'' hi => absurd hi (Nat.not_lt_zero _)) ?_
    rintro σ H' ⟨rfl, rfl⟩
    exact hQ _ x2
theorem ok_wforms {k : Nat} (T : Txt K mg)
    (G_forms_of : FnOk P w K mg base CX0 k (He.ga K "forms_of") (fdOf K (He.ga K "forms_of")) p_forms_of (spForms K)) : FnOk P w K mg base CX0 (k + 1) (He.ma K (He.ga K "Wish") "forms") (fdOf K (He.fAd K ("Wish", some "forms"))) p_Wish_forms (spWForms K) := by
  refine FunD.ok T.d_Wish_forms sc_Wish_forms (fun vs H Q E h => ?_) (fun cdv A outer s H vs Q E hr h => ?_)
  · obtain ⟨x, gs, u, c, per, e, d, rfl, _⟩ := h
    rfl
  · obtain ⟨x, gs, u, c, per, e, d, rfl, hW, ⟨he, hA⟩, hu, hok, hQ⟩ := h
    obtain ⟨dx, l, t, cv, ys, h1, h2, h3, h4, h5⟩ := hW.ex
    have kC := T.k_Wish
    have n1 := T.n_Wish_rows
    have n2 := T.n_Wish_own_unknown
    refine ⟨_, PSs.nox ((pss_one (ps_ret (pe_call G_forms_of hr rfl T.g_forms_of T.d_forms_of.kp (b_forms_of T) .nil pass0 (pa_cons (pe_fld (pv 0) rfl) (pa_cons (pe_fld (pv 0) rfl) pa_nil)))))), ?_⟩
    show tRet _ _ [some (.ref x)] H
    walk_at "K"
    walk_at "go"
    exact ⟨l, u, e, ys, c.atoms, H, rfl, Ex.refl _, h4, h5, atoms_atom c, he, hu, hA, hok, hQ⟩
theorem ok_wperF {k : Nat} (T : Txt K mg) : FnOk P w K mg base CX0 (k + 1) (prA "Wish" "period" K) (fdOf K (prA "Wish" "period" K)) p_Wish_period (spWPerF K) := by
  refine FunD.ok T.d_Wish_period sc_Wish_period (fun vs H Q E h => ?_) (fun cdv A outer s H vs Q E hr h => ?_)
  · obtain ⟨x, gs, u, c, per, e, d, rfl, _⟩ := h
    rfl
  · obtain ⟨x, gs, u, c, per, e, d, rfl, hW, hQ⟩ := h
    obtain ⟨dx, l, t, cv, ys, h1, h2, h3, h4, h5⟩ := hW.ex
    have kC := T.k_Wish
    have n1 := T.n_Wish_own_period
    refine ⟨_, PSs.nox ((pss_one (ps_ret (pe_fld (pv 0) rfl)))), ?_⟩
    show tRet _ _ [some (.ref x)] H
    walk_at "K"
    walk_at "go"
    exact hQ
end
end PW
/-! ### bits -/
namespace PW
open PySem PySem.Spec PyProof.Rows L2
abbrev bt (i : Int) : Nat := Builtin.Int.intBits i
theorem bt_le {k : Nat} {i : Int} : bt i ≤ k ↔ i.natAbs < 2 ^ k := by
  unfold bt Builtin.Int.intBits
  by_cases h0 : i = 0
  · subst h0
    have hp : 0 < 2 ^ k := Nat.two_pow_pos k
    simp [hp]
  · have hb : (i == 0) = false := by simpa using h0
    have hne : i.natAbs ≠ 0 := by omega
    rw [hb]
    simp only [Bool.false_eq_true, if_false]
    rw [← Nat.log2_lt hne]
    exact Nat.succ_le_iff
theorem bt_self (i : Int) : i.natAbs < 2 ^ bt i := bt_le.mp (Nat.le_refl _)
theorem bt_zero : bt 0 = 0 := rfl
theorem bt_neg (i : Int) : bt (-i) = bt i := by
  have h1 : bt (-i) ≤ bt i := bt_le.mpr (by rw [Int.natAbs_neg]; exact bt_self i)
  have h2 : bt i ≤ bt (-i) := bt_le.mpr (by have := bt_self (-i); rwa [Int.natAbs_neg] at this)
  omega
theorem bt_pos {i : Int} (h : i ≠ 0) : 1 ≤ bt i := by
  rcases Nat.eq_zero_or_pos (bt i) with e | e
  · have := bt_self i
    rw [e] at this
    omega
  · exact e
theorem bt_low {i : Int} (h : i ≠ 0) : 2 ^ (bt i - 1) ≤ i.natAbs := by
  rcases Nat.lt_or_ge i.natAbs (2 ^ (bt i - 1)) with q | q
  · have h1 := bt_le.mpr q
    have h2 := bt_pos h
    omega
  · exact q
theorem bt_add (i j : Int) : bt (i + j) ≤ max (bt i) (bt j) + 1 := by
  refine bt_le.mpr ?_
  have h1 := bt_self i
  have h2 := bt_self j
  have h3 : 2 ^ bt i ≤ 2 ^ max (bt i) (bt j) := Nat.pow_le_pow_right (by decide) (Nat.le_max_left ..)
  have h4 : 2 ^ bt j ≤ 2 ^ max (bt i) (bt j) := Nat.pow_le_pow_right (by decide) (Nat.le_max_right ..)
  rw [Nat.pow_succ]
  omega
theorem bt_mul (i j : Int) : bt (i * j) ≤ bt i + bt j := by
  refine bt_le.mpr ?_
  rw [Int.natAbs_mul, Nat.pow_add]
  exact Nat.mul_lt_mul'' (bt_self i) (bt_self j)
/-- times a factor that is not above 2 ^ k -/
theorem bt_mulK (i : Int) {j : Int} {k : Nat} (h : j.natAbs ≤ 2 ^ k) : bt (i * j) ≤ bt i + k := by
  refine bt_le.mpr ?_
  rw [Int.natAbs_mul, Nat.pow_add]
  rcases Nat.eq_zero_or_pos j.natAbs with e | e
  · rw [e, Nat.mul_zero]
    exact Nat.mul_pos (Nat.pow_pos (by decide)) (Nat.pow_pos (by decide))
  · exact Nat.lt_of_lt_of_le ((Nat.mul_lt_mul_right e).mpr (bt_self i)) (Nat.mul_le_mul_left _ h)
theorem bt_mono {i j : Int} (h : i.natAbs ≤ j.natAbs) : bt i ≤ bt j := bt_le.mpr (Nat.lt_of_le_of_lt h (bt_self j))
theorem bt_div (i j : Int) : bt (i / j) ≤ bt i + 1 := by
  refine bt_le.mpr ?_
  have h1 := bt_self i
  have h2 : (i / j).natAbs ≤ i.natAbs + 1 := by
    have := Int.natAbs_ediv_le_natAbs i j
    omega
  rw [Nat.pow_succ]
  omega
theorem natAbs_dvd_div {i j : Int} (h : j ∣ i) : (i / j).natAbs = i.natAbs / j.natAbs := Int.natAbs_ediv_of_dvd h
theorem bt_divD {i j : Int} (h : j ∣ i) : bt (i / j) ≤ bt i := bt_mono (by rw [natAbs_dvd_div h]; exact Nat.div_le_self _ _)
theorem bt_pow (k : Nat) : bt (2 ^ k) = k + 1 := by
  have h1 : bt (2 ^ k) ≤ k + 1 := bt_le.mpr (by rw [Int.natAbs_pow]; exact Nat.pow_lt_pow_right (by decide) (Nat.lt_succ_self k))
  have h2 : ¬ bt (2 ^ k) ≤ k := fun h => by
    have := bt_le.mp h
    rw [Int.natAbs_pow] at this
    exact Nat.lt_irrefl _ this
  omega
theorem bt_mulPow (i : Int) (k : Nat) : bt (i * 2 ^ k) ≤ bt i + k := bt_mulK i (by rw [Int.natAbs_pow]; exact Nat.le_refl _)
/-! ### rows: multiples of powers of two, the greatest first -/
abbrev Rw : Type := List (Int × Nat)
def sumR : Rw → Int
  | [] => 0
  | (c, e) :: r => c * 2 ^ e + sumR r
def wtR : Rw → Nat
  | [] => 0
  | (c, _) :: r => bt c + 265 + wtR r
/-- what the next exponent must be above -/
def limR : Rw → Int → Nat
  | [], low => bt low + 256
  | (c, e) :: _, _ => e + bt c + 8
def Far : Rw → Int → Prop
  | [], _ => True
  | (c, e) :: r, low => c ≠ 0 ∧ limR r low < e ∧ Far r low
theorem two_nat (k : Nat) : ((2 : Int) ^ k).natAbs = 2 ^ k := by rw [Int.natAbs_pow]; rfl
theorem Far.small : ∀ {r : Rw} {low : Int}, Far r low → (sumR r + low).natAbs < 2 ^ (limR r low - 7)
  | [], low, _ => by
    show (0 + low).natAbs < 2 ^ (bt low + 256 - 7)
    rw [Int.zero_add]
    exact Nat.lt_of_lt_of_le (bt_self low) (Nat.pow_le_pow_right (by decide) (by omega))
  | (c, e) :: r, low, ⟨h1, h2, h3⟩ => by
    have ih := h3.small
    show (c * 2 ^ e + sumR r + low).natAbs < 2 ^ (e + bt c + 8 - 7)
    have e1 : e + bt c + 8 - 7 = bt c + e + 1 := by omega
    rw [e1, Int.add_assoc]
    have h4 : (c * 2 ^ e).natAbs < 2 ^ (bt c + e) := by
      rw [Int.natAbs_mul, two_nat, Nat.pow_add]
      exact (Nat.mul_lt_mul_right (Nat.pow_pos (by decide))).mpr (bt_self c)
    have h5 : 2 ^ (limR r low - 7) ≤ 2 ^ (bt c + e) := Nat.pow_le_pow_right (by decide) (by omega)
    rw [Nat.pow_succ]
    omega
theorem far_head {c : Int} {e : Nat} {r : Rw} {low : Int} (h : Far ((c, e) :: r) low) : (sumR r + low).natAbs < 2 ^ (e - 7) := by
  have h1 := h.2.2.small
  exact Nat.lt_of_lt_of_le h1 (Nat.pow_le_pow_right (by decide) (by have := h.2.1; omega))
theorem Far.lim7 : ∀ {r : Rw} {low : Int}, Far r low → 256 ≤ limR r low
  | [], low, _ => by show 256 ≤ bt low + 256; omega
  | (c, e) :: r, low, h => by
    have := h.2.2.lim7
    have h2 := h.2.1
    show 256 ≤ e + bt c + 8
    omega
/-- the first multiple tells the sign and the size -/
theorem far_sum {c : Int} {e : Nat} {r : Rw} {low : Int} (h : Far ((c, e) :: r) low) : ∃ x : Int, sumR ((c, e) :: r) + low = c * 2 ^ e + x ∧ x.natAbs * 128 < 2 ^ e ∧ 256 < e := by
  refine ⟨sumR r + low, Int.add_assoc .., ?_, ?_⟩
  · have h1 := far_head h
    have h2 := h.2.2.lim7
    have h3 := h.2.1
    have e1 : e = (e - 7) + 7 := by omega
    rw [e1, Nat.pow_add]
    have : (2 : Nat) ^ 7 = 128 := by decide
    rw [this]
    have e2 : e - 7 + 7 - 7 = e - 7 := by omega
    exact (Nat.mul_lt_mul_right (by decide)).mpr h1
  · have h2 := h.2.2.lim7
    have h3 := h.2.1
    omega
theorem far_pos {c : Int} {e : Nat} {r : Rw} {low : Int} (h : Far ((c, e) :: r) low) : (0 < c ↔ 0 < sumR ((c, e) :: r) + low) ∧ (c < 0 ↔ sumR ((c, e) :: r) + low < 0) := by
  obtain ⟨x, e1, e2, _⟩ := far_sum h
  have hc := h.1
  have hp : (0 : Int) < 2 ^ e := Int.pow_pos (by decide)
  have hx : (x.natAbs : Int) * 128 < 2 ^ e := by
    have := Int.ofNat_lt.mpr e2
    push_cast at this
    exact this
  rw [e1]
  rcases Int.lt_or_gt_of_ne hc with q | q
  · have : c * 2 ^ e ≤ -1 * 2 ^ e := Int.mul_le_mul_of_nonneg_right (by omega) (Int.le_of_lt hp)
    constructor <;> constructor <;> intro z <;> omega
  · have : 1 * 2 ^ e ≤ c * 2 ^ e := Int.mul_le_mul_of_nonneg_right (by omega) (Int.le_of_lt hp)
    constructor <;> constructor <;> intro z <;> omega
end PW
/-! ### plans -/
namespace PW
open PySem PySem.Spec PyProof.Rows L2
def stillN (p q : Int) : Nat := if p ≠ 0 then 2 * bt q + 8 else 8
def reachN (p : Int) (per : Nat) : Nat := if p ≠ 0 then bt p + 7 + per else per + 1
def spStill : Sp := fun vs H Q _ => ∃ p q : Int, vs = [.int p, .int q] ∧ bt q ≤ 1000 ∧ Q (.int (stillN p q : Nat)) H
def Tm.shift (m : Int) (t : Tm) : Tm := if m = 0 then t else .add t (.num m)
def spShift (K : PySem.W.Frag) : Sp := fun vs H Q _ => ∃ v m t d, vs = [v, .int m] ∧ IsTm K H d v t ∧ 1 ≤ d ∧ ∀ v' H', Ex H H' → IsTm K H' (d + 1) v' (t.shift m) → Q v' H'
def spOpp (K : PySem.W.Frag) : Sp := fun vs H Q _ => ∃ v t d, vs = [v] ∧ IsTm K H d v t ∧ ∀ v' H', Ex H H' → IsTm K H' (d + 1) v' (.tim (-1) t) → Q v' H'
/-- the terms near which a form changes its sign -/
def basesT (p q : Int) (t : Tm) : List Tm := if p = 0 then (if q = 0 then [] else if 0 < q then [.quo (.tim (-1) t) q] else [.quo t (-q)]) else [(Tm.len t).shift (-(bt p : Nat) - 2), (Tm.len (.tim (-1) t)).shift (-(bt p : Nat) - 2)]
def spBases (K : PySem.W.Frag) : Sp := fun vs H Q _ => ∃ p q v t d, vs = [.int p, .int q, v] ∧ IsTm K H d v t ∧ bt p ≤ 1000 ∧ ∀ l xs H', Ex H H' → H l = none → H' l = some (.lst xs) → Paired (IsTm K H' (d + 3)) xs (basesT p q t) → Q (.ref l) H'
def spReach : Sp := fun vs H Q _ => ∃ (p : Int) (per : Nat), vs = [.int p, .int (per : Nat)] ∧ Q (.int (reachN p per : Nat)) H
theorem prd_ofX {α β : Type} {F : α → β → Prop} : ∀ {xs : List α} {ys : List β}, xs.length = ys.length → (∀ (i : Nat) x y, xs[i]? = some x → ys[i]? = some y → F x y) → Paired F xs ys
  | [], [], _, _ => .nil
  | x :: xs, y :: ys, h, k => .cons (k 0 x y rfl rfl) (prd_ofX (by simpa using h) fun i x y hx hy => k (i + 1) x y (by simpa using hx) (by simpa using hy))
theorem prd_exT {K : PySem.W.Frag} {H H' : Hp} (x : Ex H H') {d : Nat} {ys : List V} {as : List Tm} (h : Paired (IsTm K H d) ys as) : Paired (IsTm K H' d) ys as := L2.Paired.mapP h fun _ _ z => z.ex x
theorem dec_int0 {p : Int} : (decide (V.int p = V.int 0)) = decide (p = 0) := by
  by_cases h : p = 0
  · subst h
    rfl
  · rw [decide_eq_false h]
    exact decide_eq_false fun e => h (V.int.inj e)
section
variable {P : Program} {w : World} {K : PySem.W.Frag} {mg : Str → Option Value} {base : Heap}
theorem ok_bitsP (T : Txt K mg) : FnOk P w K mg base CX0 (1) (He.ga K "bits") (fdOf K (He.ga K "bits")) p_bits (fun vs H Q _ => ∃ a : Int, vs = [.int a] ∧ Q (.int (bt a : Nat)) H) := by
  refine FunD.ok T.d_bits sc_bits (fun vs H Q E h => ?_) (fun cdv A outer s H vs Q E hr h => ?_)
  · obtain ⟨x, rfl, _⟩ := h
    rfl
  · obtain ⟨a, rfl, q⟩ := h
    refine ⟨_, PSs.nox ((pss_one (ps_ret (pe_bits (pe_callB call_absN (by rfl) T.f_abs (by decide +kernel) (pa_cons (pv 0) pa_nil)))))), ?_⟩
    show tRet _ _ [some (V.int a)] H
    walk_at "go"
    have e0 : (if a < 0 then -a else a) = (a.natAbs : Int) := by split <;> omega
    rw [e0]
    have e : Builtin.Int.intBits ((a.natAbs : Nat) : Int) = bt a := Nat.le_antisymm (bt_mono (by omega)) (bt_mono (by omega))
    rw [e]
    exact q
theorem ok_still {k : Nat} (T : Txt K mg)
    (G_bits : FnOk P w K mg base CX0 k (He.ga K "bits") (fdOf K (He.ga K "bits")) p_bits (fun vs H Q _ => ∃ a : Int, vs = [.int a] ∧ Q (.int (bt a : Nat)) H)) : FnOk P w K mg base CX0 (k + 1) (He.ga K "still_small") (fdOf K (He.ga K "still_small")) p_still_small (spStill) := by
  refine FunD.ok T.d_still_small sc_still_small (fun vs H Q E h => ?_) (fun cdv A outer s H vs Q E hr h => ?_)
  · obtain ⟨p, q, rfl, _⟩ := h
    rfl
  · obtain ⟨p, q, rfl, hb, hQ⟩ := h
    refine ⟨_, PSs.nox ((pss_one (ps_ret (pe_ifExp (pt_cmpR op_ne (pv 0) pe_int (nomark _)) (pe_op op_add (pe_op op_mulX pe_int (pe_call G_bits hr rfl T.g_bits T.d_bits.kp (b_bits T) .nil pass0 (pa_cons (pv 1) pa_nil))) pe_int) pe_int)))), ?_⟩
    show tRet _ _ [some (V.int p), some (V.int q)] H
    walk_at "go"
    rw [dec_int0]
    by_cases hp : p = 0
    · subst hp
      walk_at "go"
      exact hQ
    · rw [decide_eq_false hp]
      unfold stillN at hQ
      rw [if_pos hp] at hQ
      walk_at "go"
      refine ⟨q, rfl, ?_⟩
      walk_at "go"
      have e : (2 * ((bt q : Nat) : Int) + 8) = ((2 * bt q + 8 : Nat) : Int) := by omega
      rw [e]
      exact hQ
theorem ok_shifted {k : Nat} (T : Txt K mg) : FnOk P w K mg base CX0 (k + 1) (He.ga K "shifted") (fdOf K (He.ga K "shifted")) p_shifted (spShift K) := by
  refine FunD.ok T.d_shifted sc_shifted (fun vs H Q E h => ?_) (fun cdv A outer s H vs Q E hr h => ?_)
  · obtain ⟨v, m, t, d, rfl, _⟩ := h
    rfl
  · obtain ⟨v, m, t, d, rfl, ht, hd, hQ⟩ := h
    refine ⟨_, PSs.nox ((pss_one (ps_ret (pe_ifExp (pt_cmpR op_eq (pv 1) pe_int (nomark _)) (pv 0) (pe_tup (pa_cons pe_str (pa_cons (pv 0) (pa_cons (pe_tup (pa_cons pe_str (pa_cons (pv 1) pa_nil))) pa_nil)))))))), ?_⟩
    show tRet _ _ [some v, some (V.int m)] H
    walk_at "go"
    rw [dec_int0]
    by_cases hm : m = 0
    · subst hm
      walk_at "go"
      exact hQ _ _ (Ex.refl _) (ht.up (by omega))
    · rw [decide_eq_false hm]
      walk_at "go"
      intro p hp
      walk_at "go"
      intro q hq
      have x := (Ex.new (o := .tup [V.str "number", V.int m]) hp).trans (Ex.new (o := .tup [V.str "add", v, V.ref p]) hq)
      refine hQ _ _ x ?_
      unfold Tm.shift
      rw [if_neg hm]
      have h1 : IsTm K (L2.upd H p (.tup [V.str "number", V.int m])) 1 (.ref p) (.num m) := IsTm.mk upd_same rfl
      exact IsTm.mk upd_same ⟨_, _, rfl, ht.ex x, (h1.ex (Ex.new hq)).up hd⟩
theorem ok_opposite {k : Nat} (T : Txt K mg) : FnOk P w K mg base CX0 (k + 1) (He.ga K "opposite") (fdOf K (He.ga K "opposite")) p_opposite (spOpp K) := by
  refine FunD.ok T.d_opposite sc_opposite (fun vs H Q E h => ?_) (fun cdv A outer s H vs Q E hr h => ?_)
  · obtain ⟨v, t, d, rfl, _⟩ := h
    rfl
  · obtain ⟨v, t, d, rfl, ht, hQ⟩ := h
    refine ⟨_, PSs.nox ((pss_one (ps_ret (pe_tup (pa_cons pe_str (pa_cons (pe_un un_neg pe_int) (pa_cons (pv 0) pa_nil))))))), ?_⟩
    show tRet _ _ [some v] H
    walk_at "go"
    intro q hq
    exact hQ _ _ (Ex.new hq) (IsTm.mk upd_same ⟨_, rfl, ht.ex (Ex.new hq)⟩)
theorem ok_reach {k : Nat} (T : Txt K mg)
    (G_bits : FnOk P w K mg base CX0 k (He.ga K "bits") (fdOf K (He.ga K "bits")) p_bits (fun vs H Q _ => ∃ a : Int, vs = [.int a] ∧ Q (.int (bt a : Nat)) H)) : FnOk P w K mg base CX0 (k + 1) (He.ga K "reach_of") (fdOf K (He.ga K "reach_of")) p_reach_of (spReach) := by
  refine FunD.ok T.d_reach_of sc_reach_of (fun vs H Q E h => ?_) (fun cdv A outer s H vs Q E hr h => ?_)
  · obtain ⟨p, q, rfl, _⟩ := h
    rfl
  · obtain ⟨p, per, rfl, hQ⟩ := h
    refine ⟨_, PSs.nox ((pss_one (ps_ret (pe_ifExp (pt_cmpR op_ne (pv 0) pe_int (nomark _)) (pe_op op_add (pe_op op_add (pe_call G_bits hr rfl T.g_bits T.d_bits.kp (b_bits T) .nil pass0 (pa_cons (pv 0) pa_nil)) pe_int) (pv 1)) (pe_op op_add (pv 1) pe_int))))), ?_⟩
    show tRet _ _ [some (V.int p), some (V.int (per : Nat))] H
    walk_at "go"
    rw [dec_int0]
    by_cases hp : p = 0
    · subst hp
      walk_at "go"
      exact hQ
    · rw [decide_eq_false hp]
      unfold reachN at hQ
      rw [if_pos hp] at hQ
      walk_at "go"
      refine ⟨p, rfl, ?_⟩
      walk_at "go"
      have e : (((bt p : Nat) : Int) + 7 + (per : Nat)) = ((bt p + 7 + per : Nat) : Int) := by omega
      rw [e]
      exact hQ
theorem ok_bases {k : Nat} (T : Txt K mg)
    (G_opposite : FnOk P w K mg base CX0 k (He.ga K "opposite") (fdOf K (He.ga K "opposite")) p_opposite (spOpp K))
    (G_shifted : FnOk P w K mg base CX0 k (He.ga K "shifted") (fdOf K (He.ga K "shifted")) p_shifted (spShift K))
    (G_bits : FnOk P w K mg base CX0 k (He.ga K "bits") (fdOf K (He.ga K "bits")) p_bits (fun vs H Q _ => ∃ a : Int, vs = [.int a] ∧ Q (.int (bt a : Nat)) H)) : FnOk P w K mg base CX0 (k + 1) (He.ga K "bases") (fdOf K (He.ga K "bases")) p_bases (spBases K) := by
  refine FunD.ok T.d_bases sc_bases (fun vs H Q E h => ?_) (fun cdv A outer s H vs Q E hr h => ?_)
  · obtain ⟨p, q, v, t, d, rfl, _⟩ := h
    rfl
  · obtain ⟨p, q, v, t, d, rfl, ht, hb, hQ⟩ := h
    refine ⟨_, PSs.nox ((pss_cons (ps_if (pt_cmpR op_eq (pv 0) pe_int (nomark _))
      (pss_cons (ps_if (pt_cmpR op_eq (pv 1) pe_int (nomark _))
          (pss_one (ps_ret (pe_lst pa_nil)))
          pss_nil)
        (pss_one (ps_ret (pe_lst (pa_cons (pe_ifExp (pt_cmpR op_gt (pv 1) pe_int (nomark _)) (pe_tup (pa_cons pe_str (pa_cons (pe_call G_opposite hr rfl T.g_opposite T.d_opposite.kp (b_opposite T) .nil pass0 (pa_cons (pv 2) pa_nil)) (pa_cons (pv 1) pa_nil)))) (pe_tup (pa_cons pe_str (pa_cons (pv 2) (pa_cons (pe_un un_neg (pv 1)) pa_nil))))) pa_nil)))))
      pss_nil)
    (pss_cons (ps_set (i := 3) sc_bases.nd rfl (Or.inl rfl) (pe_lst (pa_cons (pe_tup (pa_cons pe_str (pa_cons (pv 2) pa_nil))) (pa_cons (pe_tup (pa_cons pe_str (pa_cons (pe_call G_opposite hr rfl T.g_opposite T.d_opposite.kp (b_opposite T) .nil pass0 (pa_cons (pv 2) pa_nil)) pa_nil))) pa_nil))))
    (pss_one (ps_ret (pe_lc (own := [("size", 4)]) rfl sc_bases.nd (pi_list (pv 3)) (blkOk_by (own := [("size", 4)]) (N := n_bases) (sc := defScope s_bases) (by decide +kernel)) (fun _ _ _ _ _ => (pg_name (i := 4) sc_bases.nd rfl (Or.inl rfl) (hf := by first | exact Or.inl rfl | exact Or.inr rfl))) (fun _ _ _ _ _ => pts_nil) (fun _ _ _ _ _ => (pe_call G_shifted hr rfl T.g_shifted T.d_shifted.kp (b_shifted T) .nil pass0 (pa_cons (pv 4) (pa_cons (pe_op op_sub (pe_un un_neg (pe_call G_bits hr rfl T.g_bits T.d_bits.kp (b_bits T) .nil pass0 (pa_cons (pv 0) pa_nil))) pe_int) pa_nil)))))))))), ?_⟩
    show tSeq _ _ _ [some (V.int p), some (V.int q), some v, none, none] H
    walk_at "go"
    rw [dec_int0]
    by_cases hp : p = 0
    · subst hp
      walk_at "go"
      rw [dec_int0]
      by_cases hq : q = 0
      · subst hq
        walk_at "go"
        intro l hl
        exact hQ l [] _ (Ex.new hl) hl upd_same .nil
      · rw [decide_eq_false hq]
        walk_at "go"
        by_cases hq0 : 0 < q
        · refine r_ifT' (decide_eq_true hq0) ?_
          walk_at "go"
          refine ⟨v, t, d, rfl, ht, fun v' H1 x1 hv => ?_⟩
          walk_at "go"
          intro r hr1
          walk_at "go"
          intro l hl
          have x := Ex.new (o := .tup [V.str "quotient", v', V.int q]) hr1
          have y := Ex.new (o := .lst [V.ref r]) hl
          have hl0 : H l = none := by
            cases e : H l with
            | none => rfl
            | some o => rw [x _ _ (x1 _ _ e)] at hl; cases hl
          refine hQ l [.ref r] _ ((x1.trans x).trans y) hl0 upd_same ?_
          have e : basesT 0 q t = [.quo (.tim (-1) t) q] := by
            unfold basesT
            rw [if_pos rfl, if_neg hq, if_pos hq0]
          rw [e]
          have h1 : IsTm K (L2.upd H1 r (.tup [V.str "quotient", v', V.int q])) (d + 2) (.ref r) (.quo (.tim (-1) t) q) := IsTm.mk upd_same ⟨_, rfl, hv.ex x⟩
          exact .cons ((h1.ex y).up (by omega)) .nil
        · refine r_ifF' (decide_eq_false hq0) ?_
          walk_at "go"
          intro r hr1
          walk_at "go"
          intro l hl
          have x := Ex.new (o := .tup [V.str "quotient", v, V.int (-q)]) hr1
          have y := Ex.new (o := .lst [V.ref r]) hl
          have hl0 : H l = none := by
            cases e : H l with
            | none => rfl
            | some o => rw [x _ _ e] at hl; cases hl
          refine hQ l [.ref r] _ (x.trans y) hl0 upd_same ?_
          have e : basesT 0 q t = [.quo t (-q)] := by
            unfold basesT
            rw [if_pos rfl, if_neg hq, if_neg hq0]
          rw [e]
          have h1 : IsTm K (L2.upd H r (.tup [V.str "quotient", v, V.int (-q)])) (d + 1) (.ref r) (.quo t (-q)) := IsTm.mk upd_same ⟨_, rfl, ht.ex x⟩
          exact .cons ((h1.ex y).up (by omega)) .nil
    · rw [decide_eq_false hp]
      walk_at "go"
      intro r1 hr1
      walk_at "go"
      have x1 := Ex.new (o := .tup [V.str "length", v]) hr1
      refine ⟨v, t, d, rfl, ht.ex x1, fun v' H2 x2 hv => ?_⟩
      walk_at "go"
      intro r2 hr2
      have x3 := Ex.new (o := .tup [V.str "length", v']) hr2
      have k1 : IsTm K (L2.upd H2 r2 (.tup [V.str "length", v'])) (d + 2) (.ref r1) (.len t) := ((IsTm.mk upd_same ⟨_, rfl, ht.ex x1⟩ : IsTm K (L2.upd H r1 (.tup [V.str "length", v])) (d + 1) (.ref r1) (.len t)).ex (x2.trans x3)).up (by omega)
      have k2 : IsTm K (L2.upd H2 r2 (.tup [V.str "length", v'])) (d + 2) (.ref r2) (.len (.tim (-1) t)) := IsTm.mk upd_same ⟨_, rfl, hv.ex x3⟩
      have x13 := (x1.trans x2).trans x3
      generalize L2.upd H2 r2 (.tup [V.str "length", v']) = H3 at k1 k2 x13 ⊢
      clear x1 x2 x3 hv
      walk_at "go"
      intro ls hls
      have x4 := Ex.new (o := .lst [V.ref r1, V.ref r2]) hls
      replace k1 := k1.ex x4
      replace k2 := k2.ex x4
      have hl4 : (L2.upd H3 ls (.lst [V.ref r1, V.ref r2])) ls = some (.lst [V.ref r1, V.ref r2]) := upd_same
      have x14 := x13.trans x4
      generalize L2.upd H3 ls (.lst [V.ref r1, V.ref r2]) = H4 at k1 k2 hl4 x14 ⊢
      clear x4 x13 hls
      walk_at "go"
      intro D hD
      refine lc_grow (walk_list (xs := [V.ref r1, V.ref r2])) (σw := [some (V.int p), some (V.int q), some v, some (V.ref ls), none]) rfl (fun i H v => ∃ t', [Tm.len t, Tm.len (.tim (-1) t)][i]? = some t' ∧ IsTm K H (d + 3) v (t'.shift (-(bt p : Nat) - 2))) hD (show 2 ≤ 100000 by decide) (fun H5 x5 => SqL.of (x5 _ _ hl4)) (fun i H H' v x h => ?_) ?_ ?_
      · obtain ⟨t', e, h⟩ := h
        exact ⟨t', e, h.ex x⟩
      · rintro i x H5 H5' acc R hi x5 hacc ⟨rfl, hx⟩ hR
        obtain ⟨t', e, ht'⟩ : ∃ t', [Tm.len t, Tm.len (.tim (-1) t)][i]? = some t' ∧ IsTm K H5' (d + 2) x t' := by
          have h2 : i < 2 := hi
          have : i = 0 ∨ i = 1 := by omega
          rcases this with rfl | rfl
          · cases hx
            exact ⟨_, rfl, k1.ex x5⟩
          · cases hx
            exact ⟨_, rfl, k2.ex x5⟩
        walk_at "go"
        refine ⟨rfl, ?_⟩
        walk_at "go"
        refine ⟨p, rfl, ?_⟩
        walk_at "go"
        refine ⟨x, _, t', d + 2, rfl, ht', by omega, fun v' H6 x6 hv => ?_⟩
        exact hR v' H6 ⟨t', e, hv.te (TE.hid (x6 _ _ hacc))⟩ x6
      · intro H5 acc x5 hacc hlen hE
        walk_at "go"
        refine hQ D acc H5 (x14.trans x5) ?_ hacc ?_
        · cases e : H D with
          | none => rfl
          | some o => rw [x14 _ _ e] at hD; cases hD
        · have e : basesT p q t = [Tm.len t, Tm.len (.tim (-1) t)].map (Tm.shift (-(bt p : Nat) - 2)) := by
            unfold basesT
            rw [if_neg hp]
            rfl
          rw [e]
          refine prd_ofX (by rw [hlen]; rfl) fun i x y hx hy => ?_
          obtain ⟨t', e1, e2⟩ := hE i x hx
          rw [List.getElem?_map, e1] at hy
          cases hy
          exact e2.ex (Ex.hide H5 D)
end
end PW
/-! ### operators within comprehensions and lambdas -/
namespace PW
open PySem PySem.Spec PyProof.Rows L2
section
variable {X : Cx} {K : PySem.W.Frag}
theorem op_in_seqK (h : X.K = K) : OpR X (compareOp .In) (rIn K false) := by
  subst h
  exact op_in_seq
theorem op_notIn_seqK (h : X.K = K) : OpR X (compareOp .NotIn) (rIn K true) := by
  subst h
  exact op_notIn_seq
theorem sl_listK (h : X.K = K) : SlR X (rSlL K) := by
  subst h
  exact sl_list
theorem call_isiK' (h : X.K = K) : CallR X (.builtin "isinstance") (rIsi K) := by
  subst h
  exact call_isi
end
end PW
/-! ### a plan made -/
namespace PW
open PySem PySem.Spec PyProof.Rows L2
abbrev PlC (K : PySem.W.Frag) : Addr := He.ga K "Plan"
def smallN (u : Str) (cs : List Cd) : Nat := cs.foldl (fun s a => max s (stillN (a.dif.mul u).1 (a.dif.mul u).2)) 8
def planB (p : Int) (per : Nat) (b : Tm) : List Tm := (List.range (reachN p per)).map fun k => b.shift (k : Nat)
def planF (u : Str) (per : Nat) (a : Cd) : List Tm := (basesT (a.dif.mul u).1 (a.dif.mul u).2 (a.dif.wo [u])).flatMap (planB (a.dif.mul u).1 per)
def planT (u : Str) (per : Nat) (cs : List Cd) : List Tm := (List.range (smallN u cs + per + 1)).map (fun n => Tm.num (n : Nat)) ++ cs.flatMap (planF u per)
def fsPl (rows wish : V) : List (Str × V) := [("rows", rows), ("own_wish", wish)]
/-- a plan in the heap -/
structure IsPl (K : PySem.W.Frag) (H : Hp) (x w : Addr) (d : Nat) (ts : List Tm) : Prop where
  ex : ∃ dx r zs, H x = some (.ins (PlC K) dx (fsPl (.ref r) (.ref w))) ∧ H r = some (.lst zs) ∧ Paired (IsTm K H d) zs ts
theorem IsPl.up {K : PySem.W.Frag} {H H' : Hp} {x w : Addr} {d : Nat} {ts : List Tm} (y : Ex H H') (h : IsPl K H x w d ts) : IsPl K H' x w d ts := by
  obtain ⟨dx, r, zs, h1, h2, h3⟩ := h.ex
  exact ⟨dx, r, zs, y _ _ h1, y _ _ h2, prd_exT y h3⟩
def spPInit (K : PySem.W.Frag) : Sp := fun vs H Q _ => ∃ x dx w gs u c per e d H0, vs = [.ref x, .ref w] ∧ H x = some (.ins (PlC K) dx []) ∧ H0 x = none ∧ Ex H0 H ∧ IsWr K H0 w gs u c per e d ∧ (c.dep ≤ 17 ∧ e ≤ 17 ∧ c.atoms.length ≤ 6) ∧ c.ccns = [] ∧ PyData.strOk u = true ∧ (∀ a ∈ c.atoms, DifOk a) ∧
  (per ≤ 1000 ∧ ∀ a ∈ c.atoms, bt (a.dif.mul u).1 ≤ 100 ∧ bt (a.dif.mul u).2 ≤ 100) ∧
  ∀ r zs H', Ex H0 H' → H' x = some (.ins (PlC K) dx (fsPl (.ref r) (.ref w))) → H0 r = none → H' r = some (.lst zs) → Paired (IsTm K H' (e + 5)) zs (planT u per c.atoms) → Q .non H'
theorem prd_teT {K : PySem.W.Frag} {H H' : Hp} {d : Nat} (x : TE H H') {zs : List V} {ts : List Tm} (h : Paired (IsTm K H d) zs ts) : Paired (IsTm K H' d) zs ts := L2.Paired.mapP h fun _ _ z => z.te x
theorem smallN_take {u : Str} {cs : List Cd} {i : Nat} {c : Cd} (h : cs[i]? = some c) : smallN u (cs.take (i + 1)) = max (smallN u (cs.take i)) (stillN (c.dif.mul u).1 (c.dif.mul u).2) := by
  unfold smallN
  rw [List.take_add_one, h, List.foldl_append]
  rfl
theorem stillN_le {p q : Int} (h : bt q ≤ 100) : stillN p q ≤ 208 := by
  unfold stillN
  split <;> omega
theorem smallN_le {u : Str} : ∀ {cs : List Cd} {s : Nat}, s ≤ 208 → (∀ a ∈ cs, bt (a.dif.mul u).2 ≤ 100) → cs.foldl (fun s a => max s (stillN (a.dif.mul u).1 (a.dif.mul u).2)) s ≤ 208
  | [], s, h, _ => h
  | a :: r, s, h, k => by
    rw [List.foldl_cons]
    refine smallN_le ?_ fun b hb => k b (List.mem_cons_of_mem _ hb)
    have := stillN_le (p := (a.dif.mul u).1) (k a List.mem_cons_self)
    omega
theorem reachN_le {p : Int} {per : Nat} (h : bt p ≤ 100) (hp : per ≤ 1000) : reachN p per ≤ 1107 := by
  unfold reachN
  split <;> omega
theorem planB_len {p : Int} {per : Nat} {b : Tm} : (planB p per b).length = reachN p per := by
  unfold planB
  rw [List.length_map, List.length_range]
theorem basesT_len {p q : Int} {t : Tm} : (basesT p q t).length ≤ 2 := by
  unfold basesT
  split
  · split
    · exact Nat.zero_le _
    · split <;> exact Nat.le_succ _
  · exact Nat.le_refl _
theorem flat_len {α β : Type} {f : α → List β} {n : Nat} : ∀ {l : List α}, (∀ a ∈ l, (f a).length ≤ n) → (l.flatMap f).length ≤ l.length * n
  | [], _ => Nat.zero_le _
  | a :: r, h => by
    have h1 := h a List.mem_cons_self
    have h2 := flat_len (f := f) (n := n) (l := r) fun b hb => h b (List.mem_cons_of_mem _ hb)
    rw [List.flatMap_cons, List.length_append, List.length_cons, Nat.succ_mul]
    omega
theorem planF_len {u : Str} {per : Nat} {a : Cd} (h : bt (a.dif.mul u).1 ≤ 100) (hp : per ≤ 1000) : (planF u per a).length ≤ 2214 := by
  have h1 := flat_len (f := planB (a.dif.mul u).1 per) (n := 1107) (l := basesT (a.dif.mul u).1 (a.dif.mul u).2 (a.dif.wo [u])) fun b _ => by
    rw [planB_len]
    exact reachN_le h hp
  have h2 := basesT_len (p := (a.dif.mul u).1) (q := (a.dif.mul u).2) (t := a.dif.wo [u])
  unfold planF
  have h3 := Nat.mul_le_mul_right 1107 h2
  omega
theorem flat_take {α β : Type} {f : α → List β} {l : List α} {i : Nat} {a : α} (h : l[i]? = some a) : (l.take (i + 1)).flatMap f = (l.take i).flatMap f ++ f a := by
  rw [List.take_add_one, h, List.flatMap_append]
  simp
theorem TE.insT {H : Hp} {x C dx : Addr} {fs : List (Str × V)} {o : HO} (h : H x = some (.ins C dx fs)) : TE H (L2.upd H x o) := fun p ys hp => (upd_ne fun z => by
  rw [z, h] at hp
  cases hp).trans hp
theorem prop_atP {C : Addr} {sp : Sp} {dvs : List V} {E : XK} {ta : L2.TE} {σ : L2.St} {H : Hp} {Q : VK} (h : ta σ H fun x H1 => ∃ a dx fs, x = .ref a ∧ H1 a = some (.ins C dx fs) ∧ sp (.ref a :: dvs) H1 Q E) : tProp C sp dvs E ta σ H Q := h
section
variable {P : Program} {w : World} {K : PySem.W.Frag} {mg : Str → Option Value} {base : Heap}
theorem ok_plan_init {k k0 : Nat} (hk : k0 + 1 = k) (T : Txt K mg)
    (G_Wish_need_plain : FnOk P w K mg base CX0 k (He.ma K (He.ga K "Wish") "need_plain") (fdOf K (He.fAd K ("Wish", some "need_plain"))) p_Wish_need_plain (spNeedP K))
    (G_Wish_forms : FnOk P w K mg base CX0 k (He.ma K (He.ga K "Wish") "forms") (fdOf K (He.fAd K ("Wish", some "forms"))) p_Wish_forms (spWForms K))
    (G_Wish_period : FnOk P w K mg base CX0 (k0) (prA "Wish" "period" K) (fdOf K (prA "Wish" "period" K)) p_Wish_period (spWPerF K))
    (G_still_small : FnOk P w K mg base CX0 k (He.ga K "still_small") (fdOf K (He.ga K "still_small")) p_still_small (spStill))
    (G_bases : FnOk P w K mg base CX0 k (He.ga K "bases") (fdOf K (He.ga K "bases")) p_bases (spBases K))
    (G_reach_of : FnOk P w K mg base CX0 k (He.ga K "reach_of") (fdOf K (He.ga K "reach_of")) p_reach_of (spReach))
    (G_shifted : FnOk P w K mg base CX0 k (He.ga K "shifted") (fdOf K (He.ga K "shifted")) p_shifted (spShift K)) : FnOk P w K mg base CX0 (k + 1) (He.ma K (He.ga K "Plan") "__init__") (fdOf K (He.fAd K ("Plan", some "__init__"))) p_Plan___init__ (spPInit K) := by
  subst hk
  refine FunD.ok T.d_Plan___init__ sc_Plan___init__ (fun vs H Q E h => ?_) (fun cdv A outer s H vs Q E hr h => ?_)
  · obtain ⟨x, dx, w, gs, u, c, per, e, d, H0, rfl, _⟩ := h
    rfl
  · obtain ⟨x, dx, w, gs, u, c, per, e, d, H0, rfl, hx, hx0, x0, hW, ⟨hd, he, hA⟩, hcc, hu, hok, ⟨hper, hbt⟩, hQ⟩ := h
    have kC := T.k_Plan
    have kW := T.k_Wish
    refine ⟨_, PSs.nox ((pss_cons (ps_expr (pe_meth0 (pv 1) T.k_Wish T.m_Wish_need_plain G_Wish_need_plain hr (b_Wish_need_plain T) .nil pass0))
    (pss_cons (ps_par (i := 2) (j := 3) (by rfl) sc_Plan___init__.nd rfl rfl (by decide) rfl rfl (pa_cons (pe_meth0 (pv 1) T.k_Wish T.m_Wish_forms G_Wish_forms hr (b_Wish_forms T) .nil pass0) (pa_cons (pe_prop (pv 1) T.k_Wish T.pr_Wish_period G_Wish_period hr (b_Wish_period T) .nil pass0 rfl) pa_nil)) (by rfl))
    (pss_cons (ps_set (i := 4) sc_Plan___init__.nd rfl (Or.inl rfl) pe_int)
    (pss_cons (ps_for PassesOwn.never rfl (pi_list (pv 2)) (pg_tup rfl (pgs_cons (pg_name (i := 5) sc_Plan___init__.nd rfl (Or.inl rfl) (hf := by first | exact Or.inl rfl | exact Or.inr rfl)) (pgs_cons (pg_name (i := 6) sc_Plan___init__.nd rfl (Or.inl rfl) (hf := by first | exact Or.inl rfl | exact Or.inr rfl)) (pgs_cons (pg_name (i := 7) sc_Plan___init__.nd rfl (Or.inl rfl) (hf := by first | exact Or.inl rfl | exact Or.inr rfl)) pgs_nil))))
      (pss_one (ps_set (i := 4) sc_Plan___init__.nd rfl (Or.inl rfl) (pe_callB (call_maxN rfl) (by rfl) T.f_max (by decide +kernel) (pa_cons (pe_callTy call_intN (by rfl) T.f_int (by decide +kernel) (pa_cons (pv 4) pa_nil)) (pa_cons (pe_callTy call_intN (by rfl) T.f_int (by decide +kernel) (pa_cons (pe_call G_still_small hr rfl T.g_still_small T.d_still_small.kp (b_still_small T) .nil pass0 (pa_cons (pv 5) (pa_cons (pv 6) pa_nil))) pa_nil)) pa_nil))))))
    (pss_cons (ps_setLc (i := 8) (own := [("number", 10)]) rfl sc_Plan___init__.nd rfl rfl (sw_true rfl rfl rfl (by decide +kernel)) (pi_range1 rfl T.f_range (pa_cons (pe_op op_add (pe_op op_add (pv 4) (pv 3)) pe_int) pa_nil)) (blkOk_by (own := [("number", 10)]) (N := n_Plan___init__) (sc := defScope s_Plan___init__) (by decide +kernel)) (fun _ _ _ _ _ => (pg_name (i := 10) sc_Plan___init__.nd rfl (Or.inl rfl) (hf := by first | exact Or.inl rfl | exact Or.inr rfl))) (fun _ _ _ _ _ => pts_nil) (fun _ _ _ _ _ => (pe_tup (pa_cons pe_str (pa_cons (pv 10) pa_nil)))))
    (pss_cons (ps_for PassesOwn.never rfl (pi_list (pv 2)) (pg_tup rfl (pgs_cons (pg_name (i := 5) sc_Plan___init__.nd rfl (Or.inl rfl) (hf := by first | exact Or.inl rfl | exact Or.inr rfl)) (pgs_cons (pg_name (i := 6) sc_Plan___init__.nd rfl (Or.inl rfl) (hf := by first | exact Or.inl rfl | exact Or.inr rfl)) (pgs_cons (pg_name (i := 7) sc_Plan___init__.nd rfl (Or.inl rfl) (hf := by first | exact Or.inl rfl | exact Or.inr rfl)) pgs_nil))))
      (pss_one (ps_for PassesOwn.never rfl (pi_list (pe_call G_bases hr rfl T.g_bases T.d_bases.kp (b_bases T) .nil pass0 (pa_cons (pv 5) (pa_cons (pv 6) (pa_cons (pv 7) pa_nil))))) (pg_name (i := 9) sc_Plan___init__.nd rfl (Or.inr rfl) (hf := by first | exact Or.inl rfl | exact Or.inr rfl))
          (pss_one (ps_aug (i := 8) sc_Plan___init__.nd rfl (Or.inl rfl) (pe_lc (own := [("more", 11)]) rfl sc_Plan___init__.nd (pi_range1 rfl T.f_range (pa_cons (pe_call G_reach_of hr rfl T.g_reach_of T.d_reach_of.kp (b_reach_of T) .nil pass0 (pa_cons (pv 5) (pa_cons (pv 3) pa_nil))) pa_nil)) (blkOk_by (own := [("more", 11)]) (N := n_Plan___init__) (sc := defScope s_Plan___init__) (by decide +kernel)) (fun _ _ _ _ _ => (pg_name (i := 11) sc_Plan___init__.nd rfl (Or.inl rfl) (hf := by first | exact Or.inl rfl | exact Or.inr rfl))) (fun _ _ _ _ _ => pts_nil) (fun _ _ _ _ _ => (pe_call G_shifted hr rfl T.g_shifted T.d_shifted.kp (b_shifted T) .nil pass0 (pa_cons (pv 9) (pa_cons (pv 11) pa_nil))))) iop_ext)))))
    (pss_cons (ps_fld (pv 0) (pv 8) rfl)
    (pss_one (ps_fld (pv 0) (pv 1) rfl)))))))))), ?_⟩
    show tSeq _ _ _ [some (.ref x), some (.ref w), none, none, none, none, none, none, none, none, none, none] H
    walk_at "K"
    have hW1 := hW.up x0
    obtain ⟨dw, lw, tw, cv, ys, h1, h2, h3, h4, h5⟩ := hW1.ex
    walk_at "go"
    refine ⟨w, gs, u, c, per, e, d, rfl, hW1, ⟨hd, he, by omega⟩, hcc, fun H1 x1 => ?_⟩
    have x01 := x0.trans x1
    have hW2 := hW.up x01
    have hx1 := x1 _ _ hx
    have h11 := x1 _ _ h1
    clear h1 h2 h3 h4 h5 hW1 x1 hx
    walk_at "go"
    refine ⟨w, gs, u, c, per, e, d, rfl, hW2, ⟨by omega, by omega⟩, hu, hok, fun f zs H2 x2 hf0 hf hzs => ?_⟩
    have x02 := x01.trans x2
    have hW3 := hW.up x02
    have hx2 := x2 _ _ hx1
    have h12 := x2 _ _ h11
    have hff0 : H0 f = none := by
      cases q : H0 f with
      | none => rfl
      | some o => rw [x01 _ _ q] at hf0; cases hf0
    have nfx : f ≠ x := fun z => by rw [z, hx1] at hf0; cases hf0
    clear x2 hW2 hx1 h11 x01
    walk_at "go"
    refine prop_atP ?_
    walk_at "go"
    refine ⟨w, dw, _, rfl, h12, w, gs, u, c, per, e, d, rfl, hW3, ?_⟩
    have hfl := pr_len hzs
    walk_at "go"
    refine for_it (walk_list (xs := zs)) (fun i σ H' => H' = H2 ∧ ∃ y5 y6 y7, σ = [some (.ref x), some (.ref w), some (.ref f), some (.int (per : Nat)), some (.int ((smallN u (c.atoms.take i) : Nat) : Int)), y5, y6, y7, none, none, none, none]) ⟨rfl, _, _, _, rfl⟩ (fun i σ H' _ h => by rw [h.1]; exact SqL.of hf) ?_ ?_
    · rintro i v σ H3 H3' hi ⟨rfl, y5, y6, y7, rfl⟩ ⟨rfl, hv⟩
      obtain ⟨a, ha, p, tv, rfl, hp, htv⟩ := pr_get hzs hv
      have hb := hbt a (List.mem_of_getElem? ha)
      walk_at "go"
      refine ⟨(a.dif.mul u).1, (a.dif.mul u).2, rfl, by omega, ?_⟩
      walk_at "go"
      refine ⟨rfl, some (V.int (a.dif.mul u).1), some (V.int (a.dif.mul u).2), some tv, ?_⟩
      rw [smallN_take ha]
      simp only [List.cons.injEq, Option.some.injEq, V.int.injEq, and_true, true_and]
      split <;> omega
    · rintro σ H3 ⟨rfl, y5, y6, y7, rfl⟩
      rw [hfl, List.take_length]
      have hsm : smallN u c.atoms ≤ 208 := smallN_le (by decide) fun a ha => (hbt a ha).2
      walk_at "go"
      intro r hr0
      have nrx : r ≠ x := fun z => by rw [z, hx2] at hr0; cases hr0
      have nrf : r ≠ f := fun z => by rw [z, hf] at hr0; cases hr0
      have hr00 : H0 r = none := by
        cases q : H0 r with
        | none => rfl
        | some o => rw [x02 _ _ q] at hr0; cases hr0
      refine lc_grow walk_range (σw := [some (.ref x), some (.ref w), some (.ref f), some (.int (per : Nat)), some (.int ((smallN u c.atoms : Nat) : Int)), y5, y6, y7, none, none, none, none]) rfl (fun i H' v => IsTm K H' (e + 5) v (.num (i : Nat))) hr0 (by omega) (fun _ _ => trivial) (fun i H' H'' v x h => h.ex x) ?_ ?_
      · rintro i v H4 H4' acc R hi x4 hacc ⟨rfl, rfl⟩ hR
        walk_at "go"
        refine ⟨rfl, ?_⟩
        walk_at "go"
        intro p hp
        have xp := Ex.new (o := .tup [V.str "number", V.int (0 + (i : Nat))]) hp
        have h1 : IsTm K (L2.upd H4' p (.tup [V.str "number", V.int (0 + (i : Nat))])) 1 (.ref p) (.num (i : Nat)) := IsTm.mk upd_same (by
          show [V.str "number", V.int (0 + (i : Nat))] = [V.str "number", V.int (i : Nat)]
          rw [Int.zero_add])
        exact hR _ _ ((h1.up (by omega)).te (TE.hid (xp _ _ hacc))) xp
      · intro H4 acc x4 hacc hlen hE
        have hn : ((smallN u c.atoms : Nat) : Int).toNat + per + 1 = smallN u c.atoms + per + 1 := by omega
        have hP : Paired (IsTm K H4 (e + 5)) acc ((List.range (smallN u c.atoms + per + 1)).map fun n => Tm.num (n : Nat)) := by
          refine prd_ofX (by rw [hlen, List.length_map, List.length_range]; omega) fun i x y hx hy => ?_
          have h1 := hE i x hx
          have hi : i < smallN u c.atoms + per + 1 := by
            have := (List.getElem?_eq_some_iff.mp hy).1
            simpa using this
          rw [List.getElem?_map, List.getElem?_range hi] at hy
          cases hy
          exact h1.ex (Ex.hide H4 r)
        generalize hNT : (List.range (smallN u c.atoms + per + 1)).map (fun n => Tm.num (n : Nat)) = NT at hP
        have hNl : NT.length ≤ 1300 := by
          rw [← hNT, List.length_map, List.length_range]
          omega
        clear hE hlen hn
        have keep : ∀ {H' : Hp} {o : HO}, Ex H3 H' → Ex H3 (L2.upd H' r o) := fun x b u hb => (upd_ne fun z => by rw [z, hr0] at hb; cases hb).trans (x _ _ hb)
        have hf4 := x4 _ _ hf
        walk_at "go"
        refine for_it (walk_list (xs := zs)) (fun i σ H' => (∃ y5 y6 y7 y9, σ = [some (.ref x), some (.ref w), some (.ref f), some (.int (per : Nat)), some (.int ((smallN u c.atoms : Nat) : Int)), y5, y6, y7, some (.ref r), y9, none, none]) ∧ Ex H3 H' ∧ ∃ acc, H' r = some (.lst acc) ∧ Paired (IsTm K H' (e + 5)) acc (NT ++ (c.atoms.take i).flatMap (planF u per))) ⟨⟨_, _, _, _, rfl⟩, x4, acc, hacc, by rw [List.take_zero, List.flatMap_nil, List.append_nil]; exact hP⟩ (fun i σ H' _ h => SqL.of (h.2.1 _ _ hf)) ?_ ?_
        · clear hf4 hP hacc x4 acc H4
          rintro i v σ H4 H4' hi ⟨⟨y5, y6, y7, y9, rfl⟩, x4, acc, hacc, hP⟩ ⟨rfl, hv⟩
          obtain ⟨a, ha, p, tv, rfl, hp, htv⟩ := pr_get hzs hv
          have hb := hbt a (List.mem_of_getElem? ha)
          have hp4 := x4 _ _ hp
          walk_at "go"
          refine ⟨(a.dif.mul u).1, (a.dif.mul u).2, tv, a.dif.wo [u], e + 1, rfl, htv.ex x4, by omega, fun l xs H5 x5 hl0 hl hxs => ?_⟩
          have hrl : l ≠ r := fun z => by rw [z, hacc] at hl0; cases hl0
          have hacc5 := x5 _ _ hacc
          have hP5 := prd_exT x5 hP
          have x45 := x4.trans x5
          clear hP hacc x4 x5
          have hxl := pr_len hxs
          have hac := pr_len hP5
          have hil : i ≤ 5 := by omega
          have hfl1 := flat_len (f := planF u per) (n := 2214) (l := c.atoms.take i) fun b hb => planF_len (hbt b (List.mem_of_mem_take hb)).1 hper
          have hb2 := basesT_len (p := (a.dif.mul u).1) (q := (a.dif.mul u).2) (t := a.dif.wo [u])
          have hrc := reachN_le (per := per) hb.1 hper
          walk_at "go"
          refine for_it (walk_list (xs := xs)) (fun j σ H' => (∃ y9, σ = [some (.ref x), some (.ref w), some (.ref f), some (.int (per : Nat)), some (.int ((smallN u c.atoms : Nat) : Int)), some (.int (a.dif.mul u).1), some (.int (a.dif.mul u).2), some tv, some (.ref r), y9, none, none]) ∧ Ex H3 H' ∧ H' l = some (.lst xs) ∧ Paired (IsTm K H' (e + 4)) xs (basesT (a.dif.mul u).1 (a.dif.mul u).2 (a.dif.wo [u])) ∧ ∃ acc, H' r = some (.lst acc) ∧ Paired (IsTm K H' (e + 5)) acc ((NT ++ (c.atoms.take i).flatMap (planF u per)) ++ ((basesT (a.dif.mul u).1 (a.dif.mul u).2 (a.dif.wo [u])).take j).flatMap (planB (a.dif.mul u).1 per))) ⟨⟨_, rfl⟩, x45, hl, hxs, acc, hacc5, by rw [List.take_zero, List.flatMap_nil, List.append_nil]; exact hP5⟩ (fun j σ H' _ h => SqL.of h.2.2.1) ?_ ?_
          · clear hP5 hacc5 x45 hl hxs acc hac
            rintro j v σ H6 H6' hj ⟨⟨y9, rfl⟩, x6, hl6, hxs6, acc, hacc6, hP6⟩ ⟨rfl, hv⟩
            obtain ⟨b, hbb, hvb⟩ := pr_get hxs6 hv
            have hac := pr_len hP6
            have hfl2 := flat_len (f := planB (a.dif.mul u).1 per) (n := 1107) (l := (basesT (a.dif.mul u).1 (a.dif.mul u).2 (a.dif.wo [u])).take j) fun b2 _ => by
              rw [planB_len]
              exact hrc
            rw [List.length_append, List.length_append] at hac
            rw [List.length_take] at hfl1 hfl2
            have m1 : min i c.atoms.length * 2214 ≤ 5 * 2214 := Nat.mul_le_mul_right _ (by omega)
            have m2 : min j (basesT (a.dif.mul u).1 (a.dif.mul u).2 (a.dif.wo [u])).length * 1107 ≤ 2 * 1107 := Nat.mul_le_mul_right _ (by omega)
            walk_at "go"
            refine ⟨(a.dif.mul u).1, per, rfl, ?_⟩
            walk_at "go"
            intro D hD
            have hDr : r ≠ D := ne_of_none hacc6 hD
            refine lc_grow walk_range (σw := [some (.ref x), some (.ref w), some (.ref f), some (.int (per : Nat)), some (.int ((smallN u c.atoms : Nat) : Int)), some (.int (a.dif.mul u).1), some (.int (a.dif.mul u).2), some tv, some (.ref r), some v, none, none]) rfl (fun k H' v' => IsTm K H' (e + 5) v' (b.shift (k : Nat))) hD (by omega) (fun _ _ => trivial) (fun i H' H'' v x h => h.ex x) ?_ ?_
            · rintro k v2 H7 H7' acc7 R hk x7 hacc7 ⟨rfl, rfl⟩ hR
              walk_at "go"
              refine ⟨rfl, ?_⟩
              walk_at "go"
              refine ⟨v, _, b, e + 4, rfl, hvb.ex x7, by omega, fun v3 H8 x8 hv3 => ?_⟩
              refine hR v3 H8 ?_ x8
              rw [Int.zero_add] at hv3
              exact hv3.te (TE.hid (x8 _ _ hacc7))
            · intro H7 acc7 x7 hacc7 hlen7 hE7
              have hP7 : Paired (IsTm K H7 (e + 5)) acc7 (planB (a.dif.mul u).1 per b) := by
                refine prd_ofX (by rw [hlen7, planB_len]; omega) fun i x y hx hy => ?_
                have h1 := hE7 i x hx
                unfold planB at hy
                have hi : i < reachN (a.dif.mul u).1 per := by
                  have := (List.getElem?_eq_some_iff.mp hy).1
                  simpa using this
                rw [List.getElem?_map, List.getElem?_range hi] at hy
                cases hy
                exact h1.ex (Ex.hide H7 D)
              have hr7 := x7 _ _ hacc6
              walk_at "go"
              refine ⟨r, D, acc, acc7, rfl, rfl, hr7, hacc7, Nat.le_trans (show acc.length + acc7.length ≤ 100000 by omega) (by decide), ?_⟩
              have te : TE H7 (L2.upd H7 r (.lst (acc ++ acc7))) := TE.upd hr7
              have hlr : l ≠ r := hrl
              walk_at "go"
              refine ⟨⟨_, rfl⟩, keep (x6.trans x7), (upd_ne hlr).trans (x7 _ _ hl6), prd_teT te (prd_exT x7 hxs6), acc ++ acc7, upd_same, ?_⟩
              rw [flat_take hbb, ← List.append_assoc]
              exact prd_app (prd_teT te (prd_exT x7 hP6)) (prd_teT te hP7)
          · rintro σ H6 ⟨⟨y9, rfl⟩, x6, hl6, hxs6, acc6, hacc6, hP6⟩
            rw [hxl, List.take_length, List.append_assoc] at hP6
            walk_at "go"
            refine ⟨⟨_, _, _, _, rfl⟩, x6, acc6, hacc6, ?_⟩
            rw [flat_take ha]
            exact hP6
        · clear hf4 hP hacc x4 acc H4
          rintro σ H4 ⟨⟨y5, y6, y7, y9, rfl⟩, x4, acc, hacc, hP⟩
          rw [hfl, List.take_length] at hP
          have hx4 := x4 _ _ hx2
          have n1 := T.n_Plan_rows
          have n2 := T.n_Plan_own_wish
          walk_at "go"
          have y1 := Ex.put (o := .ins (PlC K) dx (fsPl (.ref r) (.ref w))) (x02.trans x4) hx0
          have fin := hQ r acc (L2.upd H4 x (.ins (PlC K) dx (fsPl (.ref r) (.ref w)))) y1 upd_same hr00 ((upd_ne nrx).trans hacc) ?_
          · rw [upd2W]
            exact fin
          · rw [← hNT] at hP
            exact prd_teT (TE.insT hx4) hP
end
end PW
/-! ### a plan's terms, len, wish -/
namespace PW
open PySem PySem.Spec PyProof.Rows L2
def spPTerms (K : PySem.W.Frag) : Sp := fun vs H Q _ => ∃ x w d ts, vs = [.ref x] ∧ IsPl K H x w d ts ∧ ∀ l zs H', Ex H H' → H l = none → H' l = some (.lst zs) → Paired (IsTm K H' d) zs ts → Q (.ref l) H'
def spPLen (K : PySem.W.Frag) : Sp := fun vs H Q _ => ∃ x w d ts, vs = [.ref x] ∧ IsPl K H x w d ts ∧ Q (.int (ts.length : Nat)) H
def spPWish (K : PySem.W.Frag) : Sp := fun vs H Q _ => ∃ x w d ts, vs = [.ref x] ∧ IsPl K H x w d ts ∧ Q (.ref w) H
section
variable {P : Program} {w : World} {K : PySem.W.Frag} {mg : Str → Option Value} {base : Heap}
theorem ok_plan_terms {k : Nat} (T : Txt K mg) : FnOk P w K mg base CX0 (k + 1) (He.ma K (He.ga K "Plan") "terms") (fdOf K (He.fAd K ("Plan", some "terms"))) p_Plan_terms (spPTerms K) := by
  refine FunD.ok T.d_Plan_terms sc_Plan_terms (fun vs H Q E h => ?_) (fun cdv A outer s H vs Q E hr h => ?_)
  · obtain ⟨x, w, d, ts, rfl, _⟩ := h
    rfl
  · obtain ⟨x, w, d, ts, rfl, hP, hQ⟩ := h
    obtain ⟨dx, r, zs, h1, h2, h3⟩ := hP.ex
    have kC := T.k_Plan
    have n1 := T.n_Plan_rows
    refine ⟨_, PSs.nox ((pss_one (ps_ret (pe_callTy call_listN (by rfl) T.f_list (by decide +kernel) (pa_cons (pe_fld (pv 0) rfl) pa_nil))))), ?_⟩
    show tRet _ _ [some (.ref x)] H
    walk_at "K"
    walk_at "go"
    intro l hl
    exact hQ l zs _ (Ex.new hl) hl upd_same (prd_exT (Ex.new hl) h3)
theorem ok_plan_len {k : Nat} (T : Txt K mg) : FnOk P w K mg base CX0 (k + 1) (He.ma K (He.ga K "Plan") "__len__") (fdOf K (He.fAd K ("Plan", some "__len__"))) p_Plan___len__ (spPLen K) := by
  refine FunD.ok T.d_Plan___len__ sc_Plan___len__ (fun vs H Q E h => ?_) (fun cdv A outer s H vs Q E hr h => ?_)
  · obtain ⟨x, w, d, ts, rfl, _⟩ := h
    rfl
  · obtain ⟨x, w, d, ts, rfl, hP, hQ⟩ := h
    obtain ⟨dx, r, zs, h1, h2, h3⟩ := hP.ex
    have kC := T.k_Plan
    have n1 := T.n_Plan_rows
    refine ⟨_, PSs.nox ((pss_one (ps_ret (pe_callB call_lenN (by rfl) T.f_len (by decide +kernel) (pa_cons (pe_fld (pv 0) rfl) pa_nil))))), ?_⟩
    show tRet _ _ [some (.ref x)] H
    walk_at "K"
    walk_at "go"
    rw [pr_len h3]
    exact hQ
theorem ok_plan_wish {k : Nat} (T : Txt K mg) : FnOk P w K mg base CX0 (k + 1) (prA "Plan" "wish" K) (fdOf K (prA "Plan" "wish" K)) p_Plan_wish (spPWish K) := by
  refine FunD.ok T.d_Plan_wish sc_Plan_wish (fun vs H Q E h => ?_) (fun cdv A outer s H vs Q E hr h => ?_)
  · obtain ⟨x, w, d, ts, rfl, _⟩ := h
    rfl
  · obtain ⟨x, w, d, ts, rfl, hP, hQ⟩ := h
    obtain ⟨dx, r, zs, h1, h2, h3⟩ := hP.ex
    have kC := T.k_Plan
    have n1 := T.n_Plan_own_wish
    refine ⟨_, PSs.nox ((pss_one (ps_ret (pe_fld (pv 0) rfl)))), ?_⟩
    show tRet _ _ [some (.ref x)] H
    walk_at "K"
    walk_at "go"
    exact hQ
end
end PW
/-! ### what an error has; a call's value or its error's tag and field -/
namespace PW
open PySem PySem.Spec PyProof.Rows L2
/-- the errors of the text: class, tag, dict, what _law_field tells -/
inductive ErrRow (K : PySem.W.Frag) : Addr → Str → List (Str × V) → V → Prop where
  | InvalidName (v : V) : ErrRow K (He.ga K "InvalidName") "InvalidName" [("name", v), ("tag", .str "InvalidName")] v
  | DuplicateName (v : V) : ErrRow K (He.ga K "DuplicateName") "DuplicateName" [("name", v), ("tag", .str "DuplicateName")] v
  | NotFlat (v : V) : ErrRow K (He.ga K "NotFlat") "NotFlat" [("name", v), ("tag", .str "NotFlat")] v
  | LimitReached (v : V) : ErrRow K (He.ga K "LimitReached") "LimitReached" [("limit", v), ("tag", .str "LimitReached")] v
  | UnknownName (v : V) : ErrRow K (He.ga K "UnknownName") "UnknownName" [("name", v), ("tag", .str "UnknownName")] v
theorem ErrRow.facts {K : PySem.W.Frag} {mg : Str → Option Value} (T : Txt K mg) {C : Addr} {tag : Str} {fs : List (Str × V)} {x : V} (h : ErrRow K C tag fs x) : XfC K C ∧ PySem.W.findIn K (.ref C) "tag" = some none ∧ PySem.W.exmAny K (.ref C) [.ref (He.ga K "WishError"), .ref (He.ga K "Missing"), .ref (He.ga K "NothingLeft")] = some true ∧ fs.lookup ("tag" : Str) = some (V.str tag) := by
  cases h with
  | InvalidName v => exact ⟨T.x_InvalidName.xf, T.x_InvalidName.no _ (by decide), T.xm_InvalidName, rfl⟩
  | DuplicateName v => exact ⟨T.x_DuplicateName.xf, T.x_DuplicateName.no _ (by decide), T.xm_DuplicateName, rfl⟩
  | NotFlat v => exact ⟨T.x_NotFlat.xf, T.x_NotFlat.no _ (by decide), T.xm_NotFlat, rfl⟩
  | LimitReached v => exact ⟨T.x_LimitReached.xf, T.x_LimitReached.no _ (by decide), T.xm_LimitReached, rfl⟩
  | UnknownName v => exact ⟨T.x_UnknownName.xf, T.x_UnknownName.no _ (by decide), T.xm_UnknownName, rfl⟩

/-- H holds an error -/
def ErrD (C : Addr) (fs : List (Str × V)) (cls : Value) (d : Option Addr) (H : Hp) : Prop := ∃ dd, cls = .ref C ∧ d = some dd ∧ H dd = some (.xd fs)
def spField (K : PySem.W.Frag) : Sp := fun vs H Q _ => ∃ a C tag fs x cls d, vs = [.ref a] ∧ ErrRow K C tag fs x ∧ H a = some (excE a cls d) ∧ ErrD C fs cls d H ∧ ∀ H', Ex H H' → Q x H'
section
variable {P : Program} {w : World} {K : PySem.W.Frag} {mg : Str → Option Value} {base : Heap}
theorem cxW_K {N : List Str} {qual : Str} {scope : Scope} {f : Addr} {cd : Value} {A : Around} {outer : List Env} {s : Shared} {H : Hp} {E : XK} : (cxW P w K mg base N qual scope f cd A outer s H E).K = K := rfl
theorem okW__law_field (T : Txt K mg) : FnW P w K mg base 1 (He.ga K "_law_field") (fdOf K (He.ga K "_law_field")) p__law_field (spField K) := by
  refine fnW_of T.d__law_field sc__law_field (fun vs H Q E h => ?_) (fun cdv A outer s H vs Q E hr h => ?_)
  · obtain ⟨a, C, tag, fs, x, cls, d, rfl, _⟩ := h
    rfl
  · obtain ⟨a, C, tag, fs, x, cls, d, rfl, row, ha, ⟨dd, rfl, rfl, hd⟩, q⟩ := h
    refine ⟨_, ((pss_cons (ps_if (pt_cmpR op_in_seq (PW.pe_xe (pv 0)) (pe_lst (pa_cons pe_str (pa_cons pe_str pa_nil))) rfl)
      (pss_one (ps_ret (PW.pe_xe (pv 0))))
      pss_nil)
    (pss_cons (ps_if (pt_cmpR op_in_seq (PW.pe_xe (pv 0)) (pe_lst (pa_cons pe_str (pa_cons pe_str (pa_cons pe_str (pa_cons pe_str (pa_cons pe_str (pa_cons pe_str pa_nil))))))) rfl)
      (pss_one (ps_ret (PW.pe_xe (pv 0))))
      pss_nil)
    (pss_cons (ps_if (pt_cmpR op_in_seq (PW.pe_xe (pv 0)) (pe_lst (pa_cons pe_str (pa_cons pe_str pa_nil))) rfl)
      (pss_one (ps_ret (PW.pe_xe (pv 0))))
      pss_nil)
    (pss_cons (ps_if (pt_cmpR op_eq (PW.pe_xe (pv 0)) pe_str (nomark _))
      (pss_one (ps_ret (PW.pe_xe (pv 0))))
      pss_nil)
    (pss_cons (ps_if (pt_cmpR op_eq (PW.pe_xe (pv 0)) pe_str (nomark _))
      (pss_one (ps_ret (PW.pe_xe (pv 0))))
      pss_nil)
    (pss_cons (ps_if (pt_cmpR op_eq (PW.pe_xe (pv 0)) pe_str (nomark _))
      (pss_one (ps_ret (PW.pe_xe (pv 0))))
      pss_nil)
    (pss_one (ps_ret (pe_ifExp (pt_cmpR op_eq (PW.pe_xe (pv 0)) pe_str (nomark _)) (PW.pe_xe (pv 0)) pe_non)))))))))), ?_⟩
    show tSeq _ _ _ [some (V.ref a)] H
    simp only [cxW_K]
    cases row with
    | InvalidName v =>
      have M := T.x_InvalidName
      refine ⟨_, rfl, a, _, dd, _, _, rfl, M.xf, M.no _ (by decide), ha, hd, rfl, ?_⟩
      walk_at "go"
      intro p0 hp0
      walk_at "go"
      refine ⟨_, rfl, a, _, dd, _, _, rfl, M.xf, M.no _ (by decide), (Ex.new hp0 _ _ ha), (Ex.new hp0 _ _ hd), rfl, ?_⟩
      walk_at "go"
      intro p1 hp1
      walk_at "go"
      refine ⟨_, rfl, a, _, dd, _, _, rfl, M.xf, M.no _ (by decide), (Ex.new hp1 _ _ (Ex.new hp0 _ _ ha)), (Ex.new hp1 _ _ (Ex.new hp0 _ _ hd)), rfl, ?_⟩
      exact q _ ((Ex.new hp0).trans (Ex.new hp1))
    | DuplicateName v =>
      have M := T.x_DuplicateName
      refine ⟨_, rfl, a, _, dd, _, _, rfl, M.xf, M.no _ (by decide), ha, hd, rfl, ?_⟩
      walk_at "go"
      intro p0 hp0
      walk_at "go"
      refine ⟨_, rfl, a, _, dd, _, _, rfl, M.xf, M.no _ (by decide), (Ex.new hp0 _ _ ha), (Ex.new hp0 _ _ hd), rfl, ?_⟩
      walk_at "go"
      intro p1 hp1
      walk_at "go"
      refine ⟨_, rfl, a, _, dd, _, _, rfl, M.xf, M.no _ (by decide), (Ex.new hp1 _ _ (Ex.new hp0 _ _ ha)), (Ex.new hp1 _ _ (Ex.new hp0 _ _ hd)), rfl, ?_⟩
      exact q _ ((Ex.new hp0).trans (Ex.new hp1))
    | NotFlat v =>
      have M := T.x_NotFlat
      refine ⟨_, rfl, a, _, dd, _, _, rfl, M.xf, M.no _ (by decide), ha, hd, rfl, ?_⟩
      walk_at "go"
      intro p0 hp0
      walk_at "go"
      refine ⟨_, rfl, a, _, dd, _, _, rfl, M.xf, M.no _ (by decide), (Ex.new hp0 _ _ ha), (Ex.new hp0 _ _ hd), rfl, ?_⟩
      walk_at "go"
      intro p1 hp1
      walk_at "go"
      refine ⟨_, rfl, a, _, dd, _, _, rfl, M.xf, M.no _ (by decide), (Ex.new hp1 _ _ (Ex.new hp0 _ _ ha)), (Ex.new hp1 _ _ (Ex.new hp0 _ _ hd)), rfl, ?_⟩
      exact q _ ((Ex.new hp0).trans (Ex.new hp1))
    | LimitReached v =>
      have M := T.x_LimitReached
      refine ⟨_, rfl, a, _, dd, _, _, rfl, M.xf, M.no _ (by decide), ha, hd, rfl, ?_⟩
      walk_at "go"
      intro p0 hp0
      walk_at "go"
      refine ⟨_, rfl, a, _, dd, _, _, rfl, M.xf, M.no _ (by decide), (Ex.new hp0 _ _ ha), (Ex.new hp0 _ _ hd), rfl, ?_⟩
      walk_at "go"
      intro p1 hp1
      walk_at "go"
      refine ⟨_, rfl, a, _, dd, _, _, rfl, M.xf, M.no _ (by decide), (Ex.new hp1 _ _ (Ex.new hp0 _ _ ha)), (Ex.new hp1 _ _ (Ex.new hp0 _ _ hd)), rfl, ?_⟩
      walk_at "go"
      intro p2 hp2
      walk_at "go"
      refine ⟨_, rfl, a, _, dd, _, _, rfl, M.xf, M.no _ (by decide), (Ex.new hp2 _ _ (Ex.new hp1 _ _ (Ex.new hp0 _ _ ha))), (Ex.new hp2 _ _ (Ex.new hp1 _ _ (Ex.new hp0 _ _ hd))), rfl, ?_⟩
      exact q _ (((Ex.new hp0).trans (Ex.new hp1)).trans (Ex.new hp2))
    | UnknownName v =>
      have M := T.x_UnknownName
      refine ⟨_, rfl, a, _, dd, _, _, rfl, M.xf, M.no _ (by decide), ha, hd, rfl, ?_⟩
      walk_at "go"
      intro p0 hp0
      walk_at "go"
      refine ⟨_, rfl, a, _, dd, _, _, rfl, M.xf, M.no _ (by decide), (Ex.new hp0 _ _ ha), (Ex.new hp0 _ _ hd), rfl, ?_⟩
      walk_at "go"
      intro p1 hp1
      walk_at "go"
      refine ⟨_, rfl, a, _, dd, _, _, rfl, M.xf, M.no _ (by decide), (Ex.new hp1 _ _ (Ex.new hp0 _ _ ha)), (Ex.new hp1 _ _ (Ex.new hp0 _ _ hd)), rfl, ?_⟩
      exact q _ ((Ex.new hp0).trans (Ex.new hp1))

/-- try: return ("value", a()) / except (..) as e: return (e.tag, _law_field(e)) -/
def ErrK (K : PySem.W.Frag) (Q : VK) : XK := fun cls d H' => ∃ C tag fs x, ErrRow K C tag fs x ∧ ErrD C fs cls d H' ∧ ∀ p H'', Ex H' H'' → H'' p = some (.tup [.str tag, x]) → Q (.ref p) H''
def TTwhy (K : PySem.W.Frag) : (XK → Hp → VK → Prop) → Hp → VK → Prop := fun tl H Q =>
  tl (ErrK K Q) H (fun v H' => [V.str "value", v].length ≤ sizeLine ∧ ∀ p, H' p = none → Q (.ref p) (upd H' p (.tup [.str "value", v])))
theorem r_why {tl : XK → Hp → VK → Prop} {H : Hp} {Q : VK} (h : tl (ErrK K Q) H (fun v H' => [V.str "value", v].length ≤ sizeLine ∧ ∀ p, H' p = none → Q (.ref p) (upd H' p (.tup [.str "value", v])))) : TTwhy K tl H Q := h
theorem why_gives {X : Cx} {k : Nat} {q : Str} {g : Addr} {cdg : Value} (T : Txt X.K X.mg) (hr : Room (k + 3) X.A) (h0 : ∀ f : Addr, (L2.start n__law_why [V.ref f])[0]? = some (some (V.ref f))) :
    LamX.GivesTo X n__law_why "_law_why" (defScope s__law_why) g cdg (defBody s__law_why) "_law_ask_z" q (TTwhy X.K) := by
  intro f c' s H Q tl act hc h
  have GF := okW__law_field (P := X.prog) (w := X.w) (base := X.base) T
  refine ⟨_, pss_one (ps_try_e3 (X := (cxOf C8.CX0 X.prog X.w X.K X.mg X.base n__law_why "_law_why" (defScope s__law_why) g cdg X.A X.stack s H C8.E0).nox) (i := 1)
      (c1 := .ref (He.ga X.K "WishError")) (c2 := .ref (He.ga X.K "Missing")) (c3 := .ref (He.ga X.K "NothingLeft"))
      (tb := fun W D σ H => ∃ Ech : XK, (∀ cls d σ' H', Ech cls d H' → W cls d σ' H') ∧ σ[0]? = some (some (.ref f)) ∧ H c' = some (LamX.CodeO c' q) ∧ tl Ech H (fun v H1 => [V.str "value", v].length ≤ sizeLine ∧ ∀ p, H1 p = none → D.rt (.ref p) (upd H1 p (.tup [.str "value", v]))))
      (ts := fun a cls d => tRet (tTup (tCons (tXe X.K "tag" (tVar 1)) (tCons (tCall (spField X.K) [] E0 (tCons (tVar 1) tNil)) tNil))))
      rfl rfl rfl sc__law_why.nd rfl rfl ⟨rfl, by decide, .inl T.g_WishError⟩ ⟨rfl, by decide, .inl T.g_Missing⟩ ⟨rfl, by decide, .inl T.g_NothingLeft⟩ (fun W pn xe tk _ => ?_)
      (fun a cls d pn => ?_)), ?_⟩
  · refine ⟨fun pins s' σ H' D I h' => ?_⟩
    obtain ⟨Ech, hW, h1, h2, h3⟩ := h'
    have hq : ∀ (p1 p2 p3 p4 p5 : Pos) (j j2 : Nat), PSs ((cxOf C8.CX0 X.prog X.w X.K X.mg X.base n__law_why "_law_why" (defScope s__law_why) g cdg X.A X.stack s H C8.E0).tr pn xe) [.Return (some (.Tuple [.Constant (.str "value") j p4, .Call (.Name "_law_ask_z" p1) [] [] p2] j2 p3)) p5] _ :=
      fun p1 p2 p3 p4 p5 j j2 => pss_one (ps_ret (pe_tup (pa_cons pe_str (pa_cons (act W pn xe Ech p1 p2 tk hW) pa_nil))))
    refine (hq _ _ _ _ _ _ _).run pins s' σ H' D I ?_
    exact ⟨h1, h2, h3⟩
  · have z : Room 1 (X.A.deeper (envOfC "_law_why" (defScope s__law_why) s.heap.objs.size g cdg)) := (hr.deeper _).mono (by omega)
    have hr1 : L2H.RoomH 1 ((cxOf C8.CX0 X.prog X.w X.K X.mg X.base n__law_why "_law_why" (defScope s__law_why) g cdg X.A X.stack s H C8.E0).nox.suite a pn).A := ⟨z.dp, z.un⟩
    exact pss_one (ps_ret (pe_tup (pa_cons (pe_xe (pv 1)) (pa_cons (pe_callW GF hr1 rfl T.g__law_field T.d__law_field.kp (b__law_field T) (pa_cons (pv 1) pa_nil)) pa_nil))))
  · refine ⟨_, fun cls d σ' H' hx => ?_, h0 f, hc, h⟩
    obtain ⟨C, tag, fs, x, row, hI, hQ⟩ := hx
    obtain ⟨dd, rfl, rfl, hd⟩ := hI
    obtain ⟨xf, hno, hxm, hlk⟩ := row.facts T
    refine ⟨hxm, fun a ha hl => ?_⟩
    have e1 : upd H' a (excE a (.ref C) (some dd)) dd = some (.xd fs) := Ex.new ha _ _ hd
    have e2 : upd H' a (excE a (.ref C) (some dd)) a = some (excE a (.ref C) (some dd)) := upd_same
    have l1 : (σ'.set 1 (some (.ref a)))[1]? = some (some (.ref a)) := by
      rw [List.getElem?_set_self (by rw [hl]; show 1 < n__law_why.length; decide)]
    refine ⟨.ref a, l1, a, _, dd, _, _, rfl, xf, hno, e2, e1, hlk, .ref a, l1, ?_⟩
    refine ⟨a, C, tag, fs, x, _, _, rfl, row, e2, ⟨dd, rfl, rfl, e1⟩, fun H2 x2 => ⟨by show 2 ≤ sizeLine; decide, fun p hp => ?_⟩⟩
    exact hQ p _ (((Ex.new ha).trans x2).trans (Ex.new hp)) upd_same
/-- _law_why(lambda: body) -/
theorem pe_why {X : Cx} {c Pt : Addr} {k : Nat} {params : Arguments} {body : Expr} {scope : Scope} {t : XK → L2.TE} {p lpos pos : Pos} (T : Txt X.K X.mg) (TB : LamX.TabB X.base X.mg c Pt) (hcode : X.env.code = .ref c) (hg : Gl X "_law_why") (hr : Room (k + 3) X.A)
    (L : LamX.LamS X.env.scope scope) (hdef : defaultsOf params X.env = ([], [])) (hbind : ∀ (q : Str) (cl : List (Str × Addr)) (pm cv ctv : Value), bindArgs (PySem.W.kla_fn "<lambda>" q params body scope cl pm cv ctv) ⟨[], []⟩ = pure [])
    (hbody : ∀ (A : Around) (outer : List Env) (s : Shared) (H : Hp) (E : XK) (f c' : Addr), Room k (A.deeper (LamX.lamEnv X scope s.heap.objs.size f c')) → PE (LamX.lamCx X A outer s H E scope f c') body (t E)) :
    PE X (.Call (.Name "_law_why" p) [.Lambda params body scope lpos] [] pos) (LamX.tLam [(Pt, X.env.qual ++ "<lambda>")] (TTwhy X.K) t) := by
  obtain ⟨oc, od, dV, kV, doc, pm, an, cdv, ct, osl, e, lk, hcd, _, _⟩ := T.d__law_why.ex
  have hb := b__law_why T
  rw [e] at lk
  have e2 : fdOf X.K (He.fAd X.K ("_law_why", none)) = _ := e
  rw [e2] at hb
  exact LamX.pe_lamcall (k := k) (Ng := n__law_why) (a := "_law_ask_z") hg T.g__law_why T.d__law_why.kp lk hcd hb sc__law_why rfl (.inl rfl) (why_gives T hr fun _ => rfl) TB hcode List.mem_cons_self (fun q hq _ => by
    rcases List.mem_cons.mp hq with rfl | hq
    · rfl
    · exact nomatch hq) (hr.mono (by omega)) L hdef hbind hbody
end
end PW
/-! ### laws with lambdas: the table grows, all else stays -/
namespace PW
open PySem PySem.Spec PyProof.Rows L2
open LamX (Tabs TabS CodeO ExtN TabB)
/-- the name of the law's lambdas' code, by its table -/
def TbL (Pt : Addr) : List (Addr × Str) := [(Pt, (envOfC "law" (defScope s_law) 0 0 .none).qual ++ "<lambda>")]
def spLawS (K : PySem.W.Frag) (Pt : Addr) : Sp := fun vs H Q _ => ∃ (a : Addr) (ns : List Int), vs = [.ref a] ∧ SqL K H a (ns.map V.int) ∧ ns.length ≤ 63 ∧ H Pt = some (.tbl #[]) ∧ ∀ H', Q (.bl true) H'
/-- the bag stands, the table too (told of the heap without the bag) -/
structure BT (Pt : Addr) (H : Hp) (b c : Addr) : Prop where
  bag : BagAt H b c
  tab : Tabs (TbL Pt) (hide H b)
theorem exb_hides {b : Addr} {H H' : Hp} (x : ExB b H H') : Ex (PW.hide H b) (PW.hide H' b) := fun a o h => by
  have na : a ≠ b := fun z => by
    rw [z, hide_same] at h
    cases h
  rw [hide_ne na] at h ⊢
  exact x a o na h
theorem BT.pull {Pt b c : Addr} {H H' : Hp} (t : BT Pt H b c) (hB : BagAt H' b c) (x : ExB b H H') : BT Pt H' b c := ⟨hB, t.tab.ext (exb_hides x)⟩
theorem BT.ex {Pt b c : Addr} {H H' : Hp} (t : BT Pt H b c) (x : Ex H H') : BT Pt H' b c := ⟨t.bag.grow x, t.tab.ext (x.hides b)⟩
theorem BT.tabs {Pt b c : Addr} {H : Hp} (t : BT Pt H b c) : Tabs (TbL Pt) H := t.tab.ext (Ex.hide H b)
theorem tabs_hide {T : List (Addr × Str)} {H : Hp} {b : Addr} {xs : List V} (hb : H b = some (.lst xs)) (t : Tabs T H) : Tabs T (hide H b) := fun p hp => by
  obtain ⟨ps, h1, h2, h3⟩ := t p hp
  have n1 : p.1 ≠ b := fun z => by
    rw [z, hb] at h1
    cases h1
  refine ⟨ps, (hide_ne n1).trans h1, h2, fun pos cv e => ?_⟩
  obtain ⟨c, e1, e2⟩ := h3 pos cv e
  have n2 : c ≠ b := fun z => by
    rw [z, hb] at e2
    have e3 : HO.lst xs = CodeO b p.2 := Option.some.inj e2
    cases e3
  exact ⟨c, e1, (hide_ne n2).trans e2⟩
theorem BT.lam {Pt b c : Addr} {H H1 : Hp} (t : BT Pt H b c) (x : ExtN H H1) (ht : Tabs (TbL Pt) H1) : BT Pt H1 b c := by
  obtain ⟨cells, i, g, s, h1, h2, _⟩ := t.bag.ex
  have k1 := x _ _ h1 (fun ps z => by cases z)
  have k2 := x _ _ h2 (fun ps z => by cases z)
  refine ⟨t.bag.keep (fun o q => ?_) (fun o q => ?_), tabs_hide k1 ht⟩
  · rw [h1] at q
    injection q with q
    subst q
    exact k1
  · rw [h2] at q
    injection q with q
    subst q
    exact k2
theorem BT.first {Pt b c : Addr} {H H1 : Hp} (hP : H Pt = some (.tbl #[])) (x : ∀ a o, H a = some o → H1 a = some o) (hB : BagAt H1 b c) : BT Pt H1 b c := by
  obtain ⟨cells, i, g, s, h1, _⟩ := hB.ex
  refine ⟨hB, tabs_hide h1 fun p hp => ?_⟩
  rcases List.mem_cons.mp hp with rfl | hp
  · exact TabS.nil (x _ _ hP)
  · exact nomatch hp
theorem ExtN.tup {K : PySem.W.Frag} {H H' : Hp} {p : Addr} {xs : List V} (e : ExtN H H') (h : SqT K H p xs) : SqT K H' p xs := by
  rcases h with (h | ⟨o, h⟩) | h
  · exact .inl (.inl (e _ _ h (fun _ z => by cases z)))
  · exact .inl (.inr ⟨o, e _ _ h (fun _ z => by cases z)⟩)
  · exact .inr h
end PW
/-! ### len of an own class's instance -/
namespace PW
open PySem PySem.Spec PyProof.Rows L2
def cOwnLen (C : Addr) (sp : Sp) (E : XK) : List V → Hp → VK → Prop := fun xs H Q => ∃ a dx fs, xs = [.ref a] ∧ H a = some (.ins C dx fs) ∧ sp [.ref a] H (fun v H' => ∃ n : Nat, v = .int (n : Nat) ∧ n ≤ 1000000000 ∧ Q (.int (n : Nat)) H') E
section
variable {X : Cx} {CX : CXT} {k : Nat} {C g : Addr} {fd : FuncData} {ps : List Str} {sp : Sp} {E : XK}
theorem call_lenOwn (hs : PySem.W.findIn X.K (.ref C) "__len__" = some (some (.ref g))) (hf : PySem.W.isFn X.K (.ref g) = true) (F : FnOk X.prog X.w X.K X.mg X.base CX k g fd ps sp) (hr : Room (k + 1) X.A) (hb : Binds X.K fd ps []) (hx : Passes CX X E) :
    CallR X (.builtin "len") (cOwnLen C sp E) := by
  intro pins s σ H xs us Q I r h
  obtain ⟨a, dx, fs, rfl, ha, q⟩ := h
  obtain ⟨u, rfl, ru⟩ := vals1 r
  cases (show u = Value.ref a from ru)
  obtain ⟨od, J⟩ := inst_of I ha
  refine Calls.call_function_entry kind_len plain_len entry_len (args_len1 _) ?_
  unfold Builtin.«len»
  refine wpAny_bind (m := oneArg "len" _) (wpAny_pure ?_)
  refine wpAny_bind (m := callSpecial? (.ref a) (Str.ofString "__len__")) (PySem.W.special_fn I.kIn J hs (beq_iff_eq.mp hf) ?_)
  have hE : Env0 X.prog X.w X.K X.mg X.base X.A.in1 X.stack s H := I.env0.in1
  have r2 : Vals [V.ref a] [Value.ref a] := .cons rfl .nil
  refine wpAny_call (codeAny_mono (F.run X.A.in1 X.stack s H ⟨[.ref a], []⟩ [.ref a] [.ref a] _ E (Room.in1 hr) hE (by
    have hl : ([Value.ref a] ++ ([] : List Value)).length = ps.length := by rw [List.append_nil, ← r2.length]; exact F.len _ _ _ _ q
    have z := hb s [.ref a] I.kIn hl
    rw [List.append_nil] at z
    exact z) r2 q) fun r s' hq => ?_)
  cases r with
  | error e => exact hx pins σ H s e s' I hq
  | ok fl =>
    cases fl with
    | ret u =>
      obtain ⟨v, H2, I2, rv, n, rfl, hn, qn⟩ := I.after hq
      obtain ⟨t, rfl⟩ : ∃ t, u = Value.int (n : Nat) t := rv
      refine wpAny_bind (wpAny_holding (wpAny_pure ?_))
      refine wpAny_bind (wpAny_letGo ?_)
      show wpAny _ _ (if ((n : Nat) : Int) < 0 then _ else _) _ _ _
      rw [if_neg (by omega)]
      show wpAny _ _ (if ((n : Nat) : Int) ≥ 2 ^ 63 then _ else _) _ _ _
      rw [if_neg (by omega)]
      exact wpAny_bind (wpAny_mkInt (wpAny_pure ⟨_, rfl, .int (n : Nat), H2, I2.kept fun b o e => e, ⟨_, rfl⟩, qn⟩))
    | next => exact False.elim hq
    | brk => exact False.elim hq
    | cont => exact False.elim hq
end
end PW
/-! ### raising promises where nothing is raised -/
namespace PW
open PySem PySem.Spec PyProof.Rows L2
theorem cx_no {P : Program} {w : World} {outer : List Env} {H : Hp} {s s' : Shared} {u : Value} (h : L2.CX P w outer H s (fun _ _ _ => False) u s') : False := by
  obtain ⟨_, _, _, _, _, _, _, _, _, _, _, _, z⟩ := h
  exact z
/-- nothing is raised where nothing may be -/
theorem FnOk.calm {P : Program} {w : World} {K : PySem.W.Frag} {mg : Str → Option Value} {base : Heap} {k : Nat} {f : Addr} {fd : FuncData} {ps : List Str} {sp : Sp} (F : FnOk P w K mg base (L2.CX P w) k f fd ps sp) : FnOk P w K mg base CX0 k f fd ps (fun vs H Q _ => sp vs H Q fun _ _ _ => False) :=
  ⟨fun vs H Q E h => F.len vs H Q _ h, fun A outer s H args us vs Q E hr he hb hv h => codeAny_mono (F.run A outer s H args us vs Q _ hr he hb hv h) fun r s' z => by
    cases r with
    | error e => exact cx_no z
    | ok fl =>
      cases fl with
      | ret u => exact z
      | _ => exact z.elim⟩
end PW
/-! ### the period in general -/
namespace PW
open PySem PySem.Spec PyProof.Rows L2
/-- few comparisons, moduli up to 12 -/
def PerOk (cs : List Cd) : Prop := (∀ c ∈ cs, c.ok) ∧ cs.length ≤ 100
theorem ord_le {m : Nat} (h1 : m % 2 = 1) (h2 : m ≤ 12) : ordN m ≤ 12 := by
  have h := List.all_eq_true.mp ord_fact m (List.mem_range.mpr (by omega))
  rw [h1] at h
  simp only [bne_self_eq_false, Bool.false_or, Bool.and_eq_true, decide_eq_true_eq, beq_iff_eq] at h
  exact h.2.1
theorem odd_odd : ∀ m < 13, 0 < m → oddN m m % 2 = 1 ∧ oddN m m ≤ 12 ∧ 0 < oddN m m := by decide
theorem lcm_le {f m a : Nat} (h : f ≤ 2 ^ a) (hm : m ≤ 12) (h0 : 0 < f) (m0 : 0 < m) : Nat.lcm f m ≤ 2 ^ (a + 4) ∧ 0 < Nat.lcm f m := by
  refine ⟨?_, Nat.lcm_pos h0 m0⟩
  have h1 : Nat.lcm f m ≤ f * m := Nat.div_le_self _ _
  have h2 : f * m ≤ 2 ^ a * 16 := Nat.mul_le_mul h (by omega)
  rw [Nat.pow_add]
  exact Nat.le_trans h1 h2
section
variable {P : Program} {w : World} {K : PySem.W.Frag} {mg : Str → Option Value} {base : Heap}
theorem ok_period_of {k : Nat} (T : Txt K mg)
    (G_multiples : FnOk P w K mg base CX0 k (He.ga K "multiples") (fdOf K (He.ga K "multiples")) p_multiples (spMult K 19))
    (G_joint : FnOk P w K mg base CX0 k (He.ga K "joint") (fdOf K (He.ga K "joint")) p_joint (spJoint))
    (G_order_of_two : FnOk P w K mg base CX0 k (He.ga K "order_of_two") (fdOf K (He.ga K "order_of_two")) p_order_of_two (spOrd))
    (G_odd_part : FnOk P w K mg base CX0 k (He.ga K "odd_part") (fdOf K (He.ga K "odd_part")) p_odd_part (spOdd)) : FnOk P w K mg base CX0 (k + 1) (He.ga K "period_of") (fdOf K (He.ga K "period_of")) p_period_of (spPer K PerOk) := by
  refine FunD.ok T.d_period_of sc_period_of (fun vs H Q E h => ?_) (fun cdv A outer s H vs Q E hr h => ?_)
  · obtain ⟨l, u, e, ys, cs, H0, rfl, _⟩ := h
    rfl
  · obtain ⟨l, u, e, ys, cs, H0, rfl, x0, hl, hys, hat, he, hu, ⟨hok, hfew⟩, hQ⟩ := h
    refine ⟨_, PSs.nox ((pss_cons (ps_set (i := 2) sc_period_of.nd rfl (Or.inl rfl) pe_int)
    (pss_cons (ps_for PassesOwn.never rfl (pi_list (pv 0)) (pg_name (i := 3) sc_period_of.nd rfl (Or.inl rfl) (hf := by first | exact Or.inl rfl | exact Or.inr rfl))
      (pss_one (ps_if (pt_cmpR op_eq (pe_ix ix_tup (pv 3) pe_int (fun _ _ => rfl)) pe_str (nomark _))
          (pss_cons (ps_asg (pe_call G_multiples hr rfl T.g_multiples T.d_multiples.kp (b_multiples T) .nil pass0 (pa_cons (pe_ix ix_tup (pv 3) pe_int (fun _ _ => rfl)) (pa_cons (pv 1) pa_nil))) (pg_tup rfl (pgs_cons (pg_name (i := 4) sc_period_of.nd rfl (Or.inl rfl) (hf := by first | exact Or.inl rfl | exact Or.inr rfl)) (pgs_cons (pg_name (i := 5) sc_period_of.nd rfl (Or.inl rfl) (hf := by first | exact Or.inl rfl | exact Or.inr rfl)) pgs_nil))))
            (pss_cons (ps_if (pt_cmpR op_ne (pv 5) pe_int (nomark _))
              (pss_one (ps_set (i := 2) sc_period_of.nd rfl (Or.inl rfl) (pe_call G_joint hr rfl T.g_joint T.d_joint.kp (b_joint T) .nil pass0 (pa_cons (pv 2) (pa_cons (pe_ix ix_tup (pv 3) pe_int (fun _ _ => rfl)) pa_nil)))))
              pss_nil)
            (pss_one (ps_if (pt_cmpR op_ne (pv 4) pe_int (nomark _))
              (pss_one (ps_set (i := 2) sc_period_of.nd rfl (Or.inl rfl) (pe_call G_joint hr rfl T.g_joint T.d_joint.kp (b_joint T) .nil pass0 (pa_cons (pv 2) (pa_cons (pe_call G_order_of_two hr rfl T.g_order_of_two T.d_order_of_two.kp (b_order_of_two T) .nil pass0 (pa_cons (pe_call G_odd_part hr rfl T.g_odd_part T.d_odd_part.kp (b_odd_part T) .nil pass0 (pa_cons (pe_ix ix_tup (pv 3) pe_int (fun _ _ => rfl)) pa_nil)) pa_nil)) pa_nil)))))
              pss_nil))))
          pss_nil)))
    (pss_one (ps_ret (pv 2)))))), ?_⟩
    show tSeq _ _ _ [some (.ref l), some (.str u), none, none, none, none] H
    walk_at "K"
    walk_at "go"
    have hlen := pr_len hys
    refine for_it (walk_list (xs := ys)) (fun i σ H' => (∃ y z1 z2 : Option V, ∃ f : Nat, σ = [some (.ref l), some (.str u), some (.int (f : Nat)), y, z1, z2] ∧ f = (cs.take i).foldl (Cd.perS u) 1 ∧ 0 < f ∧ f ≤ 2 ^ (8 * i)) ∧ Ex H H') ⟨⟨_, _, _, 1, rfl, rfl, by decide, by decide⟩, Ex.refl _⟩ (fun i σ H' _ h => SqL.of (h.2 _ _ hl)) ?_ ?_
    · rintro i x σ H1 H1' hi ⟨⟨y, z1, z2, f, rfl, hf, f0, f1⟩, x1⟩ ⟨rfl, hx⟩
      obtain ⟨c, hc, hv⟩ := pr_get hys hx
      have hm := List.mem_of_getElem? hc
      have hco := hok c hm
      have hs1 : (cs.take (i + 1)).foldl (Cd.perS u) 1 = Cd.perS u f c := by
        rw [List.take_add_one, hc, List.foldl_append, ← hf]
        rfl
      obtain ⟨p, xs, rfl, hs, row⟩ := hv
      have hs := x1 _ _ (x0 _ _ hs)
      have f2 : f ≤ 2 ^ (8 * (i + 1)) := Nat.le_trans f1 (Nat.pow_le_pow_right (by decide) (by omega))
      cases c with
      | less a b =>
        obtain ⟨x, y, rfl, _⟩ := row
        walk_at "go"
        exact ⟨⟨_, _, _, f, rfl, hs1.symm, f0, f2⟩, x1⟩
      | equ a b =>
        obtain ⟨x, y, rfl, _⟩ := row
        walk_at "go"
        exact ⟨⟨_, _, _, f, rfl, hs1.symm, f0, f2⟩, x1⟩
      | res t m r =>
        obtain ⟨x, rfl, ht⟩ := row
        obtain ⟨ho, m2, m12, r0, r1⟩ := hco
        obtain ⟨mn, rfl⟩ : ∃ mn : Nat, m = (mn : Int) := ⟨m.toNat, by omega⟩
        have mi : mn ≤ 12 := by omega
        have m0 : 0 < mn := by omega
        have hi100 : 8 * i ≤ 800 := by omega
        have bnd : ∀ g a : Nat, g ≤ 2 ^ a → a ≤ 900 → g < 2 ^ 1000 := fun g a h ha => Nat.lt_of_le_of_lt h (Nat.pow_lt_pow_right (by decide) (by omega))
        walk_at "go"
        refine ⟨x, u, t, e, 10 ^ 9, 100, 100, rfl, ht.ex (x0.trans x1), by have := ht.depth; omega, ho, by decide, hu, fun q H2 x2 hq => ?_⟩
        have hs2 := x2 _ _ hs
        replace x2 := x1.trans x2
        walk_at "go"
        refine r_if2 (fun e1 => ?_) (fun e1 => ?_)
        · obtain ⟨k1, k2⟩ := lcm_le (a := 8 * i) f1 mi f0 m0
          have z2 : (t.mul u).2 ≠ 0 := fun z => by
            rw [z] at e1
            cases e1
          walk_at "go"
          refine ⟨f, mn, rfl, f0, m0, bnd _ _ f1 (by omega), bnd _ 4 (by omega) (by decide), ?_⟩
          walk_at "go"
          refine r_if2 (fun e2 => ?_) (fun e2 => ?_)
          · walk_at "go"
            refine ⟨mn, rfl, m0, mi, ?_⟩
            obtain ⟨od1, od2, od3⟩ := odd_odd mn (by omega) m0
            walk_at "go"
            refine ⟨oddN mn mn, rfl, od1, od2, ?_⟩
            have ol := ord_le od1 od2
            have op := (ord_ok od1 od2).1
            obtain ⟨l1, l2⟩ := lcm_le (a := 8 * i + 4) (f := Nat.lcm f mn) (m := ordN (oddN mn mn)) k1 ol k2 op
            walk_at "go"
            refine ⟨Nat.lcm f mn, ordN (oddN mn mn), rfl, k2, op, bnd _ _ k1 (by omega), bnd _ 4 (by omega) (by decide), ?_⟩
            walk_at "go"
            refine ⟨⟨_, _, _, _, rfl, ?_, l2, Nat.le_trans l1 (Nat.pow_le_pow_right (by decide) (by omega))⟩, x2⟩
            rw [hs1]
            have z1 : (t.mul u).1 ≠ 0 := fun z => by
              rw [z] at e2
              cases e2
            skip
            simp only [Cd.perS, Int.toNat_natCast, ne_eq, z1, z2, not_false_eq_true, not_true_eq_false, if_true, if_false]
          · walk_at "go"
            refine ⟨⟨_, _, _, Nat.lcm f mn, rfl, ?_, k2, Nat.le_trans k1 (Nat.pow_le_pow_right (by decide) (by omega))⟩, x2⟩
            rw [hs1]
            have z1 : (t.mul u).1 = 0 := by
              have e3 := of_decide_eq_true (show decide (V.int (t.mul u).1 = V.int 0) = true by simpa using e2)
              exact V.int.inj e3
            skip
            simp only [Cd.perS, Int.toNat_natCast, ne_eq, z1, z2, not_false_eq_true, not_true_eq_false, if_true, if_false]
        · have z2 : (t.mul u).2 = 0 := by
            have e3 := of_decide_eq_true (show decide (V.int (t.mul u).2 = V.int 0) = true by simpa using e1)
            exact V.int.inj e3
          have f3 : f ≤ 2 ^ (8 * i + 4) := Nat.le_trans f1 (Nat.pow_le_pow_right (by decide) (by omega))
          walk_at "go"
          refine r_if2 (fun e2 => ?_) (fun e2 => ?_)
          · walk_at "go"
            refine ⟨mn, rfl, m0, mi, ?_⟩
            obtain ⟨od1, od2, od3⟩ := odd_odd mn (by omega) m0
            walk_at "go"
            refine ⟨oddN mn mn, rfl, od1, od2, ?_⟩
            have ol := ord_le od1 od2
            have op := (ord_ok od1 od2).1
            obtain ⟨l1, l2⟩ := lcm_le (a := 8 * i + 4) (f := f) (m := ordN (oddN mn mn)) f3 ol f0 op
            walk_at "go"
            refine ⟨f, ordN (oddN mn mn), rfl, f0, op, bnd _ _ f3 (by omega), bnd _ 4 (by omega) (by decide), ?_⟩
            walk_at "go"
            refine ⟨⟨_, _, _, _, rfl, ?_, l2, Nat.le_trans l1 (Nat.pow_le_pow_right (by decide) (by omega))⟩, x2⟩
            rw [hs1]
            have z1 : (t.mul u).1 ≠ 0 := fun z => by
              rw [z] at e2
              cases e2
            skip
            simp only [Cd.perS, Int.toNat_natCast, ne_eq, z1, z2, not_false_eq_true, not_true_eq_false, if_true, if_false]
          · walk_at "go"
            refine ⟨⟨_, _, _, f, rfl, ?_, f0, Nat.le_trans f3 (Nat.pow_le_pow_right (by decide) (by omega))⟩, x2⟩
            rw [hs1]
            have z1 : (t.mul u).1 = 0 := by
              have e3 := of_decide_eq_true (show decide (V.int (t.mul u).1 = V.int 0) = true by simpa using e2)
              exact V.int.inj e3
            skip
            simp only [Cd.perS, Int.toNat_natCast, ne_eq, z1, z2, not_false_eq_true, not_true_eq_false, if_true, if_false]
      | _ => cases hat _ hm
    · rintro σ H1 ⟨⟨y, z1, z2, f, rfl, hf, f0, f1⟩, x1⟩
      rw [hlen, List.take_length] at hf
      walk_at "go"
      have q := hQ H1 x1
      rw [show perL u cs = f from hf.symm] at q
      exact q
end
end PW
/-! ### equal terms are alike -/
namespace PW
open PySem PySem.Spec PyProof.Rows L2
theorem Sm.tups {K : PySem.W.Frag} {n : Nat} {H : Hp} {p q : Addr} {xs ys : List V} (hp : H p = some (.tup xs)) (hq : H q = some (.tup ys)) (hl : xs.length ≤ 100000) (h : Paired (Sm K n H) xs ys) : Sm K (n + 1) H (.ref p) (.ref q) :=
  .inr ⟨p, q, xs, ys, rfl, rfl, .inr ⟨hp, hq⟩, pr_len h, hl, fun i u v hu hv => by
    obtain ⟨y, hy, z⟩ := pr_get h hu
    rw [hv] at hy
    injection hy with hy
    subst hy
    exact z⟩
theorem Sm.lsts {K : PySem.W.Frag} {n : Nat} {H : Hp} {p q : Addr} {xs ys : List V} (hp : H p = some (.lst xs)) (hq : H q = some (.lst ys)) (hl : xs.length ≤ 100000) (h : Paired (Sm K n H) xs ys) : Sm K (n + 1) H (.ref p) (.ref q) :=
  .inr ⟨p, q, xs, ys, rfl, rfl, .inl ⟨hp, hq⟩, pr_len h, hl, fun i u v hu hv => by
    obtain ⟨y, hy, z⟩ := pr_get h hu
    rw [hv] at hy
    injection hy with hy
    subst hy
    exact z⟩
theorem Sm.up {K : PySem.W.Frag} : ∀ {n : Nat} {H : Hp} {x y : V}, Sm K n H x y → Sm K (n + 1) H x y
  | 0, _, _, _, h => .inl h
  | n + 1, H, x, y, h => by
    rcases h with h | ⟨p, q, xs, ys, h1, h2, h3, h4, h5, h6⟩
    · exact .inl h
    · exact .inr ⟨p, q, xs, ys, h1, h2, h3, h4, h5, fun i u v hu hv => Sm.up (h6 i u v hu hv)⟩
theorem IsTm.same {K : PySem.W.Frag} {H : Hp} : ∀ {d d' : Nat} {v v' : V} {t : Tm} {n m q : Nat}, t.ok n m q → IsTm K H d v t → IsTm K H d' v' t → Sm K (2 * d) H v v'
  | 0, _, _, _, _, _, _, _, _, h, _ => h.elim
  | _ + 1, 0, _, _, _, _, _, _, _, _, h => h.elim
  | d + 1, d' + 1, v, v', t, n, m, q, ok, h, h' => by
    obtain ⟨p, xs, rfl, h1, h2⟩ := h
    obtain ⟨p', xs', rfl, h1', h2'⟩ := h'
    have fl : ∀ {z : Str}, Sm K (2 * d + 1) H (.str z) (.str z) := Sm.flat rfl
    have fi : ∀ {i : Int}, Sm K (2 * d + 1) H (.int i) (.int i) := Sm.flat rfl
    have sub : ∀ {x x' : V} {a : Tm}, a.ok n m q → IsTm K H d x a → IsTm K H d' x' a → Sm K (2 * d + 1) H x x' := fun o z z' => (IsTm.same o z z').up
    show Sm K (2 * d + 1 + 1) H (.ref p) (.ref p')
    have l4 : ∀ {zs : List V}, zs.length ≤ 3 → zs.length ≤ 100000 := fun z => Nat.le_trans z (by decide)
    cases t with
    | num i =>
      have h2 : xs = _ := h2
      have h2' : xs' = _ := h2'
      subst h2 h2'
      exact Sm.tups h1 h1' (l4 (by show 2 ≤ 3; decide)) (.cons fl (.cons fi .nil))
    | nam z =>
      have h2 : xs = _ := h2
      have h2' : xs' = _ := h2'
      subst h2 h2'
      exact Sm.tups h1 h1' (l4 (by show 2 ≤ 3; decide)) (.cons fl (.cons fl .nil))
    | add a b =>
      have ok : a.ok n m q ∧ b.ok n m q := by simpa only [Tm.ok] using ok
      obtain ⟨x, y, rfl, e2, e3⟩ := h2
      obtain ⟨x', y', rfl, e2', e3'⟩ := h2'
      exact Sm.tups h1 h1' (l4 (by show 3 ≤ 3; decide)) (.cons fl (.cons (sub ok.1 e2 e2') (.cons (sub ok.2 e3 e3') .nil)))
    | sub a b =>
      have ok : a.ok n m q ∧ b.ok n m q := by simpa only [Tm.ok] using ok
      obtain ⟨x, y, rfl, e2, e3⟩ := h2
      obtain ⟨x', y', rfl, e2', e3'⟩ := h2'
      exact Sm.tups h1 h1' (l4 (by show 3 ≤ 3; decide)) (.cons fl (.cons (sub ok.1 e2 e2') (.cons (sub ok.2 e3 e3') .nil)))
    | tim i a =>
      have ok : i.natAbs < m ∧ a.ok n m q := by simpa only [Tm.ok] using ok
      obtain ⟨x, rfl, e2⟩ := h2
      obtain ⟨x', rfl, e2'⟩ := h2'
      exact Sm.tups h1 h1' (l4 (by show 3 ≤ 3; decide)) (.cons fl (.cons fi (.cons (sub ok.2 e2 e2') .nil)))
    | pow a =>
      have ok : a.ok n m q := by simpa only [Tm.ok] using ok
      obtain ⟨x, rfl, e2⟩ := h2
      obtain ⟨x', rfl, e2'⟩ := h2'
      exact Sm.tups h1 h1' (l4 (by show 2 ≤ 3; decide)) (.cons fl (.cons (sub ok e2 e2') .nil))
    | len a =>
      have ok : a.ok n m q := by simpa only [Tm.ok] using ok
      obtain ⟨x, rfl, e2⟩ := h2
      obtain ⟨x', rfl, e2'⟩ := h2'
      exact Sm.tups h1 h1' (l4 (by show 2 ≤ 3; decide)) (.cons fl (.cons (sub ok e2 e2') .nil))
    | quo a i =>
      have ok : (1 ≤ i ∧ i < (q : Nat)) ∧ a.ok n m q := by simpa only [Tm.ok] using ok
      obtain ⟨x, rfl, e2⟩ := h2
      obtain ⟨x', rfl, e2'⟩ := h2'
      exact Sm.tups h1 h1' (l4 (by show 3 ≤ 3; decide)) (.cons fl (.cons (sub ok.2 e2 e2') (.cons fi .nil)))
    | cal f as =>
      have ok : isNameZ f = true ∧ as.length ≤ 3 ∧ Tm.oks n m q as := by simpa only [Tm.ok] using ok
      obtain ⟨r, ys, rfl, e2, e3⟩ := h2
      obtain ⟨r', ys', rfl, e2', e3'⟩ := h2'
      have go : ∀ {as : List Tm} {ys ys' : List V}, Tm.oks n m q as → Paired (IsTm K H d) ys as → Paired (IsTm K H d') ys' as → Paired (Sm K (2 * d) H) ys ys' := by
        intro as
        induction as with
        | nil =>
          intro ys ys' _ z z'
          cases z
          cases z'
          exact .nil
        | cons a r ih =>
          intro ys ys' o z z'
          have o : a.ok n m q ∧ Tm.oks n m q r := by simpa only [Tm.oks] using o
          cases z with
          | cons z1 z2 =>
            cases z' with
            | cons z1' z2' => exact .cons (IsTm.same o.1 z1 z1') (ih o.2 z2 z2')
      exact Sm.tups h1 h1' (l4 (by show 3 ≤ 3; decide)) (.cons fl (.cons fl (.cons (Sm.tups e2 e2' (l4 (by rw [pr_len e3]; exact ok.2.1)) (go ok.2.2 e3 e3')) .nil)))
end PW
/-! ### law k72 -/
namespace PW
open PySem PySem.Spec PyProof.Rows L2
open LamX (Tabs TabS CodeO ExtN TabB)
local macro_rules | `(tactic| walk_at "mem") => `(tactic| repeat (first | exact List.Mem.head _ | apply List.Mem.tail))
/-- bag, tables, objects that stay -/
structure S72 (Pt b c : Addr) (H : Hp) (kl : List (Addr × HO)) : Prop where
  bt : BT Pt H b c
  tu : ∀ q ∈ kl, q.1 ≠ b ∧ (∀ ps, q.2 ≠ .tbl ps) ∧ H q.1 = some q.2
section
variable {Pt b c p : Addr} {H H' : Hp} {kl kl' : List (Addr × HO)} {xs : List V} {o : HO}
theorem S72.ex (s : S72 Pt b c H kl) (x : Ex H H') : S72 Pt b c H' kl := ⟨s.bt.ex x, fun q h => ⟨(s.tu q h).1, (s.tu q h).2.1, x _ _ (s.tu q h).2.2⟩⟩
theorem S72.putO (s : S72 Pt b c H kl) (hp : H p = none) (ho : ∀ ps, o ≠ .tbl ps) : S72 Pt b c (L2.upd H p o) ((p, o) :: kl) := ⟨s.bt.ex (Ex.new hp), fun q h => by
  rcases List.mem_cons.mp h with rfl | h
  · exact ⟨(s.bt.bag.ne hp).1.symm, ho, upd_same⟩
  · exact ⟨(s.tu q h).1, (s.tu q h).2.1, Ex.new hp _ _ (s.tu q h).2.2⟩⟩
theorem S72.put (s : S72 Pt b c H kl) (hp : H p = none) : S72 Pt b c (L2.upd H p (.tup xs)) ((p, .tup xs) :: kl) := s.putO hp fun _ h => nomatch h
theorem S72.putL (s : S72 Pt b c H kl) (hp : H p = none) : S72 Pt b c (L2.upd H p (.lst xs)) ((p, .lst xs) :: kl) := s.putO hp fun _ h => nomatch h
theorem S72.pull (s : S72 Pt b c H kl) (hB : BagAt H' b c) (x : ExB b H H') : S72 Pt b c H' kl := ⟨s.bt.pull hB x, fun q h => ⟨(s.tu q h).1, (s.tu q h).2.1, x _ _ (s.tu q h).1 (s.tu q h).2.2⟩⟩
theorem S72.lam (s : S72 Pt b c H kl) (x : ExtN H H') (ht : Tabs (TbL Pt) H') : S72 Pt b c H' kl := ⟨s.bt.lam x ht, fun q h => ⟨(s.tu q h).1, (s.tu q h).2.1, x _ _ (s.tu q h).2.2 (s.tu q h).2.1⟩⟩
theorem S72.at (s : S72 Pt b c H kl) (h : (p, o) ∈ kl) : H p = some o := (s.tu _ h).2.2
theorem S72.sub (s : S72 Pt b c H kl) (h : ∀ q ∈ kl', q ∈ kl) : S72 Pt b c H kl' := ⟨s.bt, fun q hq => s.tu q (h q hq)⟩
end
def rows72 : List (Int × Int × Int) := [(12, 5, 60), (10, 12, 60), (9, 7, 63), (11, 6, 66), (8, 9, 72), (5, 11, 55), (11, 5, 55), (4, 8, 8), (7, 8, 56), (12, 12, 12), (9, 8, 72), (7, 11, 77), (12, 11, 132), (2, 3, 6)]
theorem we_lim60 {K : PySem.W.Frag} {H0 : Hp} {Q : VK} (q : ∀ p1 H', Ex H0 H' → H' p1 = some (.tup [.str "LimitReached", .int 60]) → Q (.ref p1) H') : WeK K H0 (ErrK K Q) (.lim 60) := by
  have go : ∀ m : Int, m = 60 → LimC K m H0 (ErrK K Q) := fun m e => by
    subst e
    exact fun d H' x' hd => ⟨_, _, _, _, ErrRow.LimitReached (.int 60), ⟨d, rfl, rfl, hd⟩, fun p H'' x'' hp => q p H'' (x'.trans x'') hp⟩
  exact ⟨fun e => go _ e.symm, fun e => go _ e.symm, fun e => go _ e.symm, fun e => go _ e.symm⟩
/-- a row of the law's list -/
def Row72 (H : Hp) (v : V) : Prop := ∃ p r, v = .ref p ∧ r ∈ rows72 ∧ H p = some (.tup [.int r.1, .int r.2.1, .int r.2.2])
def cnd72 (a b : Int) : Cd := .con (.res (.nam "y") a 1) (.neg (.res (.nam "y") b 0))
theorem all72 : (rows72.all fun r => decide (2 ≤ r.1) && decide (r.1 ≤ 12) && (decide (2 ≤ r.2.1) && decide (r.2.1 ≤ 12)) && match wErr [] (.str "y") (cnd72 r.1 r.2.1) with
    | none => decide (r.2.2 < 61) && decide ((perL "y" (cnd72 r.1 r.2.1).atoms : Int) = r.2.2)
    | some (.lim n) => decide (n = 60) && decide (61 ≤ r.2.2)
    | some (.nam _ _) => false) = true := by decide +kernel
theorem Row72.te {H H' : Hp} {v : V} (x : TE H H') (h : Row72 H v) : Row72 H' v := by
  obtain ⟨p, r, e, hr, hp⟩ := h
  exact ⟨p, r, e, hr, x _ _ hp⟩
/-- the first comparison of the wide wish, and the later ones -/
def R72 : Cd := .res (.add (.nam "y") (.pow (.nam "y"))) 12 1
def A72 (d k : Int) : Cd := .less (.tim (90 + d) (.tim 9 (.pow (.nam "y")))) (.add (.tim k (.nam "y")) (.nam "x"))
def W72 (cd : Cd) (i : Nat) : Prop := ∃ ls, cd.atoms = R72 :: ls ∧ ls.length = i ∧ ∀ a ∈ ls, ∃ d k : Int, a = A72 d k ∧ 0 ≤ d ∧ d < 10 ∧ 0 ≤ k ∧ k < 5
structure F72 (cd : Cd) : Prop where
  len : cd.atoms.length = 6
  ok : ∀ a ∈ cd.atoms, a.ok
  cn : cd.cnms.length ≤ 100
  cc : cd.ccns = []
  err : wErr [.str "x"] (.str "y") cd = none
  per : perL "y" cd.atoms = 12
  bt : ∀ a ∈ cd.atoms, bt (a.dif.mul "y").1 ≤ 10 ∧ bt (a.dif.mul "y").2 ≤ 3
  plan : (planT "y" 12 cd.atoms).length < 4001
theorem x_y : (Str.ofString "x" = Str.ofString "y") = False := by
  simp only [eq_iff_iff, iff_false]
  decide
theorem A72_mul {d k : Int} : (A72 d k).dif.mul "y" = (-((90 + d) * 9), k) := by
  simp [A72, Cd.dif, Tm.mul, x_y]
theorem A72_ok {d k : Int} (h0 : 0 ≤ d) (h1 : d < 10) (h2 : 0 ≤ k) (h3 : k < 5) : (A72 d k).ok := by
  have hy : isNameZ (Str.ofString "y") = true := by decide +kernel
  have hx : isNameZ (Str.ofString "x") = true := by decide +kernel
  refine ⟨?_, ?_⟩
  · simp only [Tm.okT, Tm.ok]
    exact ⟨by omega, by decide +kernel, hy⟩
  · simp only [Tm.okT, Tm.ok]
    exact ⟨⟨by omega, hy⟩, hx⟩
theorem R72_ok : R72.ok := by
  have hy : isNameZ (Str.ofString "y") = true := by decide +kernel
  exact ⟨by simp only [Tm.okT, Tm.ok]; exact ⟨hy, hy⟩, by decide, by decide, by decide, by decide⟩
theorem A72_big {d k : Int} (h0 : 0 ≤ d) (h1 : d < 10) (h2 : 0 ≤ k) (h3 : k < 5) : Cd.big "y" (A72 d k) = false := by
  unfold Cd.big
  rw [A72_mul]
  dsimp only
  rw [decide_eq_false (by split <;> omega), decide_eq_false (by split <;> omega)]
  rfl
theorem cnmss_app72 : ∀ {as bs : List Cd}, cnmss (as ++ bs) = cnmss as ++ cnmss bs
  | [], _ => rfl
  | a :: r, bs => by
    show a.anms ++ cnmss (r ++ bs) = _
    rw [cnmss_app72, ← List.append_assoc]
    rfl
theorem W72.facts {cd : Cd} (h : W72 cd 5) : F72 cd := by
  obtain ⟨ls, hls, hll, hla⟩ := h
  have hin : ∀ a ∈ cd.atoms, a = R72 ∨ ∃ d k : Int, a = A72 d k ∧ 0 ≤ d ∧ d < 10 ∧ 0 ≤ k ∧ k < 5 := fun a ha => by
    rw [hls] at ha
    exact (List.mem_cons.mp ha).imp id (hla a)
  have hlen : cd.atoms.length = 6 := by rw [hls, List.length_cons, hll]
  have hn : ∀ as : List Cd, (∀ a ∈ as, a = R72 ∨ ∃ d k : Int, a = A72 d k ∧ 0 ≤ d ∧ d < 10 ∧ 0 ≤ k ∧ k < 5) → (∀ z ∈ cnmss as, z = Str.ofString "y" ∨ z = Str.ofString "x") ∧ (cnmss as).length ≤ 3 * as.length ∧ ccnss as = [] ∧ badA "y" as = none := fun as => by
    induction as with
    | nil => exact fun _ => ⟨(fun _ h => (nomatch h)), Nat.le_refl _, rfl, rfl⟩
    | cons a r ih =>
      intro h
      obtain ⟨i1, i2, i3, i4⟩ := ih fun b hb => h b (List.mem_cons_of_mem _ hb)
      rcases h a List.mem_cons_self with rfl | ⟨d, k, rfl, _⟩
      · have e : cnmss (R72 :: r) = Str.ofString "y" :: Str.ofString "y" :: cnmss r := rfl
        rw [e]
        refine ⟨fun z hz => ?_, by simp only [List.length_cons]; omega, i3, ?_⟩
        · simp only [List.mem_cons] at hz
          rcases hz with rfl | rfl | hz
          · exact .inl rfl
          · exact .inl rfl
          · exact i1 z hz
        · rw [badA, i4]
          rfl
      · have e : cnmss (A72 d k :: r) = Str.ofString "y" :: Str.ofString "y" :: Str.ofString "x" :: cnmss r := rfl
        rw [e]
        refine ⟨fun z hz => ?_, by simp only [List.length_cons]; omega, i3, ?_⟩
        · simp only [List.mem_cons] at hz
          rcases hz with rfl | rfl | rfl | hz
          · exact .inl rfl
          · exact .inl rfl
          · exact .inr rfl
          · exact i1 z hz
        · rw [badA, i4]
          rfl
  obtain ⟨n1, n2, n3, n4⟩ := hn _ hin
  have hper : perL "y" cd.atoms = 12 := by
    have go : ∀ (ls : List Cd) (f : Nat), (∀ a ∈ ls, ∃ d k : Int, a = A72 d k ∧ 0 ≤ d ∧ d < 10 ∧ 0 ≤ k ∧ k < 5) → ls.foldl (Cd.perS "y") f = f := fun ls => by
      induction ls with
      | nil => exact fun _ _ => rfl
      | cons a r ih =>
        intro f h
        obtain ⟨d, k, rfl, _⟩ := h a List.mem_cons_self
        exact ih f fun b hb => h b (List.mem_cons_of_mem _ hb)
    unfold perL
    rw [hls, List.foldl_cons, show Cd.perS "y" 1 R72 = 12 by decide +kernel]
    exact go ls 12 hla
  have hbt : ∀ a ∈ cd.atoms, PW.bt (a.dif.mul "y").1 ≤ 10 ∧ PW.bt (a.dif.mul "y").2 ≤ 3 := fun a ha => by
    rcases hin a ha with rfl | ⟨d, k, rfl, h0, h1, h2, h3⟩
    · decide +kernel
    · rw [A72_mul]
      exact ⟨bt_le.mpr (by omega), bt_le.mpr (by omega)⟩
  refine ⟨hlen, fun a ha => ?_, ?_, n3, ?_, hper, hbt, ?_⟩
  · rcases hin a ha with rfl | ⟨d, k, rfl, h0, h1, h2, h3⟩
    · exact R72_ok
    · exact A72_ok h0 h1 h2 h3
  · show (cnmss cd.atoms).length ≤ 100
    omega
  · unfold wErr
    rw [show nnErr [] ([V.str (Str.ofString "x")] ++ [V.str (Str.ofString "y")]) = none by rfl]
    simp only
    unfold wErr2
    rw [if_neg (by decide), show cd.cnms.find? (fun z => !inV (.str z) ([V.str (Str.ofString "x")] ++ [V.str (Str.ofString "y")])) = none from List.find?_eq_none.mpr fun z hz => by
      rcases n1 z hz with rfl | rfl
      · decide
      · decide]
    simp only
    rw [n4]
    simp only
    rw [if_neg (by omega), show cd.atoms.any (Cd.big "y") = false from List.any_eq_false.mpr fun a ha => by
      rcases hin a ha with rfl | ⟨d, k, rfl, h0, h1, h2, h3⟩
      · decide +kernel
      · rw [A72_big h0 h1 h2 h3]
        decide, hper]
    rfl
  · unfold planT
    have hs : smallN "y" cd.atoms ≤ 14 := by
      have go : ∀ (as : List Cd) (s : Nat), s ≤ 14 → (∀ a ∈ as, PW.bt (a.dif.mul "y").2 ≤ 3) → as.foldl (fun s a => max s (stillN (a.dif.mul "y").1 (a.dif.mul "y").2)) s ≤ 14 := fun as => by
        induction as with
        | nil => exact fun s h _ => h
        | cons a r ih =>
          intro s h k
          refine ih _ ?_ fun b hb => k b (List.mem_cons_of_mem _ hb)
          have := k a List.mem_cons_self
          show max s (stillN (a.dif.mul "y").1 (a.dif.mul "y").2) ≤ 14
          unfold stillN
          split <;> omega
      exact go _ 8 (by decide) fun a ha => (hbt a ha).2
    have hf := flat_len (f := planF "y" 12) (n := 58) (l := cd.atoms) fun a ha => by
      have h1 := flat_len (f := planB (a.dif.mul "y").1 12) (n := 29) (l := basesT (a.dif.mul "y").1 (a.dif.mul "y").2 (a.dif.wo ["y"])) fun b _ => by
        rw [planB_len]
        unfold reachN
        have := (hbt a ha).1
        split <;> omega
      have h2 := basesT_len (p := (a.dif.mul "y").1) (q := (a.dif.mul "y").2) (t := a.dif.wo ["y"])
      unfold planF
      have h3 := Nat.mul_le_mul_right 29 h2
      omega
    rw [hlen] at hf
    simp only [List.length_append, List.length_map, List.length_range]
    omega
theorem difOk_72 {a : Cd} (h : a.ok) (ha : a.isAtom = true) : DifOk a := by
  refine ⟨10 ^ 9, 100, 100, ?_, by decide⟩
  cases a with
  | less s t => exact (show Tm.ok _ _ _ (.sub t s) by simp only [Tm.ok]; exact ⟨h.2, h.1⟩)
  | equ s t => exact (show Tm.ok _ _ _ (.sub t s) by simp only [Tm.ok]; exact ⟨h.2, h.1⟩)
  | res t m r => exact h.1
  | _ => cases ha
theorem prop_at72 {C : Addr} {sp : Sp} {dvs : List V} {E : XK} {ta : L2.TE} {σ : L2.St} {H : Hp} {Q : VK} (h : ta σ H fun x H1 => ∃ a dx fs, x = .ref a ∧ H1 a = some (.ins C dx fs) ∧ sp (.ref a :: dvs) H1 Q E) : tProp C sp dvs E ta σ H Q := h
section
variable {P : Program} {w : World} {K : PySem.W.Frag} {mg : Str → Option Value} {base : Heap}
theorem ok_law72 {k k0 kx : Nat} {Pt : Addr} (hkx : kx + 3 ≤ k) (T : Txt K mg) (TB : LamX.TabB base mg (He.codeOf K ("law", none)) Pt)
    (G__law_bag : FnOk P w K mg base CX0 k (He.ga K "_law_bag") (fdOf K (He.ga K "_law_bag")) p__law_bag (spBag K))
    (G__law_pull : FnOk P w K mg base CX0 k (He.ga K "_law_pull") (fdOf K (He.ga K "_law_pull")) p__law_pull (spPull))
    (G__law_of : FnOk P w K mg base CX0 k (He.ga K "_law_of") (fdOf K (He.ga K "_law_of")) p__law_of (spOf K))
    (G__law_same : FnOk P w K mg base CX0 k (He.ga K "_law_same") (fdOf K (He.ga K "_law_same")) p__law_same (spSame K 3))
    (G_Plan_terms : FnOk P w K mg base CX0 k (He.ma K (He.ga K "Plan") "terms") (fdOf K (He.fAd K ("Plan", some "terms"))) p_Plan_terms (spPTerms K))
    (G_Plan_wish : FnOk P w K mg base CX0 (k0) (prA "Plan" "wish" K) (fdOf K (prA "Plan" "wish" K)) p_Plan_wish (spPWish K))
    (G_Plan___len__ : FnOk P w K mg base CX0 (k0) (He.ma K (He.ga K "Plan") "__len__") (fdOf K (He.fAd K ("Plan", some "__len__"))) p_Plan___len__ (spPLen K))
    (G_Plan___init__ : FnOk P w K mg base CX0 (k0) (He.ma K (He.ga K "Plan") "__init__") (fdOf K (He.fAd K ("Plan", some "__init__"))) p_Plan___init__ (spPInit K))
    (G_Wish_period : FnOk P w K mg base CX0 (k0) (prA "Wish" "period" K) (fdOf K (prA "Wish" "period" K)) p_Wish_period (spWPerF K))
    (GX_Wish___init__ : FnOk P w K mg base (L2.CX P w) (k0) (He.ma K (He.ga K "Wish") "__init__") (fdOf K (He.fAd K ("Wish", some "__init__"))) p_Wish___init__ (spWInit K PerOk)) (hk0 : k0 + 1 = kx) : FnOk P w K mg base CX0 (k + 1) (He.ga K "law") (fdOf K (He.ga K "law")) p_law (spLawS K Pt) := by
  subst hk0
  have hk1 : k0 + 1 ≤ k := by omega
  have G_Wish___init__ := FnOk.calm GX_Wish___init__
  refine FunD.okC (p := ("law", none)) T.d_law sc_law (fun vs H Q E h => ?_) (fun A outer s H vs Q E hr h => ?_)
  · obtain ⟨a, ns, rfl, _⟩ := h
    rfl
  · obtain ⟨sa, ns, rfl, ha, hl, hP, hQ⟩ := h
    have kC := T.k_Wish
    have kP := T.k_Plan
    refine ⟨_, PSs.nox ((pss_cons (ps_set (i := 1) sc_law.nd rfl (Or.inl rfl) (pe_call G__law_bag hr rfl T.g__law_bag T.d__law_bag.kp (b__law_bag T) .nil pass0 (pa_cons (pv 0) pa_nil)))
    (pss_cons (ps_par (i := 2) (j := 3) (by rfl) sc_law.nd rfl rfl (by decide) rfl rfl (pa_cons (pe_tup (pa_cons pe_str (pa_cons pe_str pa_nil))) (pa_cons (pe_lst (pa_cons (pe_tup (pa_cons pe_int (pa_cons pe_int (pa_cons pe_int pa_nil)))) (pa_cons (pe_tup (pa_cons pe_int (pa_cons pe_int (pa_cons pe_int pa_nil)))) (pa_cons (pe_tup (pa_cons pe_int (pa_cons pe_int (pa_cons pe_int pa_nil)))) (pa_cons (pe_tup (pa_cons pe_int (pa_cons pe_int (pa_cons pe_int pa_nil)))) (pa_cons (pe_tup (pa_cons pe_int (pa_cons pe_int (pa_cons pe_int pa_nil)))) (pa_cons (pe_tup (pa_cons pe_int (pa_cons pe_int (pa_cons pe_int pa_nil)))) (pa_cons (pe_tup (pa_cons pe_int (pa_cons pe_int (pa_cons pe_int pa_nil)))) (pa_cons (pe_tup (pa_cons pe_int (pa_cons pe_int (pa_cons pe_int pa_nil)))) pa_nil))))))))) pa_nil)) (by rfl))
    (pss_cons (ps_set (i := 3) sc_law.nd rfl (Or.inl rfl) (pe_op op_cat (pv 3) (pe_lst (pa_cons (pe_tup (pa_cons pe_int (pa_cons pe_int (pa_cons pe_int pa_nil)))) (pa_cons (pe_tup (pa_cons pe_int (pa_cons pe_int (pa_cons pe_int pa_nil)))) (pa_cons (pe_tup (pa_cons pe_int (pa_cons pe_int (pa_cons pe_int pa_nil)))) (pa_cons (pe_tup (pa_cons pe_int (pa_cons pe_int (pa_cons pe_int pa_nil)))) (pa_cons (pe_tup (pa_cons pe_int (pa_cons pe_int (pa_cons pe_int pa_nil)))) (pa_cons (pe_tup (pa_cons pe_int (pa_cons pe_int (pa_cons pe_int pa_nil)))) pa_nil)))))))))
    (pss_cons (ps_for PassesOwn.never rfl (pi_range1 rfl T.f_range (pa_cons pe_int pa_nil)) (pg_name (i := 4) sc_law.nd rfl (Or.inl rfl) (hf := by first | exact Or.inl rfl | exact Or.inr rfl))
      (pss_cons (ps_asg (pe_call G__law_of hr rfl T.g__law_of T.d__law_of.kp (b__law_of T) .nil pass0 (pa_cons (pv 1) (pa_cons (pv 3) pa_nil))) (pg_tup rfl (pgs_cons (pg_name (i := 5) sc_law.nd rfl (Or.inl rfl) (hf := by first | exact Or.inl rfl | exact Or.inr rfl)) (pgs_cons (pg_name (i := 6) sc_law.nd rfl (Or.inl rfl) (hf := by first | exact Or.inl rfl | exact Or.inr rfl)) (pgs_cons (pg_name (i := 7) sc_law.nd rfl (Or.inl rfl) (hf := by first | exact Or.inl rfl | exact Or.inr rfl)) pgs_nil)))))
        (pss_cons (ps_set (i := 8) sc_law.nd rfl (Or.inr rfl) (pe_tup (pa_cons pe_str (pa_cons (pe_tup (pa_cons pe_str (pa_cons (pv 2) (pa_cons (pv 5) (pa_cons pe_int pa_nil))))) (pa_cons (pe_tup (pa_cons pe_str (pa_cons (pe_tup (pa_cons pe_str (pa_cons (pv 2) (pa_cons (pv 6) (pa_cons pe_int pa_nil))))) pa_nil))) pa_nil)))))
        (pss_cons (ps_set (i := 9) sc_law.nd rfl (Or.inl rfl) (pe_ifExp (pt_cmpR op_lt (pv 7) pe_int (nomark _)) (pe_tup (pa_cons pe_str (pa_cons (pv 7) pa_nil))) (pe_tup (pa_cons pe_str (pa_cons pe_int pa_nil)))))
        (pss_one (ps_if (pt_not (pt_val (pe_call G__law_same hr rfl T.g__law_same T.d__law_same.kp (b__law_same T) .nil pass0 (pa_cons (PW.pe_why T TB rfl rfl (hr.mono hkx) (LamX.lamS_by (by rfl)) rfl (by intros; rfl) (fun A outer s H E f c' hr => by exact (pe_prop (pe_make T.mk_Wish GX_Wish___init__ hr rfl T.g_Wish (b_Wish___init__ T) .nil (passes_call (takes_of rfl rfl rfl rfl) (fun _ _ _ _ h => h)) (pa_cons (pe_lst pa_nil) (pa_cons pe_str (pa_cons (pv 8) pa_nil)))) T.k_Wish T.pr_Wish_period G_Wish_period hr (b_Wish_period T) .nil pass0 rfl))) (pa_cons (pv 9) pa_nil)))))
          (pss_one (ps_ret pe_bl))
          pss_nil))))))
    (pss_cons (ps_set (i := 10) sc_law.nd rfl (Or.inl rfl) (pe_tup (pa_cons pe_str (pa_cons (pe_tup (pa_cons pe_str (pa_cons (pv 2) (pa_cons (pe_tup (pa_cons pe_str (pa_cons (pv 2) pa_nil))) pa_nil)))) (pa_cons pe_int (pa_cons pe_int pa_nil))))))
    (pss_cons (ps_for PassesOwn.never rfl (pi_range1 rfl T.f_range (pa_cons pe_int pa_nil)) (pg_name (i := 11) sc_law.nd rfl (Or.inl rfl) (hf := by first | exact Or.inl rfl | exact Or.inr rfl))
      (pss_cons (ps_set (i := 12) sc_law.nd rfl (Or.inl rfl) (pe_tup (pa_cons pe_str (pa_cons (pe_op op_add pe_int (pe_call G__law_pull hr rfl T.g__law_pull T.d__law_pull.kp (b__law_pull T) .nil pass0 (pa_cons (pv 1) (pa_cons pe_int pa_nil)))) (pa_cons (pe_tup (pa_cons pe_str (pa_cons pe_int (pa_cons (pe_tup (pa_cons pe_str (pa_cons (pv 2) pa_nil))) pa_nil)))) pa_nil)))))
        (pss_one (ps_set (i := 10) sc_law.nd rfl (Or.inl rfl) (pe_tup (pa_cons pe_str (pa_cons (pv 10) (pa_cons (pe_tup (pa_cons pe_str (pa_cons (pv 12) (pa_cons (pe_tup (pa_cons pe_str (pa_cons (pe_tup (pa_cons pe_str (pa_cons (pv 11) (pa_cons (pv 2) pa_nil)))) (pa_cons (pe_tup (pa_cons pe_str (pa_cons pe_str pa_nil))) pa_nil)))) pa_nil)))) pa_nil))))))))
    (pss_cons (ps_set (i := 13) sc_law.nd rfl (Or.inl rfl) (pe_make T.mk_Plan G_Plan___init__ (hr.mono hk1) rfl T.g_Plan (b_Plan___init__ T) .nil pass0 (pa_cons (pe_make T.mk_Wish G_Wish___init__ (hr.mono hk1) rfl T.g_Wish (b_Wish___init__ T) .nil pass0 (pa_cons (pe_lst (pa_cons pe_str pa_nil)) (pa_cons pe_str (pa_cons (pv 10) pa_nil)))) pa_nil)))
    (pss_one (ps_ret (pe_call G__law_same hr rfl T.g__law_same T.d__law_same.kp (b__law_same T) .nil pass0 (pa_cons (pe_lst (pa_cons (pe_cmpR op_lt (pe_callB (PW.call_lenOwn T.m_Plan___len__.at_ T.m_Plan___len__.fn G_Plan___len__ (hr.mono hk1) (b_Plan___len__ T) pass0) (by rfl) T.f_len (by decide +kernel) (pa_cons (pv 13) pa_nil)) pe_int (nomark _)) (pa_cons (pe_cmpR op_eq (pe_callB call_lenN (by rfl) T.f_len (by decide +kernel) (pa_cons (pe_meth0 (pv 13) T.k_Plan T.m_Plan_terms G_Plan_terms hr (b_Plan_terms T) .nil pass0) pa_nil)) (pe_callB (PW.call_lenOwn T.m_Plan___len__.at_ T.m_Plan___len__.fn G_Plan___len__ (hr.mono hk1) (b_Plan___len__ T) pass0) (by rfl) T.f_len (by decide +kernel) (pa_cons (pv 13) pa_nil)) (nomark _)) (pa_cons (pe_prop (pe_prop (pv 13) T.k_Plan T.pr_Plan_wish G_Plan_wish (hr.mono hk1) (b_Plan_wish T) .nil pass0 rfl) T.k_Wish T.pr_Wish_period G_Wish_period (hr.mono hk1) (b_Wish_period T) .nil pass0 rfl) pa_nil)))) (pa_cons (pe_lst (pa_cons pe_bl (pa_cons pe_bl (pa_cons pe_int pa_nil)))) pa_nil))))))))))))), ?_⟩
    show tSeq _ _ _ [some (V.ref sa), none, none, none, none, none, none, none, none, none, none, none, none, none] H
    walk_at "K"
    walk_at "go"
    refine ⟨sa, ns, rfl, ha, hl, fun b c H1 hb hc hB x1 => ?_⟩
    have hT0 := BT.first hP x1 hB
    clear hP x1 hb hc ha
    have s : S72 Pt b c H1 [] := ⟨hT0, fun _ h => nomatch h⟩
    clear hT0
    walk_at "go"
    intro y hy
    replace s := s.put (xs := [V.str "name", V.str "y"]) hy
    generalize L2.upd _ y (.tup [V.str "name", V.str "y"]) = Hy at s ⊢
    clear hy
    walk_at "go"
    intro p0 hp0
    replace s := s.put (xs := [V.int 12, V.int 5, V.int 60]) hp0
    generalize L2.upd _ p0 (.tup [V.int 12, V.int 5, V.int 60]) = Hp0 at s ⊢
    clear hp0
    walk_at "go"
    intro p1 hp1
    replace s := s.put (xs := [V.int 10, V.int 12, V.int 60]) hp1
    generalize L2.upd _ p1 (.tup [V.int 10, V.int 12, V.int 60]) = Hp1 at s ⊢
    clear hp1
    walk_at "go"
    intro p2 hp2
    replace s := s.put (xs := [V.int 9, V.int 7, V.int 63]) hp2
    generalize L2.upd _ p2 (.tup [V.int 9, V.int 7, V.int 63]) = Hp2 at s ⊢
    clear hp2
    walk_at "go"
    intro p3 hp3
    replace s := s.put (xs := [V.int 11, V.int 6, V.int 66]) hp3
    generalize L2.upd _ p3 (.tup [V.int 11, V.int 6, V.int 66]) = Hp3 at s ⊢
    clear hp3
    walk_at "go"
    intro p4 hp4
    replace s := s.put (xs := [V.int 8, V.int 9, V.int 72]) hp4
    generalize L2.upd _ p4 (.tup [V.int 8, V.int 9, V.int 72]) = Hp4 at s ⊢
    clear hp4
    walk_at "go"
    intro p5 hp5
    replace s := s.put (xs := [V.int 5, V.int 11, V.int 55]) hp5
    generalize L2.upd _ p5 (.tup [V.int 5, V.int 11, V.int 55]) = Hp5 at s ⊢
    clear hp5
    walk_at "go"
    intro p6 hp6
    replace s := s.put (xs := [V.int 11, V.int 5, V.int 55]) hp6
    generalize L2.upd _ p6 (.tup [V.int 11, V.int 5, V.int 55]) = Hp6 at s ⊢
    clear hp6
    walk_at "go"
    intro p7 hp7
    replace s := s.put (xs := [V.int 4, V.int 8, V.int 8]) hp7
    generalize L2.upd _ p7 (.tup [V.int 4, V.int 8, V.int 8]) = Hp7 at s ⊢
    clear hp7
    walk_at "go"
    intro L1 hL1
    replace s := s.putL (xs := [V.ref p0, V.ref p1, V.ref p2, V.ref p3, V.ref p4, V.ref p5, V.ref p6, V.ref p7]) hL1
    generalize L2.upd _ L1 (.lst [V.ref p0, V.ref p1, V.ref p2, V.ref p3, V.ref p4, V.ref p5, V.ref p6, V.ref p7]) = HL1 at s ⊢
    clear hL1
    walk_at "go"
    intro q0 hq0
    replace s := s.put (xs := [V.int 7, V.int 8, V.int 56]) hq0
    generalize L2.upd _ q0 (.tup [V.int 7, V.int 8, V.int 56]) = Hq0 at s ⊢
    clear hq0
    walk_at "go"
    intro q1 hq1
    replace s := s.put (xs := [V.int 12, V.int 12, V.int 12]) hq1
    generalize L2.upd _ q1 (.tup [V.int 12, V.int 12, V.int 12]) = Hq1 at s ⊢
    clear hq1
    walk_at "go"
    intro q2 hq2
    replace s := s.put (xs := [V.int 9, V.int 8, V.int 72]) hq2
    generalize L2.upd _ q2 (.tup [V.int 9, V.int 8, V.int 72]) = Hq2 at s ⊢
    clear hq2
    walk_at "go"
    intro q3 hq3
    replace s := s.put (xs := [V.int 7, V.int 11, V.int 77]) hq3
    generalize L2.upd _ q3 (.tup [V.int 7, V.int 11, V.int 77]) = Hq3 at s ⊢
    clear hq3
    walk_at "go"
    intro q4 hq4
    replace s := s.put (xs := [V.int 12, V.int 11, V.int 132]) hq4
    generalize L2.upd _ q4 (.tup [V.int 12, V.int 11, V.int 132]) = Hq4 at s ⊢
    clear hq4
    walk_at "go"
    intro q5 hq5
    replace s := s.put (xs := [V.int 2, V.int 3, V.int 6]) hq5
    generalize L2.upd _ q5 (.tup [V.int 2, V.int 3, V.int 6]) = Hq5 at s ⊢
    clear hq5
    walk_at "go"
    intro M2 hM2
    replace s := s.putL (xs := [V.ref q0, V.ref q1, V.ref q2, V.ref q3, V.ref q4, V.ref q5]) hM2
    generalize L2.upd _ M2 (.lst [V.ref q0, V.ref q1, V.ref q2, V.ref q3, V.ref q4, V.ref q5]) = HL2 at s ⊢
    clear hM2
    refine r_cat (s.at (p := L1) (by walk_at "mem")) (s.at (p := M2) (by walk_at "mem")) (by
      simp only [List.length_cons, List.length_nil]
      exact (by decide : 8 + 6 ≤ sizeLine)) fun L hL => ?_
    have hrows : ∀ v ∈ [V.ref p0, V.ref p1, V.ref p2, V.ref p3, V.ref p4, V.ref p5, V.ref p6, V.ref p7] ++ [V.ref q0, V.ref q1, V.ref q2, V.ref q3, V.ref q4, V.ref q5], Row72 HL2 v := by
      intro v hv
      simp only [List.cons_append, List.nil_append, List.mem_cons, List.not_mem_nil, or_false] at hv
      rcases hv with rfl | rfl | rfl | rfl | rfl | rfl | rfl | rfl | rfl | rfl | rfl | rfl | rfl | rfl
      · exact ⟨p0, (12, 5, 60), rfl, by walk_at "mem", s.at (p := p0) (by walk_at "mem")⟩
      · exact ⟨p1, (10, 12, 60), rfl, by walk_at "mem", s.at (p := p1) (by walk_at "mem")⟩
      · exact ⟨p2, (9, 7, 63), rfl, by walk_at "mem", s.at (p := p2) (by walk_at "mem")⟩
      · exact ⟨p3, (11, 6, 66), rfl, by walk_at "mem", s.at (p := p3) (by walk_at "mem")⟩
      · exact ⟨p4, (8, 9, 72), rfl, by walk_at "mem", s.at (p := p4) (by walk_at "mem")⟩
      · exact ⟨p5, (5, 11, 55), rfl, by walk_at "mem", s.at (p := p5) (by walk_at "mem")⟩
      · exact ⟨p6, (11, 5, 55), rfl, by walk_at "mem", s.at (p := p6) (by walk_at "mem")⟩
      · exact ⟨p7, (4, 8, 8), rfl, by walk_at "mem", s.at (p := p7) (by walk_at "mem")⟩
      · exact ⟨q0, (7, 8, 56), rfl, by walk_at "mem", s.at (p := q0) (by walk_at "mem")⟩
      · exact ⟨q1, (12, 12, 12), rfl, by walk_at "mem", s.at (p := q1) (by walk_at "mem")⟩
      · exact ⟨q2, (9, 8, 72), rfl, by walk_at "mem", s.at (p := q2) (by walk_at "mem")⟩
      · exact ⟨q3, (7, 11, 77), rfl, by walk_at "mem", s.at (p := q3) (by walk_at "mem")⟩
      · exact ⟨q4, (12, 11, 132), rfl, by walk_at "mem", s.at (p := q4) (by walk_at "mem")⟩
      · exact ⟨q5, (2, 3, 6), rfl, by walk_at "mem", s.at (p := q5) (by walk_at "mem")⟩
    have hlen : ([V.ref p0, V.ref p1, V.ref p2, V.ref p3, V.ref p4, V.ref p5, V.ref p6, V.ref p7] ++ [V.ref q0, V.ref q1, V.ref q2, V.ref q3, V.ref q4, V.ref q5]).length = 14 := rfl
    have hRow : ∀ v ∈ [V.ref p0, V.ref p1, V.ref p2, V.ref p3, V.ref p4, V.ref p5, V.ref p6, V.ref p7] ++ [V.ref q0, V.ref q1, V.ref q2, V.ref q3, V.ref q4, V.ref q5], Row72 (L2.upd HL2 L (.lst ([V.ref p0, V.ref p1, V.ref p2, V.ref p3, V.ref p4, V.ref p5, V.ref p6, V.ref p7] ++ [V.ref q0, V.ref q1, V.ref q2, V.ref q3, V.ref q4, V.ref q5]))) v := fun v hv => by
      obtain ⟨p, r, e, hr, h⟩ := hrows v hv
      exact ⟨p, r, e, hr, Ex.new hL _ _ h⟩
    replace s := (s.sub (kl' := [(y, .tup [V.str "name", V.str "y"])]) (fun q hq => by
      rw [List.mem_singleton.mp hq]
      walk_at "mem")).putL (xs := [V.ref p0, V.ref p1, V.ref p2, V.ref p3, V.ref p4, V.ref p5, V.ref p6, V.ref p7] ++ [V.ref q0, V.ref q1, V.ref q2, V.ref q3, V.ref q4, V.ref q5]) hL
    generalize L2.upd HL2 L (.lst ([V.ref p0, V.ref p1, V.ref p2, V.ref p3, V.ref p4, V.ref p5, V.ref p6, V.ref p7] ++ [V.ref q0, V.ref q1, V.ref q2, V.ref q3, V.ref q4, V.ref q5])) = HL at s hRow ⊢
    generalize [V.ref p0, V.ref p1, V.ref p2, V.ref p3, V.ref p4, V.ref p5, V.ref p6, V.ref p7] ++ [V.ref q0, V.ref q1, V.ref q2, V.ref q3, V.ref q4, V.ref q5] = Ls at s hRow hlen ⊢
    clear hrows hL
    have hyN : isNameZ (Str.ofString "y") = true := by decide +kernel
    have hyO : PyData.strOk (Str.ofString "y") = true := by decide +kernel
    walk_at "go"
    refine for_it walk_range (fun i σ H => (∃ y4 y5 y6 y7 y8 y9, σ = [some (.ref sa), some (.ref b), some (.ref y), some (.ref L), y4, y5, y6, y7, y8, y9, none, none, none, none]) ∧ S72 Pt b c H [(L, .lst Ls), (y, .tup [V.str "name", V.str "y"])] ∧ ∀ v ∈ Ls, Row72 H v) ⟨⟨_, _, _, _, _, _, rfl⟩, s, hRow⟩ (fun _ _ _ _ _ => trivial) ?_ ?_
    · clear s hRow
      rintro i x σ H1 H1' hi ⟨⟨y4, y5, y6, y7, y8, y9, rfl⟩, s, hRow⟩ ⟨rfl, rfl⟩
      walk_at "go"
      refine ⟨b, c, .ref L, Ls, rfl, s.bt.bag, Or.inl ⟨L, rfl, (s.tu (L, .lst Ls) (by walk_at "mem")).1, Or.inl (s.at (by walk_at "mem"))⟩, by rw [hlen]; decide, by rw [hlen]; decide, fun v H2 hv hB2 x2 => ?_⟩
      have hR2 : ∀ v ∈ Ls, Row72 H2 v := fun v hv => (hRow v hv).te (TE.bag s.bt.bag x2)
      replace s := s.pull hB2 x2
      clear hRow hB2 x2
      obtain ⟨p, ⟨ra, rb, rp⟩, rfl, hr, hp⟩ := hR2 v hv
      have hall := List.all_eq_true.mp all72 _ hr
      dsimp only at hp hall
      have hcn : ∀ r ∈ rows72, (2 ≤ r.1 ∧ r.1 ≤ 12) ∧ 2 ≤ r.2.1 ∧ r.2.1 ≤ 12 := by decide +kernel
      obtain ⟨⟨ra2, ra12⟩, rb2, rb12⟩ := hcn _ hr
      dsimp only at ra2 ra12 rb2 rb12
      walk_at "go"
      intro t1 ht1
      replace s := s.put (xs := [V.str "rest", V.ref y, V.int ra, V.int 1]) ht1
      have te4 := TE.of (Ex.new (o := .tup [V.str "rest", V.ref y, V.int ra, V.int 1]) ht1)
      generalize L2.upd _ t1 (.tup [V.str "rest", V.ref y, V.int ra, V.int 1]) = Ht1 at s te4 ⊢
      clear ht1
      walk_at "go"
      intro t2 ht2
      replace s := s.put (xs := [V.str "rest", V.ref y, V.int rb, V.int 0]) ht2
      replace te4 := te4.trans (TE.of (Ex.new (o := .tup [V.str "rest", V.ref y, V.int rb, V.int 0]) ht2))
      generalize L2.upd _ t2 (.tup [V.str "rest", V.ref y, V.int rb, V.int 0]) = Ht2 at s te4 ⊢
      clear ht2
      walk_at "go"
      intro t3 ht3
      replace s := s.put (xs := [V.str "not", V.ref t2]) ht3
      replace te4 := te4.trans (TE.of (Ex.new (o := .tup [V.str "not", V.ref t2]) ht3))
      generalize L2.upd _ t3 (.tup [V.str "not", V.ref t2]) = Ht3 at s te4 ⊢
      clear ht3
      walk_at "go"
      intro t4 ht4
      replace s := s.put (xs := [V.str "and", V.ref t1, V.ref t3]) ht4
      replace te4 := te4.trans (TE.of (Ex.new (o := .tup [V.str "and", V.ref t1, V.ref t3]) ht4))
      generalize L2.upd _ t4 (.tup [V.str "and", V.ref t1, V.ref t3]) = Ht4 at s te4 ⊢
      clear ht4
      have hy0 : IsTm K Ht4 1 (.ref y) (.nam "y") := IsTm.mk (s.at (by walk_at "mem")) rfl
      have h1 : IsCd K Ht4 8 1 (.ref t1) (.res (.nam "y") ra 1) := IsCd.mk (s.at (by walk_at "mem")) ⟨_, rfl, hy0.up (by decide)⟩
      have h2 : IsCd K Ht4 8 1 (.ref t2) (.res (.nam "y") rb 0) := IsCd.mk (s.at (by walk_at "mem")) ⟨_, rfl, hy0.up (by decide)⟩
      have h3 : IsCd K Ht4 8 2 (.ref t3) (.neg (.res (.nam "y") rb 0)) := IsCd.mk (s.at (by walk_at "mem")) ⟨_, rfl, h2⟩
      have hc : IsCd K Ht4 8 3 (.ref t4) (cnd72 ra rb) := IsCd.mk (s.at (by walk_at "mem")) ⟨_, _, rfl, h1.up (Nat.le_refl _) (by decide), h3⟩
      replace s := s.sub (kl' := [(L, .lst Ls), (y, .tup [V.str "name", V.str "y"])]) (fun q hq => by
        simp only [List.mem_cons, List.not_mem_nil, or_false] at hq
        rcases hq with rfl | rfl
        · walk_at "mem"
        · walk_at "mem")
      have hR4 : ∀ v ∈ Ls, Row72 Ht4 v := fun v hv => (hR2 v hv).te te4
      clear h1 h2 h3 hy0 te4 hR2 hp hcn
      have hcok : (cnd72 ra rb).ok := ⟨⟨by simp only [Tm.okT, Tm.ok]; exact hyN, by omega, by omega, by omega, by omega⟩, ⟨by simp only [Tm.okT, Tm.ok]; exact hyN, by omega, by omega, by omega, by omega⟩⟩
      have hoks : ∀ a ∈ (cnd72 ra rb).atoms, a.ok := fun a ha => by
        simp only [cnd72, Cd.atoms, List.cons_append, List.nil_append, List.mem_cons, List.not_mem_nil, or_false] at ha
        rcases ha with rfl | rfl
        · exact hcok.1
        · exact hcok.2
      walk_at "go"
      cases hw : wErr [] (.str "y") (cnd72 ra rb) with
      | none =>
        rw [hw] at hall
        simp only [Bool.and_eq_true, decide_eq_true_eq] at hall
        obtain ⟨_, hp61, hper⟩ := hall
        refine r_ifT' (decide_eq_true hp61) ?_
        walk_at "go"
        intro dq hdq
        replace s := s.put (xs := [V.str "value", V.int rp]) hdq
        replace hc := hc.ex (Ex.new (o := .tup [V.str "value", V.int rp]) hdq)
        replace hR4 := fun v hv => (hR4 v hv).te (TE.of (Ex.new (o := .tup [V.str "value", V.int rp]) hdq))
        generalize L2.upd Ht4 dq (.tup [V.str "value", V.int rp]) = H5 at s hc hR4 ⊢
        clear hdq
        walk_at "go"
        refine ⟨s.bt.tabs, fun H6 xn hTb => ?_⟩
        replace s := s.lam xn hTb
        have te6 : TE H5 H6 := fun p ys h => xn _ _ h (fun _ q => by cases q)
        replace hc := hc.te te6
        replace hR4 := fun v hv => (hR4 v hv).te te6
        clear xn hTb te6
        refine r_why ?_
        refine prop_at72 ?_
        walk_at "go"
        intro g hg
        have y7 := Ex.new (o := .lst []) hg
        replace s := s.ex y7
        replace hc := hc.ex y7
        replace hR4 := fun v hv => (hR4 v hv).te (TE.of y7)
        have hg7 : (L2.upd H6 g (.lst [])) g = some (.lst []) := upd_same
        generalize L2.upd H6 g (.lst []) = H7 at s hc hR4 hg7 ⊢
        clear y7 hg
        walk_at "go"
        intro x3 dx hx hdx hnx
        have y13 : Ex H7 (L2.upd (L2.upd H7 dx (.own x3)) x3 (.ins (WhC K) dx [])) := (Ex.new hdx).trans (Ex.new ((upd_ne (Ne.symm hnx)).trans hx))
        refine ⟨x3, dx, g, .str "y", .ref t4, [], cnd72 ra rb, 8, 3, H7, rfl, upd_same, hx, y13, .inl hg7, by simp, fun y hy => ?_, hc, ⟨(by decide : 3 ≤ 20), by decide, (by decide : 2 ≤ 1000), by simp [cnd72, Cd.cnms, Cd.atoms, cnmss, Cd.anms, Cd.tms, Tm.nmss, Tm.nms]⟩, fun a ha => difOk_72 (hoks a ha) (atoms_atom _ a ha), fun _ => ⟨hoks, (by decide : 2 ≤ 100)⟩, fun w hw' => ?_, fun hw' us l tt ys H16 eu x16 hx16 hl0 hl hys ht0 htt => ?_⟩
        · simp only [List.nil_append, List.mem_singleton] at hy
          subst hy
          exact .inl ⟨_, rfl, by decide +kernel⟩
        · rw [hw] at hw'
          cases hw'
        · cases eu
          refine ⟨rfl, x3, dx, _, rfl, hx16, x3, [], "y", cnd72 ra rb, _, 8, 3, rfl, ⟨dx, l, tt, _, ys, hx16, htt, hc.ex x16, hl, prd_exC x16 hys⟩, by walk_at "len", fun p5 hp5 => ?_⟩
          have y17 := x16.trans (Ex.new (o := .tup [V.str "value", V.int ((perL "y" (cnd72 ra rb).atoms : Nat) : Int)]) hp5)
          walk_at "go"
          refine ⟨_, _, rfl, Sm.tups upd_same ((s.ex y17).at (p := dq) (by walk_at "mem")) (by walk_at "len") (.cons (Sm.flat rfl) (.cons (by rw [hper]; exact Sm.flat rfl) .nil)), fun H18 x18 => ?_⟩
          walk_at "go"
          exact ⟨⟨_, _, _, _, _, _, rfl⟩, ((s.ex y17).ex x18).sub (fun q hq => List.mem_cons_of_mem _ hq), fun v hv => (hR4 v hv).te (TE.of (y17.trans x18))⟩
      | some w =>
        cases w with
        | nam _ _ =>
          rw [hw] at hall
          simp at hall
        | lim n =>
          rw [hw] at hall
          simp only [Bool.and_eq_true, decide_eq_true_eq] at hall
          obtain ⟨_, rfl, hp61⟩ := hall
          refine r_ifF' (decide_eq_false (by omega)) ?_
          walk_at "go"
          intro dq hdq
          replace s := s.put (xs := [V.str "LimitReached", V.int 60]) hdq
          replace hc := hc.ex (Ex.new (o := .tup [V.str "LimitReached", V.int 60]) hdq)
          replace hR4 := fun v hv => (hR4 v hv).te (TE.of (Ex.new (o := .tup [V.str "LimitReached", V.int 60]) hdq))
          generalize L2.upd Ht4 dq (.tup [V.str "LimitReached", V.int 60]) = H5 at s hc hR4 ⊢
          clear hdq
          walk_at "go"
          refine ⟨s.bt.tabs, fun H6 xn hTb => ?_⟩
          replace s := s.lam xn hTb
          have te6 : TE H5 H6 := fun p ys h => xn _ _ h (fun _ q => by cases q)
          replace hc := hc.te te6
          replace hR4 := fun v hv => (hR4 v hv).te te6
          clear xn hTb te6
          refine r_why ?_
          refine prop_at72 ?_
          walk_at "go"
          intro g hg
          have y7 := Ex.new (o := .lst []) hg
          replace s := s.ex y7
          replace hc := hc.ex y7
          replace hR4 := fun v hv => (hR4 v hv).te (TE.of y7)
          have hg7 : (L2.upd H6 g (.lst [])) g = some (.lst []) := upd_same
          generalize L2.upd H6 g (.lst []) = H7 at s hc hR4 hg7 ⊢
          clear y7 hg
          walk_at "go"
          intro x3 dx hx hdx hnx
          have y13 : Ex H7 (L2.upd (L2.upd H7 dx (.own x3)) x3 (.ins (WhC K) dx [])) := (Ex.new hdx).trans (Ex.new ((upd_ne (Ne.symm hnx)).trans hx))
          refine ⟨x3, dx, g, .str "y", .ref t4, [], cnd72 ra rb, 8, 3, H7, rfl, upd_same, hx, y13, .inl hg7, by simp, fun y hy => ?_, hc, ⟨(by decide : 3 ≤ 20), by decide, (by decide : 2 ≤ 1000), by simp [cnd72, Cd.cnms, Cd.atoms, cnmss, Cd.anms, Cd.tms, Tm.nmss, Tm.nms]⟩, fun a ha => difOk_72 (hoks a ha) (atoms_atom _ a ha), fun _ => ⟨hoks, (by decide : 2 ≤ 100)⟩, fun w hw' => ?_, fun hw' us l tt ys H16 eu x16 hx16 hl0 hl hys ht0 htt => ?_⟩
          · simp only [List.nil_append, List.mem_singleton] at hy
            subst hy
            exact .inl ⟨_, rfl, by decide +kernel⟩
          · rw [hw] at hw'
            cases hw'
            refine we_lim60 fun p5 H16 x16 hp5 => ?_
            walk_at "go"
            refine ⟨_, _, rfl, Sm.tups hp5 ((s.ex x16).at (p := dq) (by walk_at "mem")) (by walk_at "len") (.cons (Sm.flat rfl) (.cons (Sm.flat rfl) .nil)), fun H18 x18 => ?_⟩
            walk_at "go"
            exact ⟨⟨_, _, _, _, _, _, rfl⟩, ((s.ex x16).ex x18).sub (fun q hq => List.mem_cons_of_mem _ hq), fun v hv => (hR4 v hv).te (TE.of (x16.trans x18))⟩
          · rw [hw] at hw'
            cases hw'
    · clear s hRow
      rintro σ H1 ⟨⟨y4, y5, y6, y7, y8, y9, rfl⟩, s, hRow⟩
      clear hRow hlen
      replace s := s.sub (kl' := [(y, .tup [V.str "name", V.str "y"])]) (fun q hq => by
        rw [List.mem_singleton.mp hq]
        walk_at "mem")
      walk_at "go"
      intro r1 hr1
      replace s := s.put (xs := [V.str "power", V.ref y]) hr1
      generalize L2.upd _ r1 (.tup [V.str "power", V.ref y]) = Hr1 at s ⊢
      clear hr1
      walk_at "go"
      intro r2 hr2
      replace s := s.put (xs := [V.str "add", V.ref y, V.ref r1]) hr2
      generalize L2.upd _ r2 (.tup [V.str "add", V.ref y, V.ref r1]) = Hr2 at s ⊢
      clear hr2
      walk_at "go"
      intro r3 hr3
      replace s := s.put (xs := [V.str "rest", V.ref r2, V.int 12, V.int 1]) hr3
      generalize L2.upd _ r3 (.tup [V.str "rest", V.ref r2, V.int 12, V.int 1]) = Hr3 at s ⊢
      clear hr3
      have hy0 : IsTm K Hr3 1 (.ref y) (.nam "y") := IsTm.mk (s.at (by walk_at "mem")) rfl
      have h1 : IsTm K Hr3 2 (.ref r1) (.pow (.nam "y")) := IsTm.mk (s.at (by walk_at "mem")) ⟨_, rfl, hy0⟩
      have h2 : IsTm K Hr3 3 (.ref r2) (.add (.nam "y") (.pow (.nam "y"))) := IsTm.mk (s.at (by walk_at "mem")) ⟨_, _, rfl, hy0.up (by decide), h1⟩
      have hc : IsCd K Hr3 8 1 (.ref r3) R72 := IsCd.mk (s.at (by walk_at "mem")) ⟨_, rfl, h2.up (by decide)⟩
      replace s := s.sub (kl' := [(y, .tup [V.str "name", V.str "y"])]) (fun q hq => by
        rw [List.mem_singleton.mp hq]
        walk_at "mem")
      clear hy0 h1 h2
      walk_at "go"
      refine for_it walk_range (fun i σ H => (∃ cv y11 y12, σ = [some (.ref sa), some (.ref b), some (.ref y), some (.ref L), y4, y5, y6, y7, y8, y9, some cv, y11, y12, none] ∧ ∃ cd, IsCd K H 8 (i + 1) cv cd ∧ W72 cd i) ∧ S72 Pt b c H [(y, .tup [V.str "name", V.str "y"])]) ⟨⟨_, _, _, rfl, R72, hc, [], rfl, rfl, fun _ h => nomatch h⟩, s⟩ (fun _ _ _ _ _ => trivial) ?_ ?_
      · clear s hc
        rintro i x σ H2 H2' hi ⟨⟨cv, y11, y12, rfl, cd, hc, ls, hls, hll, hla⟩, s⟩ ⟨rfl, rfl⟩
        walk_at "go"
        refine ⟨b, c, 10, rfl, s.bt.bag, by decide, by decide, fun d H3 d0 d1 hB3 x3 => ?_⟩
        replace hc := hc.te (TE.bag s.bt.bag x3)
        replace s := s.pull hB3 x3
        clear hB3 x3
        have hi5 : i < 5 := hi
        walk_at "go"
        intro s1 hs1
        replace s := s.put (xs := [V.str "power", V.ref y]) hs1
        replace hc := hc.ex (Ex.new (o := .tup [V.str "power", V.ref y]) hs1)
        generalize L2.upd _ s1 (.tup [V.str "power", V.ref y]) = Hs1 at s hc ⊢
        clear hs1
        walk_at "go"
        intro s2 hs2
        replace s := s.put (xs := [V.str "times", V.int 9, V.ref s1]) hs2
        replace hc := hc.ex (Ex.new (o := .tup [V.str "times", V.int 9, V.ref s1]) hs2)
        generalize L2.upd _ s2 (.tup [V.str "times", V.int 9, V.ref s1]) = Hs2 at s hc ⊢
        clear hs2
        walk_at "go"
        intro s3 hs3
        replace s := s.put (xs := [V.str "times", V.int (90 + d), V.ref s2]) hs3
        replace hc := hc.ex (Ex.new (o := .tup [V.str "times", V.int (90 + d), V.ref s2]) hs3)
        generalize L2.upd _ s3 (.tup [V.str "times", V.int (90 + d), V.ref s2]) = Hs3 at s hc ⊢
        clear hs3
        walk_at "go"
        intro u1 hu1
        replace s := s.put (xs := [V.str "times", V.int (0 + (i : Nat)), V.ref y]) hu1
        replace hc := hc.ex (Ex.new (o := .tup [V.str "times", V.int (0 + (i : Nat)), V.ref y]) hu1)
        generalize L2.upd _ u1 (.tup [V.str "times", V.int (0 + (i : Nat)), V.ref y]) = Hu1 at s hc ⊢
        clear hu1
        walk_at "go"
        intro u2 hu2
        replace s := s.put (xs := [V.str "name", V.str "x"]) hu2
        replace hc := hc.ex (Ex.new (o := .tup [V.str "name", V.str "x"]) hu2)
        generalize L2.upd _ u2 (.tup [V.str "name", V.str "x"]) = Hu2 at s hc ⊢
        clear hu2
        walk_at "go"
        intro u3 hu3
        replace s := s.put (xs := [V.str "add", V.ref u1, V.ref u2]) hu3
        replace hc := hc.ex (Ex.new (o := .tup [V.str "add", V.ref u1, V.ref u2]) hu3)
        generalize L2.upd _ u3 (.tup [V.str "add", V.ref u1, V.ref u2]) = Hu3 at s hc ⊢
        clear hu3
        walk_at "go"
        intro u4 hu4
        replace s := s.put (xs := [V.str "less", V.ref s3, V.ref u3]) hu4
        replace hc := hc.ex (Ex.new (o := .tup [V.str "less", V.ref s3, V.ref u3]) hu4)
        generalize L2.upd _ u4 (.tup [V.str "less", V.ref s3, V.ref u3]) = Hu4 at s hc ⊢
        clear hu4
        walk_at "go"
        intro u5 hu5
        replace s := s.put (xs := [V.str "and", cv, V.ref u4]) hu5
        replace hc := hc.ex (Ex.new (o := .tup [V.str "and", cv, V.ref u4]) hu5)
        generalize L2.upd _ u5 (.tup [V.str "and", cv, V.ref u4]) = Hu5 at s hc ⊢
        clear hu5
        have hy0 : IsTm K Hu5 1 (.ref y) (.nam "y") := IsTm.mk (s.at (by walk_at "mem")) rfl
        have h1 : IsTm K Hu5 2 (.ref s1) (.pow (.nam "y")) := IsTm.mk (s.at (by walk_at "mem")) ⟨_, rfl, hy0⟩
        have h2 : IsTm K Hu5 3 (.ref s2) (.tim 9 (.pow (.nam "y"))) := IsTm.mk (s.at (by walk_at "mem")) ⟨_, rfl, h1⟩
        have h3 : IsTm K Hu5 4 (.ref s3) (.tim (90 + d) (.tim 9 (.pow (.nam "y")))) := IsTm.mk (s.at (by walk_at "mem")) ⟨_, rfl, h2⟩
        have h4 : IsTm K Hu5 2 (.ref u1) (.tim (0 + (i : Nat)) (.nam "y")) := IsTm.mk (s.at (by walk_at "mem")) ⟨_, rfl, hy0⟩
        have h5 : IsTm K Hu5 1 (.ref u2) (.nam "x") := IsTm.mk (s.at (by walk_at "mem")) rfl
        have h6 : IsTm K Hu5 3 (.ref u3) (.add (.tim (0 + (i : Nat)) (.nam "y")) (.nam "x")) := IsTm.mk (s.at (by walk_at "mem")) ⟨_, _, rfl, h4, h5.up (by decide)⟩
        have h7 : IsCd K Hu5 8 1 (.ref u4) (A72 d (0 + (i : Nat))) := IsCd.mk (s.at (by walk_at "mem")) ⟨_, _, rfl, h3.up (by decide), h6.up (by decide)⟩
        have h8 : IsCd K Hu5 8 (i + 1 + 1) (.ref u5) (.con cd (A72 d (0 + (i : Nat)))) := IsCd.mk (s.at (by walk_at "mem")) ⟨_, _, rfl, hc, h7.up (Nat.le_refl _) (by omega)⟩
        walk_at "go"
        refine ⟨⟨_, _, _, rfl, _, h8, ls ++ [A72 d (0 + (i : Nat))], ?_, by rw [List.length_append, hll]; rfl, fun a ha => ?_⟩, s.sub (fun q hq => by
          rw [List.mem_singleton.mp hq]
          walk_at "mem")⟩
        · show cd.atoms ++ [A72 d (0 + (i : Nat))] = _
          rw [hls]
          rfl
        · rcases List.mem_append.mp ha with ha | ha
          · exact hla a ha
          · exact ⟨d, 0 + (i : Nat), List.mem_singleton.mp ha, d0, d1, by omega, by omega⟩
      · clear s hc
        rintro σ H2 ⟨⟨cv, y11, y12, rfl, cd, hc, hW⟩, s⟩
        obtain ⟨cp, rfl⟩ := hc.ref
        have F := hW.facts
        walk_at "go"
        intro g hg
        have y3 := Ex.new (o := .lst [V.str "x"]) hg
        replace s := s.ex y3
        replace hc := hc.ex y3
        have hg3 : (L2.upd H2 g (.lst [V.str "x"])) g = some (.lst [V.str "x"]) := upd_same
        generalize L2.upd H2 g (.lst [V.str "x"]) = H3 at s hc hg3 ⊢
        clear y3 hg
        walk_at "go"
        intro x3 dx hx hdx hnx
        have y13 : Ex H3 (L2.upd (L2.upd H3 dx (.own x3)) x3 (.ins (WhC K) dx [])) := (Ex.new hdx).trans (Ex.new ((upd_ne (Ne.symm hnx)).trans hx))
        refine ⟨x3, dx, g, .str "y", .ref cp, [.str "x"], cd, 8, 6, H3, rfl, upd_same, hx, y13, .inl hg3, (show 1 ≤ 900 by decide), fun z hz => ?_, hc, ⟨Nat.le_trans hc.depth (by decide), by decide, by rw [F.len]; decide, Nat.le_trans F.cn (by decide)⟩, fun a ha => difOk_72 (F.ok a ha) (atoms_atom _ a ha), fun _ => ⟨F.ok, by rw [F.len]; decide⟩, fun w hw => ?_, fun hw us l tt ys H4 eu x4 hx4 hl0 hl hys ht0 htt => ?_⟩
        · simp only [List.cons_append, List.nil_append, List.mem_cons, List.not_mem_nil, or_false] at hz
          rcases hz with rfl | rfl
          · exact .inl ⟨_, rfl, by decide +kernel⟩
          · exact .inl ⟨_, rfl, by decide +kernel⟩
        · rw [F.err] at hw
          cases hw
        · cases eu
          rw [F.per] at hx4
          have hWr : IsWr K H4 x3 [Str.ofString "x"] "y" cd 12 8 6 := ⟨dx, l, tt, _, ys, hx4, htt, hc.ex x4, hl, prd_exC x4 hys⟩
          refine ⟨rfl, ?_⟩
          walk_at "go"
          intro x5 d5 hx5 hd5 hn5
          have y15 : Ex H4 (L2.upd (L2.upd H4 d5 (.own x5)) x5 (.ins (PlC K) d5 [])) := (Ex.new hd5).trans (Ex.new ((upd_ne (Ne.symm hn5)).trans hx5))
          refine ⟨x5, d5, x3, _, "y", cd, 12, 8, 6, H4, rfl, upd_same, hx5, y15, hWr, ⟨Nat.le_trans hc.depth (by decide), by decide, by rw [F.len]; decide⟩, F.cc, hyO, fun a ha => difOk_72 (F.ok a ha) (atoms_atom _ a ha), ⟨by decide, fun a ha => ⟨Nat.le_trans (F.bt a ha).1 (by decide), Nat.le_trans (F.bt a ha).2 (by decide)⟩⟩, fun r zs H6 x6 hx6 hr0 hr6 hzs => ?_⟩
          have hPl : IsPl K H6 x5 x3 13 (planT "y" 12 cd.atoms) := ⟨d5, r, zs, hx6, hr6, hzs⟩
          have hWr6 := hWr.up x6
          have hx46 := x6 _ _ hx4
          refine ⟨rfl, ?_⟩
          have hpl := F.plan
          generalize planT "y" 12 cd.atoms = ts at hPl hpl
          walk_at "go"
          refine ⟨x5, d5, _, rfl, hx6, x5, x3, 13, ts, rfl, hPl, ts.length, rfl, by omega, ?_⟩
          walk_at "go"
          rw [decide_eq_true (show ((ts.length : Nat) : Int) < 4001 by omega)]
          walk_at "go"
          refine ⟨x5, x3, 13, ts, rfl, hPl, fun l2 zs2 H7 x7 hl20 hl2 hz2 => ?_⟩
          have hx7 := x7 _ _ hx6
          have hPl7 := hPl.up x7
          have hWr7 := hWr6.up x7
          have hx47 := x7 _ _ hx46
          walk_at "go"
          refine ⟨x5, d5, _, rfl, hx7, x5, x3, 13, ts, rfl, hPl7, ts.length, rfl, by omega, ?_⟩
          rw [pr_len hz2]
          walk_at "go"
          refine prop_at72 ?_
          refine prop_at72 ?_
          walk_at "go"
          refine ⟨x5, d5, _, rfl, hx7, x5, x3, 13, ts, rfl, hPl7, ?_⟩
          refine ⟨x3, dx, _, rfl, hx47, x3, _, "y", cd, 12, 8, 6, rfl, hWr7, ?_⟩
          walk_at "go"
          intro L3 hL3
          walk_at "go"
          intro L4 hL4
          walk_at "go"
          refine ⟨_, _, rfl, Sm.flats (Ex.new hL4 _ _ upd_same) upd_same (by walk_at "len") (fun v hv => ?_), fun H8 x8 => hQ _⟩
          simp only [List.mem_cons, List.not_mem_nil, or_false] at hv
          rcases hv with rfl | rfl | rfl <;> rfl
end
end PW
namespace PW
open PySem PySem.Spec PyProof.Rows L2
abbrev sp_law (K : PySem.W.Frag) : Sp := spLawS K (He.cT K ("law", none)).2
theorem law_end {K : PySem.W.Frag} {H : Hp} {a : Addr} {ns : List Int} (hl : ns.length ≤ 63) (hO : ∀ q ∈ ([("law", none)] : List He.Defn), H (He.cT K q).2 = some (.tbl #[])) (hS : SqL K H a (ns.map V.int)) : sp_law K [.ref a] H (fun v _ => v = .bl true) fun _ _ _ => False :=
  ⟨a, ns, rfl, hS, hl, hO _ List.mem_cons_self, fun _ => rfl⟩
theorem law_ok {P : Program} {w : World} {K : PySem.W.Frag} {mg : Str → Option Value} {base : Heap} (hP : IsPG P) (T : Txt K mg) (TB : ∀ q ∈ ([("law", none)] : List He.Defn), LamX.TabB base mg (He.cT K q).1 (He.cT K q).2) :
    FnOk P w K mg base CX0 54 (He.ga K "law") (fdOf K (He.ga K "law")) p_law (sp_law K) := by
  have g1 := ok__law_pull (P := P) (w := w) (base := base) T
  have go := ok__law_of T g1
  have pis := ok_is_name (P := P) (w := w) (base := base) (k := 0) T
  have pp := ok_parts_of (P := P) (w := w) (base := base) T
  have pn := ok_names_within T pp 19
  have pc := ok_calls_within T pp 16
  have gcmp := ok_comparisons (P := P) (w := w) (base := base) (k := 0) T 19
  have gcmp16 := ok_comparisons (P := P) (w := w) (base := base) (k := 0) T 16
  have gtm := ok_terms_of (P := P) (w := w) (base := base) T
  have gcn := ok_condition_names (k := 21) T (gcmp.mono (by decide)) (gtm.mono (by decide)) (pn.mono (by decide))
  have gcc := ok_condition_calls (k := 21) T (gcmp16.mono (by decide)) (gtm.mono (by decide)) (pc.mono (by decide))
  have gnn := okX_need_names (k := 1) hP T pis
  have gnf := okX_need_flat (k := 22) hP T (pn.mono (by decide)) (pp.mono (by decide)) 19 (by decide)
  have gmu := ok_multiples (P := P) (w := w) (base := base) (k := 0) T 20 (by decide)
  have gmu19 := ok_multiples (P := P) (w := w) (base := base) (k := 0) T 19 (by decide)
  have gdf := ok_difference (P := P) (w := w) (base := base) (k := 0) T
  have gwo := ok_without (P := P) (w := w) (base := base) (k := 0) T 20
  have ggc := ok_gcd (P := P) (w := w) (base := base) T
  have gjo := ok_joint (k := 1) T ggc
  have gpe := ok_period_of (k := 20) T gmu19 (gjo.mono (by decide)) ((ok_order_of_two T).mono (by decide)) ((ok_odd_part T).mono (by decide))
  have gwi := okX_wish_init (k := 46) (Pre := PerOk) hP T (gnn.mono (by decide)) (gcn.mono (by decide)) (gcmp.mono (by decide)) (gtm.mono (by decide)) (gnf.mono (by decide)) (gmu.mono (by decide)) (gdf.mono (by decide)) (gpe.mono (by decide))
  have gfo := ok_forms_of (k := 22) T (gdf.mono (by decide)) (gmu.mono (by decide)) (gwo.mono (by decide))
  have gwf := ok_wforms T gfo
  have gnp := ok_need_plain T gcc
  have gbt := ok_bitsP (P := P) (w := w) (base := base) T
  have gst := ok_still T gbt
  have gsh := ok_shifted (P := P) (w := w) (base := base) (k := 1) T
  have gop := ok_opposite (P := P) (w := w) (base := base) (k := 1) T
  have gba := ok_bases T gop gsh (gbt.mono (by decide))
  have grh := ok_reach T gbt
  have gwp := ok_wperF (P := P) (w := w) (base := base) (k := 0) T
  have gpi := ok_plan_init (k := 46) (k0 := 45) rfl T (gnp.mono (by decide)) (gwf.mono (by decide)) (gwp.mono (by decide)) (gst.mono (by decide)) (gba.mono (by decide)) (grh.mono (by decide)) (gsh.mono (by decide))
  exact ok_law72 (k := 53) (k0 := 47) (kx := 48) (by decide) T (TB _ List.mem_cons_self) ((ok__law_bag T).mono (by decide)) (g1.mono (by decide)) (go.mono (by decide)) ((ok__law_same T 3).mono (by decide)) ((ok_plan_terms (k := 0) T).mono (by decide)) ((ok_plan_wish (k := 0) T).mono (by decide)) ((ok_plan_len (k := 0) T).mono (by decide)) gpi (gwp.mono (by decide)) gwi rfl
end PW
open PySem PySem.W PySem.Calls PyProof.Rows
theorem PySem.Challenge.cw_powerwish_k72_bounds_of_periods_and_of_p_holds : PySem.Challenge.rw_powerwish_k72_bounds_of_periods_and_of_p.Holds := by
  w_on; o_law
  refine PW.head_left (r := PW.R) (q := PW.vw) (H := PW.hk) (loose := PW.loose) (d := HandSHeadRun.topDef PW.prg 94) PW.left
    (by kernel_rfl) (by kernel_rfl) (by kernel_rfl) (by rfl) (by first | assumption | decide +kernel) (by decide +kernel) ⟨rfl, rfl, rfl, rfl, rfl, by decide +kernel⟩ ?hw ?hc
  case hw => w_witness2
  case hc =>
    refine LamX.walk_ofTsE (l := PySem.Challenge.rw_powerwish_k72_bounds_of_periods_and_of_p) (n := 63) (k := 54) (x := "_law_script") (CX := fun _ => L2.CX0) rfl (by decide) (by kernel_rfl) ⟨rfl, by decide, by decide⟩ ?F (fun _ _ _ _ _ z => z)
    intro w mg fa h Y G hmg0
    obtain ⟨K, KX, c, cW⟩ : ∃ K : PySem.W.Frag, K.In h ∧ PW.SaysN PW.fa PW.fn PW.fs PW.fx PW.tf PW.ex h K ∧ PW.SaysTb PW.ts w K :=
      ⟨PW.KH w, PySem.W.km_in_of (K := PW.KL) (as := PW.asL) (e := PW.asL_eq) (ts := PW.tsL) Y, PW.saysN (as := PW.tsL) (w := w) (by kernel_rfl) (PySem.W.km_tabs_of (K := PW.KL) (as := PW.asL) (e := PW.asL_eq) (ts := PW.tsL) Y), PW.saysTb w⟩
    have hmg : mg ("law" : PySem.Str) = some (.ref fa) := by
      have e : (HandSHeadRun.topDef PW.prg 94).name = ("law" : PySem.Str) := by kernel_rfl
      rw [← e]
      exact hmg0
    have T := PW.txt_of KX G c c.m
    have ef := hmg.symm.trans T.g_law
    cases ef
    have hP : PW.IsPG PW.R.prog := ⟨by kernel_rfl, by kernel_rfl⟩
    exact ⟨K, KX, _, PW.tf.map (He.cT K), PW.sp_law K, fun p hp => (List.mem_map.mp hp).elim fun q hq => by rw [← hq.2]; exact c.empty q hq.1, fun p hp => (List.mem_map.mp hp).elim fun q hq => by rw [← hq.2]; exact c.out q hq.1, fun p hp => (List.mem_map.mp hp).elim fun q hq => by rw [← hq.2]; exact PySem.W.codeHd_of_K KX (c.hd q hq.1),
      fun s v => L2.FunD.bindsA (ps := PW.p_law) T.d_law (fun _ _ _ _ _ _ us hl => match us, hl with | [_], _ => rfl) s [v] rfl, fun H a ns hl _ hO hS => PW.law_end hl (fun q hq => hO _ (List.mem_map.mpr ⟨q, hq, rfl⟩)) hS,
      fun base _ _ tb => PW.law_ok (P := PW.R.prog) (w := w) (base := base) hP T fun q hq => tb _ (List.mem_map.mpr ⟨q, hq, rfl⟩)⟩
#print axioms PySem.Challenge.cw_powerwish_k72_bounds_of_periods_and_of_p_holds
