import PyProof.Rows.All
import Wide.All
import OpenK.AllK
import Wide.FinOn
import KE.KStateDown
import Lean
import HandS.Base
import HandS.Call
import HandS.Ends
import HandS.List
import HandS.Comp
import HandS.Iter
import HandS.Dict
import HandS.Text
import HandS.Exc
import HandS.More
import HandS.Words
import HandS.WordsExc
import HandS.WordsList
import HandS.WordsDict
import HandS.Defaults
import HandS.IsInst
import HandS.Wide
import HandS.WideBits
import HandS.Walk
import HandS.Zip
import HandS.FStr
import HandS.Codes
import HandS.TryOnly
import HandS.ExcOwn
import HandS.Steps
import HandS.Slots
import HandS.SlotsOwn
import HandS.MakeKwOnly
import HandS.Style
import HandS.Star
import HandS.ClsMeth
import HandS.ListEq
import HandS.ExcInit
import HandS.ExcField
import HandS.ExcSuper
import HandS.Lambda
import HandS.EndTab
import HandS.HeadWalk
import HandS.HeadHook4
import HandS.HotCalls
import HandS.TryMany
import KE.KExcSuper
import KE.KSuper
import KE.KNestM
import KE.KExcInit
import HandS.DictComp
import HandS.Conv
import KE.KDictZip
import HandS.Head0
import HandS.Head1
import HandS.Head2
import HandS.HeadEnd
import HandS.HeadHook1
import HandS.HeadHook2
import PySem.Challenge.RW_powerwish_k05_quotients_and_remainders
set_option Elab.async false
set_option linter.all false
set_option maxRecDepth 100000
set_option maxHeartbeats 4000000
/-! ### the hook: facts, and Bools of one's own -/
namespace PW
open PySem PySem.Spec PyProof.Rows L2
def fdOf (K : PySem.W.Frag) (a : Addr) : FuncData := match K.lookup a with
  | some ⟨_, _, .func fd, _⟩ => fd
  | _ => default
theorem funD_of {K : PySem.W.Frag} {x qual : Str} {params : Arguments} {body : List Stmt} {scope : Scope} {dvs : List V} {kws : List (Str × V)} {f : Addr} (h : ∃ fd, FunD K x qual params body scope dvs kws f fd) :
    FunD K x qual params body scope dvs kws f (fdOf K f) := by
  obtain ⟨fd, F⟩ := h
  obtain ⟨oc, od, dV, kV, doc, pm, an, cdv, ct, osl, e, lk, _⟩ := F.ex
  have e2 : fdOf K f = fd := by
    unfold fdOf
    rw [lk]
  rw [e2]
  exact F
/-- a def reached by a path of one's own (a staticmethod's), without defaults -/
structure DefA where
  at_ : PySem.W.Frag → Addr
  name : Str
  qual : Str
  params : Arguments
  body : List Stmt
  scope : Scope
def fnWA (K : PySem.W.Frag) (d : DefA) : He.FnW := match K.lookup (d.at_ K) with
  | some ⟨_, _, .func fd, _⟩ => some (fd.name, fd.qualname, fd.params, fd.body, fd.scope, fd.globals, fd.closure, fd.builtins)
  | _ => none
def DefA.val (d : DefA) : He.FnW := some (d.name, d.qual, d.params, .stmts d.body, d.scope, mainGlobals, [], builtinsNs)
def DefA.ok (K : PySem.W.Frag) (d : DefA) : Bool := PySem.W.keepIn K (.ref (d.at_ K)) && (match K.lookup (d.at_ K) with
  | some ⟨_, _, .func fd, _⟩ => PySem.W.codeIn K fd.code d.qual && (He.dflB K fd.defaults [] && He.kwdB K fd.kwdefaults [])
  | _ => false)
theorem DefA.funD {K : PySem.W.Frag} {d : DefA} (e : fnWA K d = d.val) (c : d.ok K = true) : ∃ fd, FunD K d.name d.qual d.params d.body d.scope [] [] (d.at_ K) fd := by
  obtain ⟨kp, c2⟩ := He.ba c
  unfold fnWA at e
  cases q : K.lookup (d.at_ K) with
  | none =>
    rw [q] at c2
    cases c2
  | some o =>
    obtain ⟨oc, od, dt, osl⟩ := o
    rw [q] at c2 e
    cases dt with
    | func fd =>
      obtain ⟨n1, n2, n3, n4, n5, n6, n7, n8, n9, n10, n11, n12, n13, n14, n15⟩ := fd
      have e2 : (some (n1, n2, n3, n4, n5, n6, n7, n15) : He.FnW) = some (d.name, d.qual, d.params, .stmts d.body, d.scope, mainGlobals, [], builtinsNs) := e
      simp only [Option.some.injEq, Prod.mk.injEq] at e2
      obtain ⟨h1, h2, h3, h4, h5, h6, h7, h8⟩ := e2
      subst h1 h2 h3 h4 h5 h6 h7 h8
      have c3 : (PySem.W.codeIn K n13 d.qual && (He.dflB K n8 [] && He.kwdB K n9 [])) = true := c2
      obtain ⟨k1, k2⟩ := He.ba c3
      obtain ⟨k3, k4⟩ := He.ba k2
      exact ⟨_, ⟨oc, od, n8, n9, n10, n11, n12, n13, n14, osl, rfl, q, k1, He.dflB_ok k3, He.kwdB_ok k4⟩, kp⟩
    | _ => cases c2
/-- a staticmethod's function -/
def sgA (C m : Str) (K : PySem.W.Frag) : Addr := match PySem.W.recIn K (He.ma K (He.ga K C) m) "staticmethod" with
  | some (.ref g :: _) => g
  | _ => 0
/-- a keyword-only default that is an object -/
def kwA (p : Str × Option Str) (x : Str) (K : PySem.W.Frag) : Addr := match K.lookup (He.fAd K p) with
  | some ⟨_, _, .func fd, _⟩ => (match fd.kwdefaults with
    | .ref D => (match PySem.W.nsIn K D x with
      | some (some (.ref a)) => a
      | _ => 0)
    | _ => 0)
  | _ => 0
/-- an empty tuple at a -/
def emptyT (K : PySem.W.Frag) (a : Addr) : Bool := match K.lookup a with
  | some ⟨.type c, _, .seq its _, _⟩ => decide (c = "tuple") && decide (its.size = 0)
  | _ => false
theorem emptyT_ok {K : PySem.W.Frag} {a : Addr} (h : emptyT K a = true) (H : Hp) : SqT K H a [] := by
  unfold emptyT at h
  cases q : K.lookup a with
  | none =>
    rw [q] at h
    cases h
  | some o =>
    obtain ⟨oc, od, dt, osl⟩ := o
    rw [q] at h
    cases oc with
    | type c =>
      cases dt with
      | seq its n =>
        obtain ⟨h1, h2⟩ := He.ba (show (decide (c = "tuple") && decide (its.size = 0)) = true from h)
        have h3 : its.size = 0 := of_decide_eq_true h2
        have h4 : its = #[] := Array.eq_empty_of_size_eq_zero h3
        subst h4
        exact .inr ⟨_, #[], n, q, congrArg Value.type (of_decide_eq_true h1), rfl, Nat.zero_le _, .nil⟩
      | _ => cases h
    | _ => cases dt <;> cases h
abbrev AlM : Type := He.AlD × (List He.FnW × Bool)
def obsM (fa : List He.Fa) (fn : List He.DefD) (fs : List DefA) (ex : PySem.W.Frag → List Bool) (K : PySem.W.Frag) : AlM := (He.obsD fa fn K, (fs.map (fnWA K), (fs.all fun d => d.ok K) && (ex K).all id))
def valM (fn : List He.DefD) (fs : List DefA) : AlM := (He.valD fn, (fs.map DefA.val, true))
structure SaysM (fa : List He.Fa) (fn : List He.DefD) (fs : List DefA) (ex : PySem.W.Frag → List Bool) (K : PySem.W.Frag) : Prop where
  d : He.SaysD fa fn K
  s : ∀ d ∈ fs, ∃ fd, FunD K d.name d.qual d.params d.body d.scope [] [] (d.at_ K) fd
  b : ∀ b ∈ ex K, b = true
theorem map_mem {α β : Type} {f g : α → β} : ∀ {l : List α}, l.map f = l.map g → ∀ a ∈ l, f a = g a
  | [], _, _, h => by cases h
  | x :: r, e, a, h => by
    rw [List.map_cons, List.map_cons] at e
    injection e with e1 e2
    rcases List.mem_cons.mp h with rfl | h
    · exact e1
    · exact map_mem e2 a h
theorem exN {l : List Bool} (h : ∀ b ∈ l, b = true) (i : Nat) {b : Bool} (e : l[i]? = some b) : b = true := h b (List.mem_of_getElem? e)
def obsMG (n : Nat) (fa : List He.Fa) (fn : List He.DefD) (fs : List DefA) (ex : PySem.W.Frag → List Bool) (g : Addr → Option Obj) : AlM := obsM fa fn fs ex (He.frG g (He.asD g n ++ [cStatics]))
theorem saysM_of {fa : List He.Fa} {fn : List He.DefD} {fs : List DefA} {ex : PySem.W.Frag → List Bool} {K : PySem.W.Frag} (e : obsM fa fn fs ex K = valM fn fs) : SaysM fa fn fs ex K := by
  have e1 : He.obsD fa fn K = He.valD fn := congrArg (fun z : AlM => z.1) e
  have e2 : fs.map (fnWA K) = fs.map DefA.val := congrArg (fun z : AlM => z.2.1) e
  have e3 : ((fs.all fun d => d.ok K) && (ex K).all id) = true := congrArg (fun z : AlM => z.2.2) e
  obtain ⟨e4, e5⟩ := He.ba e3
  exact ⟨e1, fun d hd => DefA.funD (map_mem e2 d hd) (List.all_eq_true.mp e4 d hd), fun b hb => List.all_eq_true.mp e5 b hb⟩
def hookM (n : Nat) (fa : List He.Fa) (fn : List He.DefD) (fs : List DefA) (ex : PySem.W.Frag → List Bool) : PySem.W.Hook where
  α := AlM
  obs := fun s => obsMG n fa fn fs ex s.heap.get?
  val := fun _ => valM fn fs
  says := fun _ h => ∃ K : PySem.W.Frag, K.In h ∧ SaysM fa fn fs ex K
  of := fun _ _ e => ⟨_, He.frG_in, saysM_of e⟩
  keeps := fun _ _ _ ⟨K, hK, c⟩ k => ⟨K, PySem.W.Frag.In.keeps hK k, c⟩
theorem obsMG_eq {n : Nat} {fa : List He.Fa} {fn : List He.DefD} {fs : List DefA} {ex : PySem.W.Frag → List Bool} {g : Addr → Option Obj} {s : Shared} (h : ∀ a, g a = s.heap.get? a) : obsMG n fa fn fs ex g = (hookM n fa fn fs ex).obs s := by
  have e : g = s.heap.get? := funext h
  rw [e] <;> rfl
/-! ### a module's constants -/
section
variable {X : Cx} {x : Str} {pos : Pos}
theorem pe_gint {i : Int} (hg : Gl X x) (h : ∃ t, X.mg x = some (.int i t)) (hd : (x == ("__debug__" : Str)) = false := by decide) : PE X (.Name x pos) (tC (.int i)) := by
  obtain ⟨t, h⟩ := h
  exact pe_glob hg h ⟨t, rfl⟩ hd
theorem pe_gstr {z : Str} (hg : Gl X x) (h : ∃ t, X.mg x = some (.str z t)) (hd : (x == ("__debug__" : Str)) = false := by decide) : PE X (.Name x pos) (tC (.str z)) := by
  obtain ⟨t, h⟩ := h
  exact pe_glob hg h ⟨t, rfl⟩ hd
end
end PW
/-! ### readings, one step at a time -/
namespace PW
open PySem PySem.Spec PyProof.Rows L2
section
variable {σ : L2.St} {H : Hp} {Q : VK} {D : Ends} {v x y : V} {i j : Int} {n m : Nat} {ta tb tc te : L2.TE} {t u : TT} {s1 s2 : TS} {r r' : R2} {K : PySem.W.Frag} {tA tR : TA}
theorem r_var (h : σ[n]? = some (some v)) (q : Q v H) : tVar n σ H Q := ⟨v, h, q⟩
theorem r_c (q : Q v H) : tC v σ H Q := q
theorem r_op (h : ta σ H fun x H1 => tb σ H1 fun y H2 => r x y H2 Q) : tOp r ta tb σ H Q := h
theorem r_un {r : V → Hp → VK → Prop} (h : ta σ H fun x H1 => r x H1 Q) : tUn r ta σ H Q := h
theorem r_chain (h : ta σ H fun x H1 => tb σ H1 fun y H2 => r x y H2 fun z H3 => ∃ k, z = .bl k ∧ (if k = true then tc σ H3 fun w' H4 => r' y w' H4 Q else Q (.bl false) H3)) : tChain r r' ta tb tc σ H Q := h
theorem r_test {Q : Bool → Hp → Prop} (h : te σ H fun x H' => ∃ k, x = .bl k ∧ Q k H') : tTest te σ H Q := h
theorem r_b {Q : Bool → Hp → Prop} (h : te σ H fun x H' => ∃ k, x = .bl k ∧ Q k H') : tB te σ H Q := h
theorem r_bl {b : Bool} {Q : Bool → Prop} (q : Q b) : ∃ k, V.bl b = .bl k ∧ Q k := ⟨b, rfl, q⟩
theorem r_bl' {b : Bool} {Q : Bool → Hp → Prop} (q : Q b H) : ∃ k, V.bl b = .bl k ∧ Q k H := ⟨b, rfl, q⟩
theorem r_not {Q : Bool → Hp → Prop} (h : t σ H fun c H1 => Q (!c) H1) : tNot t σ H Q := h
theorem r_and {Q : Bool → Hp → Prop} (h : t σ H fun c H1 => if c = true then u σ H1 Q else Q false H1) : tAnd t u σ H Q := h
theorem r_or {Q : Bool → Hp → Prop} (h : t σ H fun c H1 => if c = true then Q true H1 else u σ H1 Q) : tOr t u σ H Q := h
theorem r_andV (h : ta σ H fun x H1 => ∃ c, x = .bl c ∧ if c = true then tb σ H1 Q else Q (.bl false) H1) : tAndV ta tb σ H Q := h
theorem r_orV (h : ta σ H fun x H1 => ∃ c, x = .bl c ∧ if c = true then Q (.bl true) H1 else tb σ H1 Q) : tOrV ta tb σ H Q := h
theorem r_notV (h : ta σ H fun x H1 => ∃ c, x = .bl c ∧ Q (.bl (!c)) H1) : tNotV ta σ H Q := h
theorem r_isN (h : ta σ H fun x H1 => Q (.bl (decide (x = .non))) H1) : tIsN ta σ H Q := h
theorem r_notN (h : ta σ H fun x H1 => Q (.bl (!decide (x = .non))) H1) : tNotN ta σ H Q := h
theorem r_ifE (h : t σ H fun c H1 => if c = true then ta σ H1 Q else tb σ H1 Q) : tIf t ta tb σ H Q := h
theorem r_ifS (h : t σ H fun b H1 => if b = true then s1 D σ H1 else s2 D σ H1) : tIfS t s1 s2 D σ H := h
theorem r_seq (h : s1 { D with nx := s2 D } σ H) : tSeq s1 s2 D σ H := h
theorem r_next (h : D.nx σ H) : tNext D σ H := h
theorem r_brk (h : D.bk σ H) : tBreak D σ H := h
theorem r_cnt (h : D.ct σ H) : tCont D σ H := h
theorem r_ret (h : te σ H D.rt) : tRet te D σ H := h
theorem r_retN (h : D.rt .non H) : tRetN D σ H := h
theorem r_drop (h : te σ H fun _ H1 => D.nx σ H1) : tDrop te D σ H := h
theorem r_asg {g : TG} (h : te σ H fun x H1 => g x σ H1 D.nx) : tAsg te g D σ H := h
theorem r_gname {Q : L2.St → Hp → Prop} (h : Q (σ.set n (some v)) H) : gName n v σ H Q := h
theorem r_gsub {to ti : L2.TE} {ts : TSet} {Q : L2.St → Hp → Prop} (h : to σ H fun o H1 => ti σ H1 fun i H2 => ts o i v H2 fun H3 => Q σ H3) : gSub to ti ts v σ H Q := h
theorem r_aug {ti : TIp} (hx : σ[n]? = some (some x)) (h : te σ H fun y H1 => ti x y H1 fun z H2 => D.nx (σ.set n (some z)) H2) : tAug n te ti D σ H := ⟨x, hx, h⟩
theorem r_ipI {g : Int → Int → Int} {Q : VK} (q : Q (.int (g i j)) H) : ipI g (.int i) (.int j) H Q := ⟨i, j, rfl, rfl, q⟩
theorem r_nil {Q : List V → Hp → Prop} (h : Q [] H) : tNil σ H Q := h
theorem r_cons {Q : List V → Hp → Prop} (h : ta σ H fun x H1 => tR σ H1 fun xs H2 => Q (x :: xs) H2) : tCons ta tR σ H Q := h
theorem r_cb {r : List V → Hp → VK → Prop} (h : tA σ H fun vs H1 => r vs H1 Q) : tCB r tA σ H Q := h
theorem r_call {sp : Sp} {dvs : List V} {E : XK} (h : tA σ H fun vs H1 => sp (vs ++ dvs) H1 Q E) : tCall sp dvs E tA σ H Q := h
theorem r_I0 {g : Int → Int → V} (q : Q (g i j) H) : rI0 g (.int i) (.int j) H Q := ⟨i, j, rfl, rfl, q⟩
theorem r_I {C : Int → Int → Prop} {g : Int → Int → V} (c : C i j) (q : Q (g i j) H) : rI C g (.int i) (.int j) H Q := ⟨i, j, rfl, rfl, c, q⟩
theorem r_U {g : Int → V} (q : Q (g i) H) : rU g (.int i) H Q := ⟨i, rfl, q⟩
theorem r_eq (h : scal x y = true) (q : Q (.bl (decide (x = y))) H) : rEq x y H Q := ⟨h, q⟩
theorem r_ne (h : scal x y = true) (q : Q (.bl (!decide (x = y))) H) : rNe x y H Q := ⟨h, q⟩
theorem r_ixL {p : Addr} {xs : List V} (h : SqL K H p xs) (a : atI xs i = some v) (q : Q v H) : rIxL K (.ref p) (.int i) H Q := ⟨p, xs, i, v, rfl, rfl, h, a, q⟩
theorem r_ixT {p : Addr} {xs : List V} (h : SqT K H p xs) (a : atI xs i = some v) (q : Q v H) : rIxT K (.ref p) (.int i) H Q := ⟨p, xs, i, v, rfl, rfl, h, a, q⟩
theorem r_setL {p : Addr} {xs : List V} {k : Nat} {Q : Hp → Prop} (h : H p = some (.lst xs)) (e : ixN xs.length i = some k) (q : Q (upd H p (.lst (xs.set k v)))) : rSetL (.ref p) (.int i) v H Q := ⟨p, xs, i, k, rfl, rfl, h, e, q⟩
theorem r_lst {l : Nat} (hl : l = l) (h : tA σ H fun xs H1 => xs.length ≤ sizeLine ∧ ∀ p, H1 p = none → Q (.ref p) (upd H1 p (.lst xs))) : tLst tA σ H Q := h
theorem r_lst1 {xs : List V} {R : Prop} (hl : xs.length ≤ 100000) (h : R) : xs.length ≤ sizeLine ∧ R := ⟨Nat.le_trans hl (by decide), h⟩
theorem r_tup (h : tA σ H fun xs H1 => xs.length ≤ sizeLine ∧ ∀ p, H1 p = none → Q (.ref p) (upd H1 p (.tup xs))) : tTup tA σ H Q := h
theorem r_ifT {A B : Prop} (h : A) : if true = true then A else B := by rw [if_pos rfl]; exact h
theorem r_ifF {A B : Prop} (h : B) : if false = true then A else B := by rw [if_neg Bool.false_ne_true]; exact h
theorem r_ifT' {c : Bool} {A B : Prop} (e : c = true) (h : A) : if c = true then A else B := by rw [if_pos e]; exact h
theorem r_ifF' {c : Bool} {A B : Prop} (e : c = false) (h : B) : if c = true then A else B := by rw [if_neg (by rw [e]; exact Bool.false_ne_true)]; exact h
theorem r_if2 {c : Bool} {A B : Prop} (h1 : c = true → A) (h2 : c = false → B) : if c = true then A else B := by
  cases c with
  | true => exact r_ifT (h1 rfl)
  | false => exact r_ifF (h2 rfl)
theorem r_int1 {Q : VK} (q : Q (.int i) H) : (∃ k, [V.int i] = [.int k] ∧ Q (.int k) H) ∨ ∃ k, [V.int i] = [.bl k] ∧ Q (.int (if k then 1 else 0)) H := .inl ⟨i, rfl, q⟩
theorem r_part {Q : Option Int → Hp → Prop} (h : te σ H fun x H1 => ∃ i, x = .int i ∧ Q (some i) H1) : tPart te σ H Q := h
theorem r_exI {R : Int → Prop} (h : R i) : ∃ k, V.int i = .int k ∧ R k := ⟨i, rfl, h⟩
theorem r_noPart {Q : Option Int → Hp → Prop} (h : Q none H) : tNoPart σ H Q := h
theorem r_sl {rs : V → Option Int → Option Int → Hp → VK → Prop} {tl th : TO} (h : te σ H fun x H1 => tl σ H1 fun l H2 => th σ H2 fun u H3 => rs x l u H3 Q) : tSl rs te tl th σ H Q := h
theorem r_slL {p : Addr} {xs : List V} {lo hi : Option Int} (h : SqL K H p xs) (q : ∀ l, H l = none → Q (.ref l) (upd H l (.lst (cutV xs lo hi)))) : rSlL K (.ref p) lo hi H Q := ⟨p, xs, rfl, h, q⟩
theorem r_slS {z : Str} {lo hi : Option Int} (h : z.length ≤ sizeLine) (q : Q (.str (cutS z lo hi)) H) : rSlS (.str z) lo hi H Q := ⟨z, rfl, h, q⟩
end
end PW
namespace PW
open PySem PySem.Spec PyProof.Rows L2
theorem cmx {i j : Int} (h1 : -(2 ^ 64) < i) (h2 : i < 2 ^ 64) (h3 : -(2 ^ 64) < j) (h4 : j < 2 ^ 64) : CMulX i j := mulx_ok (a := 64) (b := 64) (by omega) (by omega) (by decide)
theorem cdw {i j : Int} (h : 0 < j) (h2 : j < 2 ^ 64) : CDivW i j := wide_div (b := 64) h (by omega) (by decide) (by decide)
end PW
namespace PW
open PySem PySem.Spec PyProof.Rows L2
theorem cpow {i j : Int} (h : 0 ≤ j) (h2 : j ≤ 1000) (h3 : -(2 ^ 64) < i) (h4 : i < 2 ^ 64) : CPow i j := ⟨h, by omega, by omega⟩
theorem cdw2 {i j : Int} (h : 0 < j) (h2 : j.natAbs.log2 < 9000) : CDivW i j := ⟨h, h2⟩
/-! ### built-ins by named readings -/
def cInt : List V → Hp → VK → Prop := fun xs H Q => (∃ i, xs = [.int i] ∧ Q (.int i) H) ∨ ∃ k, xs = [.bl k] ∧ Q (.int (if k then 1 else 0)) H
def cLen (K : PySem.W.Frag) : List V → Hp → VK → Prop := fun xs H Q => ∃ x n, xs = [x] ∧ LenV K x H n ∧ Q (.int n) H
def cAbs : List V → Hp → VK → Prop := fun xs H Q => ∃ i, xs = [.int i] ∧ Q (.int (if i < 0 then -i else i)) H
def cMax : List V → Hp → VK → Prop := fun xs H Q => ∃ i j, xs = [.int i, .int j] ∧ Q (.int (if j > i then j else i)) H
def cMin : List V → Hp → VK → Prop := fun xs H Q => ∃ i j, xs = [.int i, .int j] ∧ Q (.int (if j < i then j else i)) H
def cList (K : PySem.W.Frag) : List V → Hp → VK → Prop := fun xs H Q => ∃ p ys, xs = [.ref p] ∧ (SqL K H p ys ∨ SqT K H p ys) ∧ ∀ l, H l = none → Q (.ref l) (upd H l (.lst ys))
def cTuple (K : PySem.W.Frag) : List V → Hp → VK → Prop := fun xs H Q => ∃ p ys, xs = [.ref p] ∧ ((SqL K H p ys ∧ ∀ l, H l = none → Q (.ref l) (upd H l (.tup ys))) ∨ (SqT K H p ys ∧ Q (.ref p) H))
def oAddS : R2 := fun x y H Q => ∃ i j, x = .str i ∧ y = .str j ∧ i.length + j.length ≤ sizeLine ∧ Q (.str (i ++ j)) H
section
variable {X : Cx}
theorem call_intN : CallR X (.type "int") cInt := call_int1
theorem call_lenN : CallR X (.builtin "len") (cLen X.K) := call_len
theorem call_absN : CallR X (.builtin "abs") cAbs := call_abs
theorem call_maxN (hc : X.calm = true) : CallR X (.builtin "max") cMax := call_max2 hc
theorem call_minN (hc : X.calm = true) : CallR X (.builtin "min") cMin := call_min2 hc
theorem call_listN : CallR X (.type "list") (cList X.K) := call_list_of
theorem call_tupleN : CallR X (.type "tuple") (cTuple X.K) := call_tuple_of
theorem op_addSN : OpR X (binaryOp .Add) oAddS := op_add_str
end
section
variable {H : Hp} {Q : VK} {i j : Int} {k : Bool} {K : PySem.W.Frag} {p : Addr} {ys : List V} {z z' : Str}
theorem r_cInt (q : Q (.int i) H) : cInt [.int i] H Q := .inl ⟨i, rfl, q⟩
theorem r_cLenS (h : z.length ≤ sizeLine) (q : Q (.int (z.length : Nat)) H) : cLen K [.str z] H Q := ⟨.str z, z.length, rfl, ⟨h, rfl⟩, q⟩
theorem r_cLenL (h : SqL K H p ys) (q : Q (.int (ys.length : Nat)) H) : cLen K [.ref p] H Q := ⟨.ref p, ys.length, rfl, .inl ⟨ys, h, rfl⟩, q⟩
theorem r_cLenT (h : SqT K H p ys) (q : Q (.int (ys.length : Nat)) H) : cLen K [.ref p] H Q := ⟨.ref p, ys.length, rfl, .inr ⟨ys, h, rfl⟩, q⟩
theorem r_cAbs (q : Q (.int (if i < 0 then -i else i)) H) : cAbs [.int i] H Q := ⟨i, rfl, q⟩
theorem r_cMax (q : Q (.int (if j > i then j else i)) H) : cMax [.int i, .int j] H Q := ⟨i, j, rfl, q⟩
theorem r_cMin (q : Q (.int (if j < i then j else i)) H) : cMin [.int i, .int j] H Q := ⟨i, j, rfl, q⟩
theorem r_cListL (h : SqL K H p ys) (q : ∀ l, H l = none → Q (.ref l) (upd H l (.lst ys))) : cList K [.ref p] H Q := ⟨p, ys, rfl, .inl h, q⟩
theorem r_cListT (h : SqT K H p ys) (q : ∀ l, H l = none → Q (.ref l) (upd H l (.lst ys))) : cList K [.ref p] H Q := ⟨p, ys, rfl, .inr h, q⟩
theorem r_cTupleL (h : SqL K H p ys) (q : ∀ l, H l = none → Q (.ref l) (upd H l (.tup ys))) : cTuple K [.ref p] H Q := ⟨p, ys, rfl, .inl ⟨h, q⟩⟩
theorem r_addS (h : z.length + z'.length ≤ sizeLine) (q : Q (.str (z ++ z')) H) : oAddS (.str z) (.str z') H Q := ⟨z, z', rfl, rfl, h, q⟩
end
end PW
namespace PW
open PySem PySem.Spec PyProof.Rows L2
section
variable {H : Hp} {Q : VK} {i : Int} {K : PySem.W.Frag} {p : Addr} {xs : List V} {v : V} {z : Str} {c : Nat}
theorem r_ixqL (h : SqL K H p xs) (a : atI xs i = some v) (q : Q v H) : rIx K (.ref p) (.int i) H Q := .inl (r_ixL h a q)
theorem r_ixqT (h : SqT K H p xs) (a : atI xs i = some v) (q : Q v H) : rIx K (.ref p) (.int i) H Q := .inr (.inl (r_ixT h a q))
theorem r_ixqS (h : z.length ≤ sizeLine) (a : atI z.cps.toList i = some c) (q : Q (.str ⟨#[c]⟩) H) : rIx K (.str z) (.int i) H Q := .inr (.inr ⟨z, i, c, rfl, rfl, h, a, q⟩)
theorem atI_mem {α : Type} {xs : List α} {i : Int} (h0 : 0 ≤ i) (h : i < (xs.length : Int)) : ∃ v, v ∈ xs ∧ atI xs i = some v := by
  have hl : i.toNat < xs.length := by omega
  have e : i = (i.toNat : Int) := by omega
  have h2 : atI xs (i.toNat : Int) = some xs[i.toNat] := atI_nat (List.getElem?_eq_getElem hl)
  exact ⟨_, List.getElem_mem hl, by rw [← e] at h2; exact h2⟩
end
end PW
namespace PW
open PySem PySem.Spec PyProof.Rows L2
/-! ### heaps that grow -/
def Ex (H H' : Hp) : Prop := ∀ a o, H a = some o → H' a = some o
theorem Ex.refl (H : Hp) : Ex H H := fun _ _ h => h
theorem Ex.trans {H H1 H2 : Hp} (a : Ex H H1) (b : Ex H1 H2) : Ex H H2 := fun c o h => b c o (a c o h)
theorem Ex.new {H : Hp} {p : Addr} {o : HO} (h : H p = none) : Ex H (L2.upd H p o) := fun a u e => by
  rw [upd_ne (ne_of_none e h)]
  exact e
theorem Ex.newT {H H1 : Hp} {p : Addr} {o : HO} (x : Ex H H1) (h : H1 p = none) : Ex H (L2.upd H1 p o) := x.trans (Ex.new h)
theorem Ex.free {H H' : Hp} {p : Addr} (e : Ex H H') (h : H' p = none) : H p = none := Same.free e h
/-- an object that H does not know may change -/
theorem Ex.mut {H H' : Hp} {p : Addr} {o : HO} (e : Ex H H') (h : H p = none) : Ex H (L2.upd H' p o) := fun a u ha => by
  rw [upd_ne (ne_of_none ha h)]
  exact e a u ha
theorem Ex.tup {K : PySem.W.Frag} {p : Addr} {H H' : Hp} {xs : List V} (e : Ex H H') (h : SqT K H p xs) : SqT K H' p xs := by
  rcases h with (h | ⟨o, h⟩) | h
  · exact .inl (.inl (e _ _ h))
  · exact .inl (.inr ⟨o, e _ _ h⟩)
  · exact .inr h
theorem Ex.lst {K : PySem.W.Frag} {p : Addr} {H H' : Hp} {xs : List V} (e : Ex H H') (h : SqL K H p xs) : SqL K H' p xs := by
  rcases h with (h | ⟨o, h⟩) | h
  · exact .inl (.inl (e _ _ h))
  · exact .inl (.inr ⟨o, e _ _ h⟩)
  · exact .inr h
/-! ### isinstance, targets, comprehensions -/
section
variable {K : PySem.W.Frag} {H : Hp} {Q : VK} {x v : V} {n m m1 m2 : String} {b b1 b2 : Bool} {tp a : Addr} {σ : L2.St} {xs r : List V} {k : Nat}
theorem r_isi (h : TyX K H x (.type n)) (e : kitB n m = some b) (q : Q (.bl b) H) : rIsi K [x, .ty m] H Q := ⟨x, .ty m, .type n, .type m, b, rfl, .ty m, h, kit_ty e, q⟩
theorem r_isiT2 (ht : H tp = some (.tup [.ty m1, .ty m2])) (h : TyX K H x (.type n)) (e1 : kitB n m1 = some b1) (e2 : kitB n m2 = some b2) (q : Q (.bl (b1 || b2)) H) : rIsiT K [x, .ref tp] H Q := by
  refine ⟨x, tp, [.ty m1, .ty m2], .type n, [.type m1, .type m2], b1 || b2, rfl, ht, .cons (.ty m1) (.cons (.ty m2) .nil), h, ?_, q⟩
  refine kitAny_cons (kit_ty e1) (fun h1 => ?_) (fun h1 => by rw [h1]; rfl)
  rw [h1, Bool.false_or]
  exact kitAny_cons (kit_ty e2) (fun h2 => by rw [h2]; exact kitAny_nil) fun h2 => h2
theorem r_gtup {t : List V → L2.St → Hp → (L2.St → Hp → Prop) → Prop} {Q : L2.St → Hp → Prop} (h : SqT K H a xs) (l : xs.length = k) (q : t xs σ H Q) : gTup K k t (.ref a) σ H Q := ⟨a, xs, rfl, h, l, q⟩
theorem r_gcons {t : TG} {u : List V → L2.St → Hp → (L2.St → Hp → Prop) → Prop} {Q : L2.St → Hp → Prop} (q : t v σ H fun σ' H' => u r σ' H' Q) : gCons t u (v :: r) σ H Q := ⟨v, r, rfl, q⟩
theorem r_gnil {Q : L2.St → Hp → Prop} (q : Q σ H) : gNil [] σ H Q := ⟨rfl, q⟩
theorem r_yes {Q : Bool → Hp → Prop} (q : Q true H) : tYes σ H Q := q
theorem r_lc {wi : TI} {g : TG} {tt : TT} {te : L2.TE} {vs : List Nat} (h : wi σ H fun J H1 => ∀ D, H1 D = none → ∃ W : Nat → Nat → Hp → Prop, (∃ m, W 0 m (upd H1 D (.lst []))) ∧ ∀ i m H, W i m H →
  (J.stop i H ∧ Q (.ref D) H) ∨ (J.go i H ∧ ∃ Nx : Hp → Prop, (∀ H', Nx H' → ∃ m', m' < m ∧ W (i + 1) m' H') ∧ ∀ x H', J.yld i H x H' → g x (wipe σ vs) H' fun σ2 H2 => wipe σ2 vs = wipe σ vs ∧ tt σ2 H2 fun b H3 =>
    if b = true then te σ2 H3 fun y H4 => ∃ acc, H4 D = some (.lst acc) ∧ acc.length < sizeLine ∧ Nx (upd H4 D (.lst (acc ++ [y]))) else Nx H3)) : tLc wi g tt te vs σ H Q := h
theorem r_all {bs : List Bool} (h : SqL K H a (bs.map V.bl)) (q : Q (.bl (bs.all id)) H) : rAll K [.ref a] H Q := ⟨a, bs, rfl, h, q⟩
theorem r_any {bs : List Bool} (h : SqL K H a (bs.map V.bl)) (q : Q (.bl (bs.any id)) H) : rAny K [.ref a] H Q := ⟨a, bs, rfl, h, q⟩
end
theorem replicate_all (n : Nat) : (List.replicate n true).all id = true := by
  induction n with
  | zero => rfl
  | succ n ih => rw [List.replicate_succ, List.all_cons, ih]; rfl
end PW
namespace PW
open PySem PySem.Spec PyProof.Rows L2
section
variable {X : Cx} {es : List Expr} {e : Expr} {k n i : Nat} {t : TG} {u : TGs} {pos : Pos} {x : Str}
theorem pg_tupX {K : PySem.W.Frag} (hK : X.K = K) (hc : X.calm = true) (hn : (assignEach es X.env).length = n) (hst : (assignEach es X.env).findIdx? (·.1) = none) (h : PGs X es u) : PG X (.Tuple es k pos) (gTup K n u) := by
  subst hK
  exact pg_tup hc h hn hst
theorem pgs_consX (hs : (assignEach (e :: es) X.env).map (·.2) = assign e X.env :: (assignEach es X.env).map (·.2)) (h1 : PG X e t) (h2 : PGs X es u) : PGs X (e :: es) (gCons t u) := pgs_cons h1 h2 hs
theorem pg_nameX (i : Nat) (hN : X.N.Nodup) (hi : X.N[i]? = some x) (hx : Loc X.env.scope x) (hf : X.fn x = true ∨ X.env.scope.names.lookup x = some .local) : PG X (.Name x pos) (gName i) := pg_name hN hi hx hf
end
end PW
namespace PW
open L2
theorem kb_NoneType_bool : kitB "NoneType" "bool" = some false := by decide +kernel
theorem kb_NoneType_int : kitB "NoneType" "int" = some false := by decide +kernel
theorem kb_NoneType_str : kitB "NoneType" "str" = some false := by decide +kernel
theorem kb_NoneType_list : kitB "NoneType" "list" = some false := by decide +kernel
theorem kb_NoneType_tuple : kitB "NoneType" "tuple" = some false := by decide +kernel
theorem kb_NoneType_dict : kitB "NoneType" "dict" = some false := by decide +kernel
theorem kb_bool_bool : kitB "bool" "bool" = some true := by decide +kernel
theorem kb_bool_int : kitB "bool" "int" = some true := by decide +kernel
theorem kb_bool_str : kitB "bool" "str" = some false := by decide +kernel
theorem kb_bool_list : kitB "bool" "list" = some false := by decide +kernel
theorem kb_bool_tuple : kitB "bool" "tuple" = some false := by decide +kernel
theorem kb_bool_dict : kitB "bool" "dict" = some false := by decide +kernel
theorem kb_int_bool : kitB "int" "bool" = some false := by decide +kernel
theorem kb_int_int : kitB "int" "int" = some true := by decide +kernel
theorem kb_int_str : kitB "int" "str" = some false := by decide +kernel
theorem kb_int_list : kitB "int" "list" = some false := by decide +kernel
theorem kb_int_tuple : kitB "int" "tuple" = some false := by decide +kernel
theorem kb_int_dict : kitB "int" "dict" = some false := by decide +kernel
theorem kb_str_bool : kitB "str" "bool" = some false := by decide +kernel
theorem kb_str_int : kitB "str" "int" = some false := by decide +kernel
theorem kb_str_str : kitB "str" "str" = some true := by decide +kernel
theorem kb_str_list : kitB "str" "list" = some false := by decide +kernel
theorem kb_str_tuple : kitB "str" "tuple" = some false := by decide +kernel
theorem kb_str_dict : kitB "str" "dict" = some false := by decide +kernel
theorem kb_list_bool : kitB "list" "bool" = some false := by decide +kernel
theorem kb_list_int : kitB "list" "int" = some false := by decide +kernel
theorem kb_list_str : kitB "list" "str" = some false := by decide +kernel
theorem kb_list_list : kitB "list" "list" = some true := by decide +kernel
theorem kb_list_tuple : kitB "list" "tuple" = some false := by decide +kernel
theorem kb_list_dict : kitB "list" "dict" = some false := by decide +kernel
theorem kb_tuple_bool : kitB "tuple" "bool" = some false := by decide +kernel
theorem kb_tuple_int : kitB "tuple" "int" = some false := by decide +kernel
theorem kb_tuple_str : kitB "tuple" "str" = some false := by decide +kernel
theorem kb_tuple_list : kitB "tuple" "list" = some false := by decide +kernel
theorem kb_tuple_tuple : kitB "tuple" "tuple" = some true := by decide +kernel
theorem kb_tuple_dict : kitB "tuple" "dict" = some false := by decide +kernel
end PW
namespace PW
open PySem PySem.Spec PyProof.Rows L2
section
variable {H : Hp} {Q : VK} {x y : V}
theorem r_eqT (h : scal x x = true) (q : Q (.bl true) H) : rEq x x H Q := ⟨h, by rw [decide_eq_true rfl]; exact q⟩
theorem r_neT (h : scal x x = true) (q : Q (.bl false) H) : rNe x x H Q := ⟨h, by rw [decide_eq_true rfl]; exact q⟩
theorem r_eqF (h : scal x y = true) (n : ¬ x = y) (q : Q (.bl false) H) : rEq x y H Q := ⟨h, by rw [decide_eq_false n]; exact q⟩
theorem r_neF (h : scal x y = true) (n : ¬ x = y) (q : Q (.bl true) H) : rNe x y H Q := ⟨h, by rw [decide_eq_false n]; exact q⟩
end
end PW
namespace PW
open PySem PySem.Spec PyProof.Rows L2
theorem walk_zipT {K : PySem.W.Frag} {a b : Addr} {xs ys : List V} {n : Nat} (hn : n = min xs.length ys.length) : Walk (RZ.ItzT K a b) n (fun H => SqT K H a xs ∧ SqT K H b ys) (YPair (fun i => xs[i]?) (fun i => ys[i]?)) := by
  subst hn
  refine ⟨fun i _ hi q => ?_, fun _ q => ⟨xs, ys, q.1, q.2, by omega⟩, fun i H v H' _ q y => ?_⟩
  · have h1 : i < xs.length := by omega
    have h2 : i < ys.length := by omega
    exact ⟨xs, ys, xs[i], ys[i], q.1, q.2, by simp [h1], by simp [h2]⟩
  · obtain ⟨T, x, z, h1, h2, h3, h4, h5⟩ := y
    exact ⟨T, x, z, h1, h2, h3, h4 xs q.1, h5 ys q.2⟩
/-- a comprehension's turns over J, the new list at D -/
def LcW (J : It) (g : TG) (tt : TT) (te : L2.TE) (vs : List Nat) (σ : L2.St) (H1 : Hp) (D : Addr) (Qd : Hp → Prop) : Prop :=
  ∃ W : Nat → Nat → Hp → Prop, (∃ m, W 0 m (upd H1 D (.lst []))) ∧ ∀ i m H, W i m H →
      (J.stop i H ∧ Qd H) ∨ (J.go i H ∧ ∃ Nx : Hp → Prop, (∀ H', Nx H' → ∃ m', m' < m ∧ W (i + 1) m' H') ∧ ∀ x H', J.yld i H x H' → g x (wipe σ vs) H' fun σ2 H2 => wipe σ2 vs = wipe σ vs ∧ tt σ2 H2 fun b H3 =>
        if b = true then te σ2 H3 fun y H4 => ∃ acc, H4 D = some (.lst acc) ∧ acc.length < sizeLine ∧ Nx (upd H4 D (.lst (acc ++ [y]))) else Nx H3)
/-- the heap without what stands at D -/
def hide (H : Hp) (D : Addr) : Hp := fun a => if a = D then none else H a
theorem hide_ne {H : Hp} {D a : Addr} (h : a ≠ D) : hide H D a = H a := by unfold hide; rw [if_neg h]
theorem hide_same {H : Hp} {D : Addr} : hide H D D = none := by unfold hide; rw [if_pos rfl]
theorem Ex.hide (H : Hp) (D : Addr) : Ex (hide H D) H := fun a o h => by
  by_cases e : a = D
  · subst e
    rw [hide_same] at h
    cases h
  · rw [hide_ne e] at h
    exact h
theorem hide_upd {H : Hp} {D : Addr} {o : HO} : hide (L2.upd H D o) D = hide H D := by
  funext a
  unfold PW.hide
  by_cases e : a = D
  · rw [if_pos e, if_pos e]
  · rw [if_neg e, if_neg e, upd_ne e]
theorem Ex.hides {H H' : Hp} (e : Ex H H') (D : Addr) : Ex (PW.hide H D) (PW.hide H' D) := fun a o h => by
  by_cases q : a = D
  · subst q
    rw [hide_same] at h
    cases h
  · rw [hide_ne q] at h ⊢
    exact e a o h
/-- .. over a walk whose place stays while the heap grows; no test; each element is told by E (of the heap without the new list) and leaves what was tracked -/
theorem lc_grow {J : It} {n : Nat} {G : Hp → Prop} {Y : Nat → Hp → V → Hp → Prop} (w : Walk J n G Y) {g : TG} {te : L2.TE} {vs : List Nat} {σ : L2.St} {H1 : Hp} {D : Addr} {Qd : Hp → Prop} {σw : L2.St} (hw : wipe σ vs = σw) (E : Nat → Hp → V → Prop) (hD : H1 D = none) (hn : n ≤ 100000)
    (hG : ∀ H, Ex H1 H → G H) (hE : ∀ i H H' v, Ex H H' → E i H v → E i H' v)
    (hs : ∀ i x H H' acc (R : VK), i < n → Ex H1 H → H D = some (.lst acc) → Y i H x H' → (∀ v H4, E i (hide H4 D) v → Ex H H4 → R v H4) → g x σw H' fun σ2 H2 => wipe σ2 vs = σw ∧ te σ2 H2 R)
    (hd : ∀ H acc, Ex H1 H → H D = some (.lst acc) → acc.length = n → (∀ i v, acc[i]? = some v → E i (hide H D) v) → Qd H) : LcW J g tYes te vs σ H1 D Qd := by
  subst hw
  refine lc_it w (fun i H => Ex H1 H ∧ ∃ acc, H D = some (.lst acc) ∧ acc.length = i ∧ ∀ j v, acc[j]? = some v → E j (hide H D) v) ?_ (fun i H _ p => hG H p.1) ?_ ?_
  · exact ⟨Ex.new hD, [], upd_same, rfl, fun j v e => by simp at e⟩
  · rintro i x H H' hi ⟨p, acc, ha, hl, hE2⟩ y
    refine hs i x H H' acc _ hi p ha y fun v H4 e x4 => ?_
    refine ⟨acc, x4 _ _ ha, Nat.lt_of_lt_of_le (show acc.length < 100001 by omega) (by decide), (p.trans x4).mut hD, acc ++ [v], upd_same, by rw [List.length_append, hl]; rfl, fun j u hj => ?_⟩
    rw [hide_upd]
    by_cases h : j < acc.length
    · rw [List.getElem?_append_left h] at hj
      exact hE j _ _ u (x4.hides D) (hE2 j u hj)
    · have hj2 : j = acc.length := by
        have h3 : j < (acc ++ [v]).length := (List.getElem?_eq_some_iff.mp hj).1
        rw [List.length_append] at h3
        have h4 : [v].length = 1 := rfl
        omega
      subst hj2
      rw [List.getElem?_append_right (Nat.le_refl _), Nat.sub_self] at hj
      injection hj with hj
      subst hj
      rw [hl]
      exact e
  · rintro H ⟨p, acc, ha, hl, hE2⟩
    exact hd H acc p ha hl hE2
/-- a list of truths -/
theorem all_true {acc : List V} (h : ∀ (i : Nat) v, acc[i]? = some v → v = .bl true) : acc = (List.replicate acc.length true).map V.bl := by
  refine List.ext_getElem? fun i => ?_
  rw [List.getElem?_map, List.getElem?_replicate]
  cases e : acc[i]? with
  | none => rw [if_neg (by have := List.getElem?_eq_none_iff.mp e; omega)]; rfl
  | some v => rw [if_pos (List.getElem?_eq_some_iff.mp e).1, h i v e]; rfl
end PW
namespace PW
open PySem PySem.Spec PyProof.Rows L2
/-! ### unlike kinds -/
def vKind : V → Nat
  | .non => 0
  | .bl _ => 1
  | .int _ => 2
  | .str _ => 3
  | .byt _ => 4
  | .flt _ => 5
  | .ref _ => 6
  | .ty _ => 7
theorem vne {x y : V} (h : (vKind x == vKind y) = false) : ¬ x = y := fun e => by
  subst e
  rw [beq_self_eq_true] at h
  cases h
theorem dec_self {α : Type} {x : α} [Decidable (x = x)] : decide (x = x) = true := decide_eq_true rfl
theorem dec_kind {x y : V} (h : (vKind x == vKind y) = false) : decide (x = y) = false := decide_eq_false (vne h)
theorem ndec_self {α : Type} {x : α} [Decidable (x = x)] : (!decide (x = x)) = false := by rw [dec_self]; rfl
theorem ndec_kind {x y : V} (h : (vKind x == vKind y) = false) : (!decide (x = y)) = true := by rw [dec_kind h]; rfl
def hoKind : HO → Nat
  | .lst _ => 0
  | .tup _ => 1
  | .dK _ => 2
  | .dT _ => 3
  | .set _ _ => 4
  | .ins _ _ _ => 5
  | .own _ => 6
  | .xd _ => 7
  | .met _ _ => 8
  | .rng _ _ => 9
  | .frz _ _ => 10
  | .tbl _ => 11
  | .ext _ => 12
theorem ne_ofK {H : Hp} {a b : Addr} {o u : HO} (h : H a = some o) (h' : H b = some u) (k : (hoKind o == hoKind u) = false) : a ≠ b := ne_of h h' fun e => by
  subst e
  rw [beq_self_eq_true] at k
  cases k
end PW
namespace PW
open PySem PySem.Spec PyProof.Rows L2
section
variable {K : PySem.W.Frag} {tA : TA} {te : L2.TE} {σ : L2.St} {H : Hp} {R : It → Hp → Prop}
theorem r_iZip (h : tA σ H fun vs H1 => ∃ a b xs ys, vs = [.ref a, .ref b] ∧ ((SqL K H1 a xs ∧ SqL K H1 b ys ∧ R (Itz K a b) H1) ∨ (SqT K H1 a xs ∧ SqT K H1 b ys ∧ R (RZ.ItzT K a b) H1))) : RZ.iZipA K tA σ H R := h
theorem r_iRng1 (h : tA σ H fun vs H1 => ∃ j : Int, vs = [.int j] ∧ -(2 ^ 62) ≤ j ∧ j < 2 ^ 62 ∧ R (Itr 0 j.toNat) H1) : iRng1 tA σ H R := h
theorem r_iRng2 (h : tA σ H fun vs H1 => ∃ i j : Int, vs = [.int i, .int j] ∧ (-(2 ^ 62) ≤ i ∧ i < 2 ^ 62 ∧ -(2 ^ 62) ≤ j ∧ j < 2 ^ 62) ∧ R (Itr i (j - i).toNat) H1) : iRng2 tA σ H R := h
theorem r_iStr (h : te σ H fun v H1 => ∃ x, v = .str x ∧ R (Its x) H1) : iStr te σ H R := h
theorem r_iList (h : te σ H fun x H1 => ∃ a, x = .ref a ∧ (∃ xs, SqL K H1 a xs) ∧ R (Itl K a) H1) : iList K te σ H R := h
theorem r_iTup (h : te σ H fun x H1 => ∃ a, x = .ref a ∧ (∃ xs, SqT K H1 a xs) ∧ R (Itt K a) H1) : iTup K te σ H R := h
theorem r_iEnum (h : tA σ H fun vs H1 => ∃ a xs, vs = [.ref a] ∧ SqL K H1 a xs ∧ R (Ite K a) H1) : iEnum K tA σ H R := h
theorem r_for {wi : TI} {g : TG} {tb : TS} {D : Ends} (h : wi σ H fun J H1 => ∃ W : Nat → Nat → L2.St → Hp → Prop, (∃ m, W 0 m σ H1) ∧ ∀ i m σ H, W i m σ H →
  (J.stop i H ∧ D.nx σ H) ∨ (J.go i H ∧ ∃ N : L2.St → Hp → Prop, (∀ σ' H', N σ' H' → ∃ m', m' < m ∧ W (i + 1) m' σ' H') ∧ ∀ x H', J.yld i H x H' → g x σ H' fun σ2 H2 => tb { D with nx := N, ct := N, bk := D.nx } σ2 H2)) : tFor wi g tb D σ H := h
end
end PW
/-! ### one step of a reading, by instances -/
namespace PW
open PySem PySem.Spec PyProof.Rows L2
class Step (g : Prop) (n : outParam Prop) : Prop where
  imp : n → g
class Get (σ : List (Option V)) (n : Nat) (v : outParam V) : Prop where
  eq : σ[n]? = some (some v)
instance {v : V} {r : List (Option V)} : Get (some v :: r) 0 v := ⟨rfl⟩
instance {x : Option V} {r : List (Option V)} {n : Nat} {v : V} [h : Get r n v] : Get (x :: r) (n + 1) v := ⟨h.eq⟩
class Put (σ : List (Option V)) (n : Nat) (v : V) (τ : outParam (List (Option V))) : Prop where
  eq : σ.set n (some v) = τ
instance {v : V} {x : Option V} {r : List (Option V)} : Put (x :: r) 0 v (some v :: r) := ⟨rfl⟩
instance {x : Option V} {r τ : List (Option V)} {n : Nat} {v : V} [h : Put r n v τ] : Put (x :: r) (n + 1) v (x :: τ) := ⟨by rw [List.set_cons_succ, h.eq]⟩
class Scal (x y : V) : Prop where
  eq : scal x y = true
instance {i j : Int} : Scal (.int i) (.int j) := ⟨rfl⟩
instance {i j : Bool} : Scal (.bl i) (.bl j) := ⟨rfl⟩
instance {i j : Str} : Scal (.str i) (.str j) := ⟨rfl⟩
section
variable {σ τ : L2.St} {H : Hp} {Q : VK} {D : Ends} {v x y : V} {i j : Int} {n m : Nat} {ta tb tc te : L2.TE} {t u : TT} {s1 s2 : TS} {r r' : R2} {K : PySem.W.Frag} {tA tR : TA}
instance [h : Get σ n v] : Step (tVar n σ H Q) (Q v H) := ⟨fun q => ⟨v, h.eq, q⟩⟩
instance : Step (tC v σ H Q) (Q v H) := ⟨id⟩
instance : Step (tOp r ta tb σ H Q) (ta σ H fun x H1 => tb σ H1 fun y H2 => r x y H2 Q) := ⟨id⟩
instance {r : V → Hp → VK → Prop} : Step (tUn r ta σ H Q) (ta σ H fun x H1 => r x H1 Q) := ⟨id⟩
instance : Step (tChain r r' ta tb tc σ H Q) (ta σ H fun x H1 => tb σ H1 fun y H2 => r x y H2 fun z H3 => ∃ k, z = .bl k ∧ (if k = true then tc σ H3 fun w' H4 => r' y w' H4 Q else Q (.bl false) H3)) := ⟨id⟩
instance {Q : Bool → Hp → Prop} : Step (tTest te σ H Q) (te σ H fun x H' => ∃ k, x = .bl k ∧ Q k H') := ⟨id⟩
instance {Q : Bool → Hp → Prop} : Step (tB te σ H Q) (te σ H fun x H' => ∃ k, x = .bl k ∧ Q k H') := ⟨id⟩
instance {b : Bool} {Q : Bool → Prop} : Step (∃ k, V.bl b = .bl k ∧ Q k) (Q b) := ⟨fun q => ⟨b, rfl, q⟩⟩
instance {Q : Int → Prop} : Step (∃ k, V.int i = .int k ∧ Q k) (Q i) := ⟨fun q => ⟨i, rfl, q⟩⟩
instance {z : Str} {Q : Str → Prop} : Step (∃ k, V.str z = .str k ∧ Q k) (Q z) := ⟨fun q => ⟨z, rfl, q⟩⟩
instance {Q : Bool → Hp → Prop} : Step (tNot t σ H Q) (t σ H fun c H1 => Q (!c) H1) := ⟨id⟩
instance {Q : Bool → Hp → Prop} : Step (tAnd t u σ H Q) (t σ H fun c H1 => if c = true then u σ H1 Q else Q false H1) := ⟨id⟩
instance {Q : Bool → Hp → Prop} : Step (tOr t u σ H Q) (t σ H fun c H1 => if c = true then Q true H1 else u σ H1 Q) := ⟨id⟩
instance : Step (tAndV ta tb σ H Q) (ta σ H fun x H1 => ∃ c, x = .bl c ∧ if c = true then tb σ H1 Q else Q (.bl false) H1) := ⟨id⟩
instance : Step (tOrV ta tb σ H Q) (ta σ H fun x H1 => ∃ c, x = .bl c ∧ if c = true then Q (.bl true) H1 else tb σ H1 Q) := ⟨id⟩
instance : Step (tNotV ta σ H Q) (ta σ H fun x H1 => ∃ c, x = .bl c ∧ Q (.bl (!c)) H1) := ⟨id⟩
instance : Step (tIsN ta σ H Q) (ta σ H fun x H1 => Q (.bl (decide (x = .non))) H1) := ⟨id⟩
instance : Step (tNotN ta σ H Q) (ta σ H fun x H1 => Q (.bl (!decide (x = .non))) H1) := ⟨id⟩
instance : Step (tIf t ta tb σ H Q) (t σ H fun c H1 => if c = true then ta σ H1 Q else tb σ H1 Q) := ⟨id⟩
instance : Step (tIfS t s1 s2 D σ H) (t σ H fun b H1 => if b = true then s1 D σ H1 else s2 D σ H1) := ⟨id⟩
instance : Step (tSeq s1 s2 D σ H) (s1 { D with nx := s2 D } σ H) := ⟨id⟩
instance : Step (tNext D σ H) (D.nx σ H) := ⟨id⟩
instance : Step (tBreak D σ H) (D.bk σ H) := ⟨id⟩
instance : Step (tCont D σ H) (D.ct σ H) := ⟨id⟩
instance : Step (tRet te D σ H) (te σ H D.rt) := ⟨id⟩
instance : Step (tRetN D σ H) (D.rt .non H) := ⟨id⟩
instance : Step (tDrop te D σ H) (te σ H fun _ H1 => D.nx σ H1) := ⟨id⟩
instance {g : TG} : Step (tAsg te g D σ H) (te σ H fun x H1 => g x σ H1 D.nx) := ⟨id⟩
instance {Q : L2.St → Hp → Prop} [h : Put σ n v τ] : Step (gName n v σ H Q) (Q τ H) := ⟨fun q => by
  show Q (σ.set n (some v)) H
  rw [h.eq]
  exact q⟩
instance {to ti : L2.TE} {ts : TSet} {Q : L2.St → Hp → Prop} : Step (gSub to ti ts v σ H Q) (to σ H fun o H1 => ti σ H1 fun i H2 => ts o i v H2 fun H3 => Q σ H3) := ⟨id⟩
instance {ti : TIp} [h : Get σ n x] : Step (tAug n te ti D σ H) (te σ H fun y H1 => ti x y H1 fun z H2 => D.nx (σ.set n (some z)) H2) := ⟨fun q => ⟨x, h.eq, q⟩⟩
instance {g : Int → Int → Int} : Step (ipI g (.int i) (.int j) H Q) (Q (.int (g i j)) H) := ⟨fun q => ⟨i, j, rfl, rfl, q⟩⟩
instance {Q : List V → Hp → Prop} : Step (tNil σ H Q) (Q [] H) := ⟨id⟩
instance {Q : List V → Hp → Prop} : Step (tCons ta tR σ H Q) (ta σ H fun x H1 => tR σ H1 fun xs H2 => Q (x :: xs) H2) := ⟨id⟩
instance {r : List V → Hp → VK → Prop} : Step (tCB r tA σ H Q) (tA σ H fun vs H1 => r vs H1 Q) := ⟨id⟩
instance {sp : Sp} {dvs : List V} {E : XK} : Step (tCall sp dvs E tA σ H Q) (tA σ H fun vs H1 => sp (vs ++ dvs) H1 Q E) := ⟨id⟩
instance {g : Int → Int → V} : Step (rI0 g (.int i) (.int j) H Q) (Q (g i j) H) := ⟨fun q => ⟨i, j, rfl, rfl, q⟩⟩
instance {g : Int → V} : Step (rU g (.int i) H Q) (Q (g i) H) := ⟨fun q => ⟨i, rfl, q⟩⟩
instance (priority := high) [s : Scal x x] : Step (rEq x x H Q) (Q (.bl true) H) := ⟨r_eqT s.eq⟩
instance (priority := high) [s : Scal x x] : Step (rNe x x H Q) (Q (.bl false) H) := ⟨r_neT s.eq⟩
instance [s : Scal x y] : Step (rEq x y H Q) (Q (.bl (decide (x = y))) H) := ⟨fun q => ⟨s.eq, q⟩⟩
instance [s : Scal x y] : Step (rNe x y H Q) (Q (.bl (!decide (x = y))) H) := ⟨fun q => ⟨s.eq, q⟩⟩
instance : Step (tLst tA σ H Q) (tA σ H fun xs H1 => xs.length ≤ sizeLine ∧ ∀ p, H1 p = none → Q (.ref p) (upd H1 p (.lst xs))) := ⟨id⟩
instance : Step (tTup tA σ H Q) (tA σ H fun xs H1 => xs.length ≤ sizeLine ∧ ∀ p, H1 p = none → Q (.ref p) (upd H1 p (.tup xs))) := ⟨id⟩
instance {A B : Prop} : Step (if true = true then A else B) A := ⟨r_ifT⟩
instance {A B : Prop} : Step (if false = true then A else B) B := ⟨r_ifF⟩
instance : Step (cInt [.int i] H Q) (Q (.int i) H) := ⟨r_cInt⟩
instance : Step (cAbs [.int i] H Q) (Q (.int (if i < 0 then -i else i)) H) := ⟨r_cAbs⟩
instance : Step (cMax [.int i, .int j] H Q) (Q (.int (if j > i then j else i)) H) := ⟨r_cMax⟩
instance : Step (cMin [.int i, .int j] H Q) (Q (.int (if j < i then j else i)) H) := ⟨r_cMin⟩
instance {Q : Option Int → Hp → Prop} : Step (tPart te σ H Q) (te σ H fun x H1 => ∃ i, x = .int i ∧ Q (some i) H1) := ⟨id⟩
instance {Q : Option Int → Hp → Prop} : Step (tNoPart σ H Q) (Q none H) := ⟨id⟩
instance {rs : V → Option Int → Option Int → Hp → VK → Prop} {tl th : TO} : Step (tSl rs te tl th σ H Q) (te σ H fun x H1 => tl σ H1 fun l H2 => th σ H2 fun u H3 => rs x l u H3 Q) := ⟨id⟩
instance {t : TG} {u : TGs} {l : List V} {Q : L2.St → Hp → Prop} : Step (gCons t u (v :: l) σ H Q) (t v σ H fun σ' H' => u l σ' H' Q) := ⟨r_gcons⟩
instance {Q : L2.St → Hp → Prop} : Step (gNil [] σ H Q) (Q σ H) := ⟨r_gnil⟩
instance {Q : Bool → Hp → Prop} : Step (tYes σ H Q) (Q true H) := ⟨id⟩
instance {wi : TI} {g : TG} {tt : TT} {vs : List Nat} : Step (tLc wi g tt te vs σ H Q) (wi σ H fun J H1 => ∀ D, H1 D = none → LcW J g tt te vs σ H1 D (fun H => Q (.ref D) H)) := ⟨id⟩
instance {R : It → Hp → Prop} : Step (RZ.iZipA K tA σ H R) (tA σ H fun vs H1 => ∃ a b xs ys, vs = [.ref a, .ref b] ∧ ((SqL K H1 a xs ∧ SqL K H1 b ys ∧ R (Itz K a b) H1) ∨ (SqT K H1 a xs ∧ SqT K H1 b ys ∧ R (RZ.ItzT K a b) H1))) := ⟨id⟩
def Rng1 (vs : List V) (H : Hp) (R : It → Hp → Prop) : Prop := ∃ j : Int, vs = [.int j] ∧ -(2 ^ 62) ≤ j ∧ j < 2 ^ 62 ∧ R (Itr 0 j.toNat) H
instance {R : It → Hp → Prop} : Step (iRng1 tA σ H R) (tA σ H fun vs H1 => Rng1 vs H1 R) := ⟨id⟩
def Rng2 (vs : List V) (H : Hp) (R : It → Hp → Prop) : Prop := ∃ i j : Int, vs = [.int i, .int j] ∧ (-(2 ^ 62) ≤ i ∧ i < 2 ^ 62 ∧ -(2 ^ 62) ≤ j ∧ j < 2 ^ 62) ∧ R (Itr i (j - i).toNat) H
instance {R : It → Hp → Prop} : Step (iRng2 tA σ H R) (tA σ H fun vs H1 => Rng2 vs H1 R) := ⟨id⟩
instance {R : It → Hp → Prop} : Step (iStr te σ H R) (te σ H fun v H1 => ∃ x, v = .str x ∧ R (Its x) H1) := ⟨id⟩
def WkL (K : PySem.W.Frag) (x : V) (H : Hp) (R : It → Hp → Prop) : Prop := ∃ a, x = .ref a ∧ (∃ xs, SqL K H a xs) ∧ R (Itl K a) H
instance {R : It → Hp → Prop} : Step (iList K te σ H R) (te σ H fun x H1 => WkL K x H1 R) := ⟨id⟩
def WkT (K : PySem.W.Frag) (x : V) (H : Hp) (R : It → Hp → Prop) : Prop := ∃ a, x = .ref a ∧ (∃ xs, SqT K H a xs) ∧ R (Itt K a) H
instance {R : It → Hp → Prop} : Step (iTup K te σ H R) (te σ H fun x H1 => WkT K x H1 R) := ⟨id⟩
def WkE (K : PySem.W.Frag) (vs : List V) (H : Hp) (R : It → Hp → Prop) : Prop := ∃ a xs, vs = [.ref a] ∧ SqL K H a xs ∧ R (Ite K a) H
instance {R : It → Hp → Prop} : Step (iEnum K tA σ H R) (tA σ H fun vs H1 => WkE K vs H1 R) := ⟨id⟩
/-- a for's turns over J -/
def ForW (J : It) (g : TG) (tb : TS) (D : Ends) (σ : L2.St) (H : Hp) : Prop := ∃ W : Nat → Nat → L2.St → Hp → Prop, (∃ m, W 0 m σ H) ∧ ∀ i m σ H, W i m σ H →
  (J.stop i H ∧ D.nx σ H) ∨ (J.go i H ∧ ∃ N : L2.St → Hp → Prop, (∀ σ' H', N σ' H' → ∃ m', m' < m ∧ W (i + 1) m' σ' H') ∧ ∀ x H', J.yld i H x H' → g x σ H' fun σ2 H2 => tb { D with nx := N, ct := N, bk := D.nx } σ2 H2)
instance {wi : TI} {g : TG} {tb : TS} : Step (tFor wi g tb D σ H) (wi σ H fun J H1 => ForW J g tb D σ H1) := ⟨id⟩
theorem rng1 {R : It → Hp → Prop} (h0 : -(2 ^ 62) ≤ j) (h1 : j < 2 ^ 62) (q : R (Itr 0 j.toNat) H) : Rng1 [.int j] H R := ⟨j, rfl, h0, h1, q⟩
theorem rng2 {R : It → Hp → Prop} (h0 : -(2 ^ 62) ≤ i) (h1 : i < 2 ^ 62) (h2 : -(2 ^ 62) ≤ j) (h3 : j < 2 ^ 62) (q : R (Itr i (j - i).toNat) H) : Rng2 [.int i, .int j] H R := ⟨i, j, rfl, ⟨h0, h1, h2, h3⟩, q⟩
theorem wkL {R : It → Hp → Prop} {a : Addr} {xs : List V} (h : SqL K H a xs) (q : R (Itl K a) H) : WkL K (.ref a) H R := ⟨a, rfl, ⟨xs, h⟩, q⟩
theorem wkT {R : It → Hp → Prop} {a : Addr} {xs : List V} (h : SqT K H a xs) (q : R (Itt K a) H) : WkT K (.ref a) H R := ⟨a, rfl, ⟨xs, h⟩, q⟩
theorem wkE {R : It → Hp → Prop} {a : Addr} {xs : List V} (h : SqL K H a xs) (q : R (Ite K a) H) : WkE K [.ref a] H R := ⟨a, xs, rfl, h, q⟩
end
end PW
namespace PW
open PySem PySem.Spec PyProof.Rows L2
section
variable {H : Hp} {Q : VK} {x : V} {c : Nat} {z : Str} {p : Addr} {xs : List V} {K : PySem.W.Frag}
instance : Step (rInS (.str ⟨#[c]⟩) (.str z) H Q) (Q (.bl (decide (c ∈ z.cps.toList))) H) := ⟨fun q => ⟨c, z, rfl, rfl, q⟩⟩
instance : Step (rNotInS (.str ⟨#[c]⟩) (.str z) H Q) (Q (.bl (!decide (c ∈ z.cps.toList))) H) := ⟨fun q => ⟨c, z, rfl, rfl, q⟩⟩
theorem r_inT (h : SqT K H p xs) (fx : flatV x = true) (fs : xs.all flatV = true) (q : Q (.bl (inV x xs)) H) : rIn K false x (.ref p) H Q := ⟨p, xs, rfl, .inr h, fx, fs, q⟩
theorem r_inL (h : SqL K H p xs) (fx : flatV x = true) (fs : xs.all flatV = true) (q : Q (.bl (inV x xs)) H) : rIn K false x (.ref p) H Q := ⟨p, xs, rfl, .inl h, fx, fs, q⟩
theorem r_ninT (h : SqT K H p xs) (fx : flatV x = true) (fs : xs.all flatV = true) (q : Q (.bl (!inV x xs)) H) : rIn K true x (.ref p) H Q := ⟨p, xs, rfl, .inr h, fx, fs, q⟩
theorem r_ninL (h : SqL K H p xs) (fx : flatV x = true) (fs : xs.all flatV = true) (q : Q (.bl (!inV x xs)) H) : rIn K true x (.ref p) H Q := ⟨p, xs, rfl, .inl h, fx, fs, q⟩
theorem acc_map {α : Type} {acc : List V} {l : List α} {f : α → V} (hl : acc.length = l.length) (h : ∀ (i : Nat) v, acc[i]? = some v → ∃ a, l[i]? = some a ∧ v = f a) : acc = l.map f := by
  refine List.ext_getElem? fun i => ?_
  rw [List.getElem?_map]
  cases e : acc[i]? with
  | none =>
    have h1 := List.getElem?_eq_none_iff.mp e
    rw [List.getElem?_eq_none_iff.mpr (show l.length ≤ i by omega)]
    rfl
  | some v =>
    obtain ⟨a, h1, h2⟩ := h i v e
    rw [h1, h2]
    rfl
end
end PW
namespace PW
open PySem PySem.Spec PyProof.Rows L2
/-! ### calls by keywords, the place of the arguments kept -/
section
variable {X : Cx} {CX : CXT} {k n : Nat} {f : Addr} {fd : FuncData} {ps ks : List Str} {sp : Sp} {E : XK} {x qual : Str} {p pos : Pos} {kws : List Keyword} {tk : TA} {g : List Value → List Value → List Value} {gV : List V → List V → List V}
theorem pe_callN0 (F : FnOk X.prog X.w X.K X.mg X.base CX k f fd ps sp) (hr : Room k X.A) (hg : Gl X x) (hm : X.mg x = some (.ref f)) (hk : PySem.W.keepIn X.K (.ref f) = true) (hb : KBn X.K fd ps 0 ks g gV) (hx : Passes CX X E)
    (hkw : PK X kws tk) (hall : (backToKw pos (keywordEach kws X.env)).all (·.1.isSome) = true := by rfl) (hks : (backToKw pos (keywordEach kws X.env)).filterMap (·.1) = ks := by rfl)
    (hdb : (x == ("__debug__" : Str)) = false := by decide) (hpl : ((backTo pos (starEach [] X.env)).any (·.1) || (backToKw pos (keywordEach kws X.env)).any (·.1.isNone)) = false := by rfl) :
    PE X (.Call (.Name x p) [] kws pos) (tCallN 0 ks.length sp gV E tNil tk) := by
  refine ⟨fun pins s σ H Q I h => ?_⟩
  refine wpAny_Call_Name_kw (ld_glob I hg hm ?_ hdb)
  refine PySem.W.callWith_KW0 (h₀ := X.base) I.ok.mod.kin hk hall ?_ hpl
  refine thn (hkw.run pos pins s σ H _ I h) fun ws s2 ⟨zs, H2, I2, rz, l1, l2, q2⟩ => ⟨I2.kIn, ?_⟩
  rw [hks]
  exact run_fnN (us := []) (vs := []) F hr hb hx I2 .nil rz rfl l2 q2
theorem kbn_app {K : PySem.W.Frag} {params : Arguments} {body : List Stmt} {scope : Scope} {kws : List (Str × V)} (F : FunD K x qual params body scope [] kws f fd) (n : Nat) (ks : List Str)
    (h : ∀ (kV doc pm : Value) (an : Option Addr) (cdv ct : Value) (us ws : List Value), us.length = n → ws.length = ks.length → bindArgs (PySem.W.fnOf x qual params body scope .none kV doc pm an cdv ct) ⟨us, ks.zip ws⟩ = pure (ps.zip (us ++ ws))) :
    KBn K fd ps n ks (fun us ws => us ++ ws) (fun vs zs => vs ++ zs) := by
  obtain ⟨oc, od, dV, kV, doc, pm, an, cdv, ct, osl, rfl, lk, hcd, hD, hK⟩ := F.ex
  rcases hD with ⟨_, rfl⟩ | ⟨e, _⟩
  · exact ⟨fun s us ws _ l1 l2 => .of_eq (h kV doc pm an cdv ct us ws l1 l2), fun r1 r2 => r1.append r2⟩
  · exact absurd rfl e
end
section
variable {σ : L2.St} {H : Hp} {Q : VK} {n m : Nat} {sp : Sp} {gV : List V → List V → List V} {E : XK} {t tk : TA}
instance : Step (tCallN n m sp gV E t tk σ H Q) (t σ H fun vs H1 => tk σ H1 fun zs H2 => vs.length = n ∧ zs.length = m ∧ sp (gV vs zs) H2 Q E) := ⟨id⟩
end
/-- a comprehension under an invariant of the heap that the new list does not touch; elements told apart from the heap -/
theorem lc_inv {J : It} {n : Nat} {G : Hp → Prop} {Y : Nat → Hp → V → Hp → Prop} (w : Walk J n G Y) {g : TG} {te : L2.TE} {vs : List Nat} {σ : L2.St} {H1 : Hp} {D : Addr} {Qd : Hp → Prop} {σw : L2.St} (hw : wipe σ vs = σw) (I : Hp → Prop) (E : Nat → V → Prop) (hD : H1 D = none) (hn : n ≤ 100000)
    (h0 : I (upd H1 D (.lst []))) (hG : ∀ H, I H → G H)
    (hs : ∀ i x H H' acc (R : VK), i < n → I H → H D = some (.lst acc) → Y i H x H' → (∀ v H4, E i v → H4 D = some (.lst acc) → I (upd H4 D (.lst (acc ++ [v]))) → R v H4) → g x σw H' fun σ2 H2 => wipe σ2 vs = σw ∧ te σ2 H2 R)
    (hd : ∀ H acc, I H → H D = some (.lst acc) → acc.length = n → (∀ i v, acc[i]? = some v → E i v) → Qd H) : LcW J g tYes te vs σ H1 D Qd := by
  subst hw
  refine lc_it w (fun i H => I H ∧ ∃ acc, H D = some (.lst acc) ∧ acc.length = i ∧ ∀ j v, acc[j]? = some v → E j v) ?_ (fun i H _ p => hG H p.1) ?_ ?_
  · exact ⟨h0, [], upd_same, rfl, fun j v e => by simp at e⟩
  · rintro i x H H' hi ⟨p, acc, ha, hl, hE2⟩ y
    refine hs i x H H' acc _ hi p ha y fun v H4 e x4 hI => ?_
    refine ⟨acc, x4, Nat.lt_of_lt_of_le (show acc.length < 100001 by omega) (by decide), hI, acc ++ [v], upd_same, by rw [List.length_append, hl]; rfl, fun j u hj => ?_⟩
    by_cases h : j < acc.length
    · rw [List.getElem?_append_left h] at hj
      exact hE2 j u hj
    · have hj2 : j = acc.length := by
        have h3 : j < (acc ++ [v]).length := (List.getElem?_eq_some_iff.mp hj).1
        rw [List.length_append] at h3
        have h4 : [v].length = 1 := rfl
        omega
      subst hj2
      rw [List.getElem?_append_right (Nat.le_refl _), Nat.sub_self] at hj
      injection hj with hj
      subst hj
      rw [hl]
      exact e
  · rintro H ⟨p, acc, ha, hl, hE2⟩
    exact hd H acc p ha hl hE2
theorem r_and3 {A B C : Prop} (a : A) (b : B) (c : C) : A ∧ B ∧ C := ⟨a, b, c⟩
end PW
namespace PW
open PySem PySem.Spec PyProof.Rows L2
section
variable {z : Str} {R : Prop} {to te : L2.TE} {σ : L2.St} {H : Hp} {Q : VK} {r : V → List V → Hp → VK → Prop}
instance : Step ((∃ a, V.str z = .str a) ∧ R) R := ⟨fun q => ⟨⟨z, rfl⟩, q⟩⟩
instance : Step (tM1 r to te σ H Q) (to σ H fun x H1 => (∃ a, x = .str a) ∧ te σ H1 fun y H2 => r x [y] H2 Q) := ⟨id⟩
instance : Step (tM0 r to σ H Q) (to σ H fun x H1 => (∃ a, x = .str a) ∧ r x [] H1 Q) := ⟨id⟩
end
theorem cutS_len (z : Str) (lo hi : Option Int) : (cutS z lo hi).length ≤ z.length := by
  show (List.toArray _).size ≤ z.cps.size
  rw [List.size_toArray, List.length_take, List.length_drop]
  have : z.cps.toList.length = z.cps.size := by simp
  omega
theorem add_len (y z : Str) : (y ++ z).length = y.length + z.length := by
  show (y.cps ++ z.cps).size = _
  rw [Array.size_append]
  rfl
/-- a list whose items are told one by one -/
theorem acc_exists {α : Type} {g : α → V} {p : α → Prop} : ∀ {acc : List V}, (∀ (i : Nat) v, acc[i]? = some v → ∃ a, v = g a ∧ p a) → ∃ l : List α, acc = l.map g ∧ l.length = acc.length ∧ ∀ a ∈ l, p a
  | [], _ => ⟨[], rfl, rfl, fun _ h => by cases h⟩
  | x :: r, h => by
    obtain ⟨a, e, pa⟩ := h 0 x rfl
    obtain ⟨l, e2, hl, pl⟩ := acc_exists (acc := r) fun i v hv => h (i + 1) v (by rw [List.getElem?_cons_succ]; exact hv)
    refine ⟨a :: l, by rw [e, e2]; rfl, by rw [List.length_cons, List.length_cons, hl], fun b hb => ?_⟩
    rcases List.mem_cons.mp hb with rfl | hb
    · exact pa
    · exact pl b hb
theorem joinL_len (S : List Nat) : ∀ ps : List (List Nat), (TL.joinL S ps).length ≤ (ps.map List.length).sum + ps.length * S.length
  | [] => Nat.zero_le _
  | [p] => by
    show p.length ≤ _
    simp
  | p :: q :: r => by
    have ih := joinL_len S (q :: r)
    show (p ++ (S ++ TL.joinL S (q :: r))).length ≤ _
    rw [List.length_append, List.length_append, List.map_cons, List.sum_cons, List.length_cons]
    have e : ((q :: r).length + 1) * S.length = (q :: r).length * S.length + S.length := Nat.succ_mul _ _
    rw [e]
    omega
theorem sum_le {k : Nat} : ∀ {l : List Str}, (∀ z ∈ l, z.length ≤ k) → (l.map (·.length)).sum ≤ l.length * k
  | [], _ => Nat.zero_le _
  | z :: r, h => by
    have h1 := h z (List.mem_cons_self ..)
    have h2 := sum_le (k := k) (l := r) fun y hy => h y (List.mem_cons_of_mem _ hy)
    rw [List.map_cons, List.sum_cons, List.length_cons, Nat.succ_mul]
    omega
end PW
namespace PW
open PySem PySem.Spec PyProof.Rows L2
theorem len_ok {n : Nat} (h : n ≤ 100000) : n ≤ sizeLine := Nat.le_trans h (by decide)
theorem log_ok {m : Int} (h0 : 0 ≤ m) (h : m < 2 ^ 64) : m.natAbs.log2 < 9000 := by
  have h2 : m.natAbs < 2 ^ 64 := by omega
  exact Nat.lt_trans (PySem.Flt.log2_lt_of (by decide) h2) (by decide)
section
variable {H : Hp} {Q : VK} {p : Addr} {xs : List V} {k : Int}
theorem r_rep (h : H p = some (.lst xs)) (h0 : 0 ≤ k) (h1 : k < 1000) (hl : xs.length ≤ 1000) (q : ∀ r, H r = none → Q (.ref r) (upd H r (.lst (List.replicate k.toNat xs).flatten))) : rRep (.ref p) (.int k) H Q := by
  refine ⟨p, k, xs, rfl, rfl, h, by omega, by omega, ?_, q⟩
  have h2 : xs.length * k.toNat ≤ 1000 * 1000 := Nat.mul_le_mul hl (by omega)
  exact Nat.le_trans h2 (by decide)
end
end PW
namespace PW
open PySem PySem.Spec PyProof.Rows L2
theorem r_seqP {s1 s2 : TS} {D : Ends} {σ : L2.St} {H : Hp} (P : L2.St → Hp → Prop) (hq : ∀ σ' H', P σ' H' → s2 D σ' H') (h : ∀ N : L2.St → Hp → Prop, (∀ σ' H', P σ' H' → N σ' H') → s1 { D with nx := N } σ H) : tSeq s1 s2 D σ H := h (s2 D) hq
end PW
namespace PW
open PySem PySem.Spec PyProof.Rows L2
theorem atI0 {α : Type} {x : α} {xs : List α} : atI (x :: xs) 0 = some x := atI_nat (j := 0) rfl
end PW
/-! ### own operators -/
namespace PW
open PySem PySem.Spec PyProof.Rows L2
/-- what x op y asks of the class at C whose def for op is at g: y another one of C, or an int -/
structure OwnB (K : PySem.W.Frag) (C : Addr) (op : Operator) (g : Addr) : Prop where
  sf : PySem.W.selfFirst K C = true
  at_ : PySem.W.findIn K (.ref C) (PySem.dunder op.info.2) = some (some (.ref g))
  fn : PySem.W.isFn K (.ref g) = true
  r : ∃ rc, PySem.W.findIn K (.ref C) (dunderR op.info.2) = some rc ∧ (rc = none ∨ ∃ h : Addr, rc = some (.ref h))
  i1 : ∃ fo, PySem.W.findIn K (.type "int") (PySem.dunder op.info.2) = some fo
  i2 : ∃ ro, PySem.W.findIn K (.type "int") (dunderR op.info.2) = some ro
theorem sub_int {K : PySem.W.Frag} {C : Addr} : PySem.W.subIn K (.type "int") (.ref C) = some false := by
  show (fastBuiltinMro "int").map (·.contains (Value.ref C)) = some false
  have e : fastBuiltinMro "int" = some [.type "int", .type "object"] := by decide +kernel
  rw [e]
  rfl
def rOwnB (C : Addr) (sp : Sp) (E : XK) : R2 := fun x y H Q => ∃ a dx fs, x = .ref a ∧ H a = some (.ins C dx fs) ∧ ((∃ i, y = .int i) ∨ ∃ b dy gs, y = .ref b ∧ H b = some (.ins C dy gs)) ∧ sp [x, y] H Q E
section
variable {X : Cx} {CX : CXT} {k : Nat} {C g : Addr} {fd : FuncData} {ps : List Str} {sp : Sp} {E : XK} {pins : List (Addr × Obj)} {σ : L2.St} {H : Hp} {s : Shared} {a dx : Addr} {fs : List (Str × V)}
theorem inst_of (I : Inv X pins σ H s) (e : H a = some (.ins C dx fs)) : ∃ od, PySem.W.InstAt s.heap a (PySem.W.instObj C dx) C (some od) := by
  obtain ⟨mA, O, _⟩ := ins_get I.hok e
  obtain ⟨od, J, _⟩ := O.look
  exact ⟨od, J⟩
theorem op_ownB {op : Operator} (O : OwnB X.K C op g) (F : FnOk X.prog X.w X.K X.mg X.base CX k g fd ps sp) (hr : Room k X.A) (hb : Binds X.K fd ps []) (hx : Passes CX X E) : OpR X (binaryOp op) (rOwnB C sp E) := by
  intro pins s σ H x y v u Q I rx ry h
  obtain ⟨a, dx, fs, rfl, ha, hy, q⟩ := h
  cases (show v = Value.ref a from rx)
  obtain ⟨od, J⟩ := inst_of I ha
  obtain ⟨m, hF⟩ := I.fr
  obtain ⟨rc, e1, e2⟩ := O.r
  obtain ⟨fo, e3⟩ := O.i1
  obtain ⟨ro, e4⟩ := O.i2
  have fin : ∀ w s', EP X pins σ Q w s' → PySem.W.CmpBack (EP X pins σ Q) w s' := fun w s' z => by
    have z' := z
    obtain ⟨z1, H', I', rz, qz⟩ := z'
    exact SlX.cmpback rz z
  rcases hy with ⟨i, rfl⟩ | ⟨b, dy, gs, rfl, hb2⟩
  · obtain ⟨t, e⟩ := (show ∃ t, u = Value.int i t from ry)
    cases e
    refine PySem.W.ksp_binT (T := "int") hF I.ok.mod.kin J rfl O.sf O.at_ O.fn e1 e2 e3 e4 sub_int ?_
    exact wpAny_mono (run_fn (us := [.ref a, .int i t]) (vs := [.ref a, .int i]) (dvs := []) (ds := []) F hr hb .nil hx I (.cons rfl (.cons ⟨t, rfl⟩ .nil)) q) fin fun _ _ e => e
  · cases (show u = Value.ref b from ry)
    obtain ⟨od', J'⟩ := inst_of I hb2
    refine PySem.W.binop_K hF I.ok.mod.kin J J'.type O.sf O.at_ O.fn ?_
    exact wpAny_mono (run_fn (us := [.ref a, .ref b]) (vs := [.ref a, .ref b]) (dvs := []) (ds := []) F hr hb .nil hx I (.cons rfl (.cons rfl .nil)) q) fin fun _ _ e => e
/-- -x -/
def rOwnU (C : Addr) (sp : Sp) (E : XK) : V → Hp → VK → Prop := fun x H Q => ∃ a dx fs, x = .ref a ∧ H a = some (.ins C dx fs) ∧ sp [x] H Q E
theorem un_own (hs : PySem.W.findIn X.K (.ref C) "__neg__" = some (some (.ref g))) (hf : PySem.W.isFn X.K (.ref g) = true) (F : FnOk X.prog X.w X.K X.mg X.base CX k g fd ps sp) (hr : Room k X.A) (hb : Binds X.K fd ps []) (hx : Passes CX X E) :
    UnR X (unaryOp .USub) (rOwnU C sp E) := by
  intro pins s σ H x v Q I rx h
  obtain ⟨a, dx, fs, rfl, ha, q⟩ := h
  cases (show v = Value.ref a from rx)
  obtain ⟨od, J⟩ := inst_of I ha
  obtain ⟨m, hF⟩ := I.fr
  refine PySem.W.ksp_neg hF I.ok.mod.kin J hs hf ?_
  exact run_fn (us := [.ref a]) (vs := [.ref a]) (dvs := []) (ds := []) F hr hb .nil hx I (.cons rfl .nil) q
/-- abs(x) -/
def cOwnAbs (C : Addr) (sp : Sp) (E : XK) : List V → Hp → VK → Prop := fun xs H Q => ∃ a dx fs, xs = [.ref a] ∧ H a = some (.ins C dx fs) ∧ sp [.ref a] H Q E
theorem call_absOwn (hs : PySem.W.findIn X.K (.ref C) "__abs__" = some (some (.ref g))) (hf : PySem.W.isFn X.K (.ref g) = true) (F : FnOk X.prog X.w X.K X.mg X.base CX k g fd ps sp) (hr : Room (k + 1) X.A) (hb : Binds X.K fd ps []) (hx : Passes CX X E) :
    CallR X (.builtin "abs") (cOwnAbs C sp E) := by
  intro pins s σ H xs us Q I r h
  obtain ⟨a, dx, fs, rfl, ha, q⟩ := h
  obtain ⟨u, rfl, ru⟩ := vals1 r
  cases (show u = Value.ref a from ru)
  obtain ⟨od, J⟩ := inst_of I ha
  refine Calls.call_function_entry kind_abs plain_abs entry_abs (args_abs _) ?_
  unfold Builtin.«abs»
  refine wpAny_bind (m := oneArg "abs" _) (wpAny_pure ?_)
  refine wpAny_bind (m := callSpecial? (.ref a) (Str.ofString "__abs__")) (PySem.W.special_fn I.kIn J hs (beq_iff_eq.mp hf) ?_)
  have hE : Env0 X.prog X.w X.K X.mg X.base X.A.in1 X.stack s H := I.env0.in1
  have r2 : Vals [V.ref a] [Value.ref a] := .cons rfl .nil
  refine wpAny_call (codeAny_mono (F.run X.A.in1 X.stack s H ⟨[.ref a], []⟩ [.ref a] [.ref a] Q E (Room.in1 hr) hE (by
    have hl : ([Value.ref a] ++ ([] : List Value)).length = ps.length := by rw [List.append_nil, ← r2.length]; exact F.len _ _ _ _ q
    have z := hb s [.ref a] I.kIn hl
    rw [List.append_nil] at z
    exact z) r2 q) fun r s' hq => ?_)
  cases r with
  | error e => exact hx pins σ H s e s' I hq
  | ok fl =>
    cases fl with
    | ret u => exact wpAny_pure ⟨_, rfl, I.after hq⟩
    | next => exact False.elim hq
    | brk => exact False.elim hq
    | cont => exact False.elim hq
end
end PW
/-! ### an int to the left: the reflected def -/
namespace PW
open PySem PySem.Spec PyProof.Rows L2
theorem gives_no {P : Int → Int → Sem Fin} {nm : String} {i : Int} {t : Tok} {a : Addr} :
    PySem.GivesAt (fun s => ∃ o, s.heap.get? a = some o ∧ ∀ j u, o.data ≠ .prim (.int j u)) (Builtin.Int.intBinary nm P false ⟨[.int i t, .ref a], []⟩) (.val .notImplemented) := by
  intro prog w A R s ⟨o, ho, hd⟩ q
  unfold Builtin.Int.intBinary
  refine wpAny_bind (m := slotArgs nm 1 _) (wpAny_pure ?_)
  refine wpAny_bind (m := Builtin.Int.intOfSelf (.int i t)) (wpAny_pure ?_)
  refine wpAny_bind (m := asInt? (.ref a)) ?_
  show wpAny _ _ (load a >>= _) _ _ s
  refine wpAny_bind (wpAny_load ho ?_)
  obtain ⟨oc, od, dt, sl⟩ := o
  cases dt with
  | prim v =>
    cases v with
    | int j u => exact absurd rfl (hd j u)
    | _ => exact wpAny_pure (wpAny_bind (wpAny_rule (wpAny_pure q)))
  | _ => exact wpAny_pure (wpAny_bind (wpAny_rule (wpAny_pure q)))

section
variable {prog : Program} {w : World} {A : Around} {E : Value → Shared → Prop} {s : Shared} {K : PySem.W.Frag} {x C f : Addr} {ox : Obj} {od : Option Obj} {i : Int} {t : Tok}
def NotPrim (o : Obj) : Prop := ∀ j u, o.data ≠ .prim (.int j u)
/-- what int op instance asks -/
structure OwnR (K : PySem.W.Frag) (C : Addr) (op : Operator) (g : Addr) : Prop where
  sf : PySem.W.selfFirst K C = true
  l : ∃ h : Addr, PySem.W.findIn K (.ref C) (PySem.dunder op.info.2) = some (some (.ref h))
  at_ : PySem.W.findIn K (.ref C) (dunderR op.info.2) = some (some (.ref g))
  fn : PySem.W.isFn K (.ref g) = true
  sub : PySem.W.subIn K (.ref C) (.type "int") = some false
  i1 : ∃ fo, PySem.W.findIn K (.type "int") (PySem.dunder op.info.2) = some fo ∧ fo.isSome = true ∧ isSeqSlot fo = false
  i2 : ∃ ro, PySem.W.findIn K (.type "int") (dunderR op.info.2) = some ro
theorem own_refl {op : Operator} {Q : Value → Shared → Prop} (O : OwnR K C op f) (X : K.In s.heap) (I : PySem.W.InstAt s.heap x ox C od)
    (decl : ∀ Q : Value → Shared → Prop, Q .notImplemented s → wpAny (model prog w) A (tryMethod (.int i t) (PySem.dunder op.info.2) (.ref x)) (fun r s' => r = none ∧ Q .notImplemented s') E s)
    (h : wpAny (model prog w) A (call (.ref f) [.ref x, .int i t]) (PySem.W.CmpBack Q) E s) : wpAny (model prog w) A (binaryOp op (.int i t) (.ref x)) Q E s := by
  obtain ⟨cd, rest, hcd, hm⟩ := PySem.W.ksp_first O.sf
  obtain ⟨g0, hl⟩ := O.l
  obtain ⟨fo, h1, hso, hsq⟩ := O.i1
  obtain ⟨ro, h2⟩ := O.i2
  have hr := O.at_
  rcases hi : op.info with ⟨sym, nm'⟩
  rw [hi] at hl hr h1 h2 decl
  dsimp only at hl hr h1 h2 decl
  have one := PySem.W.ksp_try (b := .int i t) X I hr O.fn h
  have L1 : PySem.W.Looks (model prog w) s.heap (typeOf (.int i t)) (.type "int") := PySem.W.Looks.of_pure rfl
  have L2 : PySem.W.Looks (model prog w) s.heap (typeOf (.ref x)) (.ref C) := I.type
  have L3 : PySem.W.Looks (model prog w) s.heap (fillsNumberSlot (.ref C) nm') true := PySem.W.fills_K X hcd hm hl
  have L4 : PySem.W.Looks (model prog w) s.heap (fillsNumberSlot (.type "int") nm') true := by
    have z := PySem.W.ksp_fillsT (M := model prog w) (T := "int") (nm := nm') X h1 h2
    rw [hso, hsq] at z
    exact z
  have L5 : PySem.W.Looks (model prog w) s.heap (isSubtype (.ref C) (.type "int")) false := PySem.W.looks_subIn X O.sub
  have hne : (Value.type "int" == Value.ref C) = false := Bool.eq_false_iff.mpr fun q => by cases beq_iff_eq.mp q
  have hpy : numberSlotInPython (.type "int") nm' = pure false := rfl
  simp only [binaryOp, hi]
  refine wpAny_holding (wpAny_bind ?_)
  unfold binaryOp1
  refine wpAny_bind (L1.here (wpAny_bind (L2.here (wpAny_bind (L4.here ?_)))))
  simp only [hne, Bool.false_eq_true, if_false]
  refine wpAny_bind (L3.here ?_)
  simp only [Bool.and_self, if_true]
  refine wpAny_bind (L5.here ?_)
  simp only [Bool.false_eq_true, if_false, pure_bind, Bool.not_false, Bool.and_self, if_true, hpy]
  refine wpAny_bind (wpAny_mono (decl (fun v s' => v = .notImplemented ∧ s' = s) ⟨rfl, rfl⟩) (fun r s' z => ?_) fun _ _ e => e)
  obtain ⟨rfl, _, rfl⟩ := z
  refine wpAny_bind (wpAny_mono one (fun r s' z => ?_) fun _ _ e => e)
  obtain ⟨v, rfl, q⟩ := z
  exact wpAny_bind (wpAny_rule (wpAny_pure (wpAny_pure q)))
end
end PW
namespace PW
open PySem PySem.Spec PyProof.Rows L2
section
variable {X : Cx} {CX : CXT} {k : Nat} {C g : Addr} {fd : FuncData} {ps : List Str} {sp : Sp} {E : XK} {pins : List (Addr × Obj)} {σ : L2.St} {H : Hp} {s : Shared} {a dx : Addr} {fs : List (Str × V)}
def rOwnR (C : Addr) (sp : Sp) (E : XK) : R2 := fun x y H Q => ∃ i b dy gs, x = .int i ∧ y = .ref b ∧ H b = some (.ins C dy gs) ∧ sp [.ref b, .int i] H Q E
theorem backs {X : Cx} {pins : List (Addr × Obj)} {σ : L2.St} {Q : VK} : ∀ w s', EP X pins σ Q w s' → PySem.W.CmpBack (EP X pins σ Q) w s' := fun w s' z => by
  have z' := z
  obtain ⟨z1, H', I', rz, qz⟩ := z'
  exact SlX.cmpback rz z
theorem op_ownR {op : Operator} (O : OwnR X.K C op g) (decl : ∀ (A : Around) (E : Value → Shared → Prop) (s : Shared) (i : Int) (t : Tok) (a : Addr) (o : Obj), s.heap.get? a = some o → (∀ j u, o.data ≠ .prim (.int j u)) → ∀ Q : Value → Shared → Prop, Q .notImplemented s → wpAny (model X.prog X.w) A (tryMethod (.int i t) (PySem.dunder op.info.2) (.ref a)) (fun r s' => r = none ∧ Q .notImplemented s') E s)
    (F : FnOk X.prog X.w X.K X.mg X.base CX k g fd ps sp) (hr : Room k X.A) (hb : Binds X.K fd ps []) (hx : Passes CX X E) : OpR X (binaryOp op) (rOwnR C sp E) := by
  intro pins s σ H x y v u Q I rx ry h
  obtain ⟨i, b, dy, gs, rfl, rfl, hb2, q⟩ := h
  obtain ⟨t, e⟩ := (show ∃ t, v = Value.int i t from rx)
  cases e
  cases (show u = Value.ref b from ry)
  obtain ⟨od, J⟩ := inst_of I hb2
  refine own_refl O I.kIn J (decl _ _ _ _ _ _ _ J.1 fun j u z => nomatch z) ?_
  exact wpAny_mono (run_fn (us := [.ref b, .int i t]) (vs := [.ref b, .int i]) (dvs := []) (ds := []) F hr hb .nil hx I (.cons rfl (.cons ⟨t, rfl⟩ .nil)) q) backs fun _ _ e => e
theorem decl_add {prog : Program} {w : World} (A : Around) (E : Value → Shared → Prop) (s : Shared) (i : Int) (t : Tok) (a : Addr) (o : Obj) (ho : s.heap.get? a = some o) (hd : ∀ j u, o.data ≠ .prim (.int j u)) (Q : Value → Shared → Prop) (q : Q .notImplemented s) :
    wpAny (model prog w) A (tryMethod (.int i t) (PySem.dunder Operator.Add.info.2) (.ref a)) (fun r s' => r = none ∧ Q .notImplemented s') E s := by
  have g : GivesAt (fun s => ∃ o, s.heap.get? a = some o ∧ ∀ j u, o.data ≠ .prim (.int j u)) (Builtin.«int.__add__» ⟨[.int i t, .ref a], []⟩) (.val .notImplemented) := gives_no
  have hT : s.TypeIs (.int i t) "int" := typeIs_int _ _ _
  have c : wpAny (model prog w) A (call (.builtin "int.__add__") [.int i t, .ref a]) (fun v s' => v = .notImplemented ∧ ((none : Option Value) = none ∧ Q .notImplemented s')) E s :=
    call_givesAt F.slot_int_add hT F.entry_int_add (F.args_int_add_2 _ _) g ⟨o, ho, hd⟩ (show Value.notImplemented = .notImplemented ∧ _ from ⟨rfl, rfl, q⟩)
  have e : PySem.dunder Operator.Add.info.2 = PySem.dunder "add" := congrArg PySem.dunder (show Operator.Add.info.2 = "add" from rfl)
  rw [e]
  refine wpAny_tryMethod_declines (T := "int") (id := "int.__add__") (Q := fun r s' => r = none ∧ Q .notImplemented s') ?h1 ?h2 ?h3
  case h1 => exact hT
  case h2 => exact F.slot_int_add
  case h3 => exact c
theorem decl_sub {prog : Program} {w : World} (A : Around) (E : Value → Shared → Prop) (s : Shared) (i : Int) (t : Tok) (a : Addr) (o : Obj) (ho : s.heap.get? a = some o) (hd : ∀ j u, o.data ≠ .prim (.int j u)) (Q : Value → Shared → Prop) (q : Q .notImplemented s) :
    wpAny (model prog w) A (tryMethod (.int i t) (PySem.dunder Operator.Sub.info.2) (.ref a)) (fun r s' => r = none ∧ Q .notImplemented s') E s := by
  have g : GivesAt (fun s => ∃ o, s.heap.get? a = some o ∧ ∀ j u, o.data ≠ .prim (.int j u)) (Builtin.«int.__sub__» ⟨[.int i t, .ref a], []⟩) (.val .notImplemented) := gives_no
  have hT : s.TypeIs (.int i t) "int" := typeIs_int _ _ _
  have c : wpAny (model prog w) A (call (.builtin "int.__sub__") [.int i t, .ref a]) (fun v s' => v = .notImplemented ∧ ((none : Option Value) = none ∧ Q .notImplemented s')) E s :=
    call_givesAt F.slot_int_sub hT F.entry_int_sub (F.args_int_sub_2 _ _) g ⟨o, ho, hd⟩ (show Value.notImplemented = .notImplemented ∧ _ from ⟨rfl, rfl, q⟩)
  have e : PySem.dunder Operator.Sub.info.2 = PySem.dunder "sub" := congrArg PySem.dunder (show Operator.Sub.info.2 = "sub" from rfl)
  rw [e]
  refine wpAny_tryMethod_declines (T := "int") (id := "int.__sub__") (Q := fun r s' => r = none ∧ Q .notImplemented s') ?h1 ?h2 ?h3
  case h1 => exact hT
  case h2 => exact F.slot_int_sub
  case h3 => exact c
theorem decl_mul {prog : Program} {w : World} (A : Around) (E : Value → Shared → Prop) (s : Shared) (i : Int) (t : Tok) (a : Addr) (o : Obj) (ho : s.heap.get? a = some o) (hd : ∀ j u, o.data ≠ .prim (.int j u)) (Q : Value → Shared → Prop) (q : Q .notImplemented s) :
    wpAny (model prog w) A (tryMethod (.int i t) (PySem.dunder Operator.Mult.info.2) (.ref a)) (fun r s' => r = none ∧ Q .notImplemented s') E s := by
  have g : GivesAt (fun s => ∃ o, s.heap.get? a = some o ∧ ∀ j u, o.data ≠ .prim (.int j u)) (Builtin.«int.__mul__» ⟨[.int i t, .ref a], []⟩) (.val .notImplemented) := gives_no
  have hT : s.TypeIs (.int i t) "int" := typeIs_int _ _ _
  have c : wpAny (model prog w) A (call (.builtin "int.__mul__") [.int i t, .ref a]) (fun v s' => v = .notImplemented ∧ ((none : Option Value) = none ∧ Q .notImplemented s')) E s :=
    call_givesAt F.slot_int_mul hT F.entry_int_mul (F.args_int_mul_2 _ _) g ⟨o, ho, hd⟩ (show Value.notImplemented = .notImplemented ∧ _ from ⟨rfl, rfl, q⟩)
  have e : PySem.dunder Operator.Mult.info.2 = PySem.dunder "mul" := congrArg PySem.dunder (show Operator.Mult.info.2 = "mul" from rfl)
  rw [e]
  refine wpAny_tryMethod_declines (T := "int") (id := "int.__mul__") (Q := fun r s' => r = none ∧ Q .notImplemented s') ?h1 ?h2 ?h3
  case h1 => exact hT
  case h2 => exact F.slot_int_mul
  case h3 => exact c
/-- x == y, x of C with an own __eq__ at g -/
theorem cmp_ownB {op : CmpOp} (hop : ∀ a b, compareOp op a b = richCompare op a b) (hs : PySem.W.findIn X.K (.ref C) (cmpInfo op).2.1 = some (some (.ref g))) (hf : PySem.W.isFn X.K (.ref g) = true)
    (F : FnOk X.prog X.w X.K X.mg X.base CX k g fd ps sp) (hr : Room k X.A) (hb : Binds X.K fd ps []) (hx : Passes CX X E) : OpR X (compareOp op) (rOwnB C sp E) := by
  intro pins s σ H x y v u Q I rx ry h
  obtain ⟨a, dx, fs, rfl, ha, hy, q⟩ := h
  cases (show v = Value.ref a from rx)
  obtain ⟨od, J⟩ := inst_of I ha
  obtain ⟨m, hF⟩ := I.fr
  rw [hop]
  rcases hy with ⟨i, rfl⟩ | ⟨b, dy, gs, rfl, hb2⟩
  · obtain ⟨t, e⟩ := (show ∃ t, u = Value.int i t from ry)
    cases e
    refine PySem.W.cmp_K (op := op) (tb := .type "int") hr.units0 hF I.ok.mod.kin J (PySem.W.Looks.of_pure rfl) (by unfold PySem.W.notFirst; rw [sub_int]; rfl) hs hf ?_
    exact wpAny_mono (run_fn (us := [.ref a, .int i t]) (vs := [.ref a, .int i]) (dvs := []) (ds := []) F hr hb .nil hx I (.cons rfl (.cons ⟨t, rfl⟩ .nil)) q) backs fun _ _ e => e
  · cases (show u = Value.ref b from ry)
    obtain ⟨od', J'⟩ := inst_of I hb2
    refine PySem.W.cmp_K (op := op) (tb := .ref C) hr.units0 hF I.ok.mod.kin J J'.type (by unfold PySem.W.notFirst; rw [beq_self_eq_true]; rfl) hs hf ?_
    exact wpAny_mono (run_fn (us := [.ref a, .ref b]) (vs := [.ref a, .ref b]) (dvs := []) (ds := []) F hr hb .nil hx I (.cons rfl (.cons rfl .nil)) q) backs fun _ _ e => e
/-! ### a staticmethod called through its class -/
structure SMet (K : PySem.W.Frag) (C : Addr) (m : Str) (p g : Addr) : Prop where
  rd : PySem.W.readsIn K C (.type "type") = true
  ga : PySem.W.specialIn K (.ref C) "__getattribute__" = some (some (.builtin "type.__getattribute__"))
  at_ : PySem.W.findCls K (.ref C) (.type "type") m = some (.get (.builtin "staticmethod.__get__") (.ref p) .none (.ref C))
  rc : ∃ rest, PySem.W.recIn K p "staticmethod" = some (.ref g :: rest)
  kp : PySem.W.keepIn K (.ref g) = true
theorem getmethsm_ok {m : Str} {p : Addr} {pl : Sem Bool} {A : Around} {E : Value → Shared → Prop} {Q : Value × List Value → Shared → Prop} (I : Inv X pins σ H s) (k : SMet X.K C m p g)
    (h : ∀ s', Inv X pins σ H s' → Q (.ref g, []) s') : wpAny (model X.prog X.w) A (getMethod (.ref C) m pl) Q E s := by
  obtain ⟨rest, hp⟩ := k.rc
  refine PySem.W.method_cls I.kIn k.ga (PySem.W.cls_bind I.kIn k.rd k.at_ ?_)
  exact wpAny_call (PySem.W.sm_get (s := { s with toks := s.toks + 1 }) I.kIn hp (PySem.W.handed_on rfl (h _ (I.tok _))))
/-- C.m(e, ..) -/
def tSMeth (C : Addr) (sp : Sp) (E : XK) (ta : L2.TE) (t : TA) : TE := fun σ H Q => ta σ H fun x H1 => x = .ref C ∧ t σ H1 fun vs H2 => sp vs H2 Q E
theorem pe_smeth {m : Str} {p : Addr} {o e : Expr} {es : List Expr} {pos apos : Pos} {ta : L2.TE} {t : TA} {pl : Sem Bool} (he : PE X o ta) (c : SMet X.K C m p g) (F : FnOk X.prog X.w X.K X.mg X.base CX k g fd ps sp) (hr : Room k X.A) (hb : Binds X.K fd ps []) (hx : Passes CX X E) (ha : PA X (e :: es) t)
    (hst : starEach (e :: es) X.env = (false, eval e X.env) :: starEach es X.env := by rfl) (hpl : (backTo pos (starEach es X.env)).any (·.1) = false := by rfl)
    (ht : eval (.Call (.Attribute o m apos) (e :: es) [] pos) X.env = (do
      let ov ← eval o X.env
      standAt apos.atName
      let (f, first) ← holding [ov] (getMethod ov m pl)
      callWith pos f first (backTo pos (starEach (e :: es) X.env)) (backToKw pos (keywordEach [] X.env))) := by rfl) :
    PE X (.Call (.Attribute o m apos) (e :: es) [] pos) (tSMeth C sp E ta t) := by
  refine ⟨fun pins s σ H Q I h => ?_⟩
  refine PySem.W.methodCall_KW (pl := pl) (thn (he.run pins s σ H _ I h) fun u s1 ⟨x, H1, I1, rx, ex, q⟩ => ?_) ht
  subst ex
  obtain rfl : u = Value.ref C := rx
  refine getmethsm_ok I1 c fun s2 I2 => ?_
  refine PySem.W.callWith_K (first := []) (h₀ := X.base) I.ok.mod.kin c.kp (thn (ha.run pos pins s2 σ H1 _ I2 q) fun us s3 ⟨vs, H2, I3, r, q2⟩ => ⟨I3.kIn, ?_⟩) hst hpl
  refine run_fn (us := us) (vs := vs) (dvs := []) (ds := []) F hr hb .nil hx I3 r ?_
  rw [List.append_nil]
  exact q2
end
end PW
/-! ### == and != with an empty list or tuple -/
namespace PW
open PySem PySem.Spec PyProof.Rows L2 PySem.SeqAt
section
variable {prog : Program} {w : World}
theorem list_ne_size (l b : Addr) (items items2 : Array Value) (n n2 : Nat) (dd dd2 : Option Addr) (sl sl2 : Array (Option Value)) (hsz : items.size ≠ items2.size) :
    MeetsIn prog w (Builtin.«list.__eq__» ⟨[.ref l, .ref b], []⟩)
      (fun A R s => s.heap.get? l = some { cls := .type "list", dict := dd, data := .seq items n, slots := sl } ∧ s.heap.get? b = some { cls := .type "list", dict := dd2, data := .seq items2 n2, slots := sl2 } ∧
        R (.ok (.ret (.bool false))) s) := by
  intro A R s h
  obtain ⟨hp, g, d, tk, os⟩ := s; obtain ⟨hl, hb, h⟩ := h
  have f3 := AutoSeq1.sub_list_list
  have hne : (items.size != items2.size) = true := by simpa using hsz
  wp_walk using PySem.AutoSeq1.wpAny_loadPart' hl, PySem.AutoSeq1.wpAny_loadPart' hb
  exact h
theorem rcP_list_size {A : Around} {s : Shared} {l b : Addr} {items items2 : Array Value} (hl : s.heap.IsList l items) (hb : s.heap.IsList b items2) (hsz : items.size ≠ items2.size) (hu : A.units < cLine)
    (E Q : Value → Shared → Prop) (h : Q (.bool false) s) : wpAny (model prog w) A (richCompare .Eq (.ref l) (.ref b)) Q E s := by
  obtain ⟨⟨cls, dd, data, sl⟩, ho, hc, n, hd⟩ := id hl
  obtain ⟨⟨cls2, dd2, data2, sl2⟩, ho2, hc2, n2, hd2⟩ := id hb
  simp only at hc hd hc2 hd2
  subst hc hd hc2 hd2
  have ta : s.TypeIs (.ref l) "list" := ⟨_, ho, rfl⟩
  have tb : s.TypeIs (.ref b) "list" := ⟨_, ho2, rfl⟩
  exact wpAny_richCompare_same_room (op := .Eq) ta tb F.slot_list_eq (call_meetsIn F.slot_list_eq ta F.entry_list_eq (F.args_list_eq_2 _ _) (list_ne_size l b items items2 n n2 dd dd2 sl sl2 hsz)
    ⟨ho, ho2, show Value.bool false ≠ Value.notImplemented ∧ Q (.bool false) s from ⟨(fun x => nomatch x), h⟩⟩) hu
theorem tup_empty (ne : Bool) (l b : Addr) (items : Array Value) (n n2 : Nat) (dd dd2 : Option Addr) (sl sl2 : Array (Option Value)) :
    MeetsIn prog w ((if ne then Builtin.«tuple.__ne__» else Builtin.«tuple.__eq__») ⟨[.ref l, .ref b], []⟩)
      (fun A R s => s.heap.get? l = some { cls := .type "tuple", dict := dd, data := .seq items n, slots := sl } ∧ s.heap.get? b = some { cls := .type "tuple", dict := dd2, data := .seq #[] n2, slots := sl2 } ∧
        R (.ok (.ret (.bool (if ne then items.size != 0 else items.size == 0)))) s) := by
  intro A R s h
  obtain ⟨hp, g, d, tk, os⟩ := s; obtain ⟨hl, hb, h⟩ := h
  have f2 := AutoSeq1.sub_tuple_tuple
  cases ne with
  | true =>
    show wpAny _ _ (Builtin.«tuple.__ne__» ⟨[.ref l, .ref b], []⟩) _ _ _
    wp_walk using PySem.AutoSeq1.wpAny_loadPart' hl, PySem.AutoSeq1.wpAny_loadPart' hb
    have hz : items.toList.zip (#[] : Array Value).toList = [] := by simp
    generalize items.toList.zip (#[] : Array Value).toList = L at hz
    subst hz
    wp_walk
    simpa [Builtin.Tuple.tupleCompareSizes] using h
  | false =>
    show wpAny _ _ (Builtin.«tuple.__eq__» ⟨[.ref l, .ref b], []⟩) _ _ _
    wp_walk using PySem.AutoSeq1.wpAny_loadPart' hl, PySem.AutoSeq1.wpAny_loadPart' hb
    have hz : items.toList.zip (#[] : Array Value).toList = [] := by simp
    generalize items.toList.zip (#[] : Array Value).toList = L at hz
    subst hz
    wp_walk
    simpa [Builtin.Tuple.tupleCompareSizes] using h
end
end PW
namespace PW
open PySem PySem.Spec PyProof.Rows L2 PySem.SeqAt
section
variable {prog : Program} {w : World}
theorem rcP_tup_eq {A : Around} {s : Shared} {l b : Addr} {items : Array Value} (hl : IsTup s.heap l items) (hb : IsTup s.heap b #[]) (hu : A.units < cLine)
    (E Q : Value → Shared → Prop) (h : Q (.bool (items.size == 0)) s) : wpAny (model prog w) A (richCompare .Eq (.ref l) (.ref b)) Q E s := by
  obtain ⟨⟨cls, dd, data, sl⟩, ho, hc, n, hd⟩ := id hl
  obtain ⟨⟨cls2, dd2, data2, sl2⟩, ho2, hc2, n2, hd2⟩ := id hb
  simp only at hc hd hc2 hd2
  subst hc hd hc2 hd2
  have ta : s.TypeIs (.ref l) "tuple" := ⟨_, ho, rfl⟩
  have tb : s.TypeIs (.ref b) "tuple" := ⟨_, ho2, rfl⟩
  exact wpAny_richCompare_same_room (op := .Eq) ta tb F.slot_tuple_eq (call_meetsIn F.slot_tuple_eq ta F.entry_tuple_eq (F.args_tuple_eq_2 _ _) (tup_empty false l b items n n2 dd dd2 sl sl2)
    ⟨ho, ho2, show Value.bool (items.size == 0) ≠ Value.notImplemented ∧ Q (.bool (items.size == 0)) s from ⟨(fun x => nomatch x), h⟩⟩) hu
theorem rcP_tup_ne {A : Around} {s : Shared} {l b : Addr} {items : Array Value} (hl : IsTup s.heap l items) (hb : IsTup s.heap b #[]) (hu : A.units < cLine)
    (E Q : Value → Shared → Prop) (h : Q (.bool (items.size != 0)) s) : wpAny (model prog w) A (richCompare .NotEq (.ref l) (.ref b)) Q E s := by
  obtain ⟨⟨cls, dd, data, sl⟩, ho, hc, n, hd⟩ := id hl
  obtain ⟨⟨cls2, dd2, data2, sl2⟩, ho2, hc2, n2, hd2⟩ := id hb
  simp only at hc hd hc2 hd2
  subst hc hd hc2 hd2
  have ta : s.TypeIs (.ref l) "tuple" := ⟨_, ho, rfl⟩
  have tb : s.TypeIs (.ref b) "tuple" := ⟨_, ho2, rfl⟩
  exact wpAny_richCompare_same_room (op := .NotEq) ta tb F.slot_tuple_ne (call_meetsIn F.slot_tuple_ne ta F.entry_tuple_ne (F.args_tuple_ne_2 _ _) (tup_empty true l b items n n2 dd dd2 sl sl2)
    ⟨ho, ho2, show Value.bool (items.size != 0) ≠ Value.notImplemented ∧ Q (.bool (items.size != 0)) s from ⟨(fun x => nomatch x), h⟩⟩) hu
end
def rEqE (K : PySem.W.Frag) : R2 := fun x y H Q => ∃ a b xs, x = .ref a ∧ y = .ref b ∧ ((SqL K H a xs ∧ SqL K H b []) ∨ (SqT K H a xs ∧ SqT K H b [])) ∧ Q (.bl xs.isEmpty) H
def rNeE (K : PySem.W.Frag) : R2 := fun x y H Q => ∃ a b xs, x = .ref a ∧ y = .ref b ∧ SqT K H a xs ∧ SqT K H b [] ∧ Q (.bl (!xs.isEmpty)) H
section
variable {X : Cx}
theorem size_empty {xs : List V} {us : List Value} (r : Vals xs us) : (us.toArray.size == 0) = xs.isEmpty := by
  cases r with
  | nil => rfl
  | cons a b => rfl
theorem op_eqE (hu : X.A.units < cLine) : OpR X (compareOp .Eq) (rEqE X.K) := by
  intro pins s σ H x y v u Q I rx ry h
  obtain ⟨a, b, xs, rfl, rfl, h, q⟩ := h
  cases (show v = Value.ref a from rx)
  cases (show u = Value.ref b from ry)
  rcases h with ⟨ha, hb⟩ | ⟨ha, hb⟩
  · obtain ⟨us, r1, p1, _⟩ := I.list ha
    obtain ⟨ws, r2, p2, _⟩ := I.list hb
    cases r2
    cases r1 with
    | nil => exact rcP_lists (e := fun _ => true) p1.isList p2.isList rfl hu (fun j h1 _ => absurd h1 (Nat.not_lt_zero _)) _ _ ⟨.bl true, H, I, rfl, q⟩
    | cons r t => exact rcP_list_size p1.isList p2.isList (by simp) hu _ _ ⟨.bl false, H, I, rfl, q⟩
  · obtain ⟨us, r1, p1, _⟩ := I.tuple ha
    obtain ⟨ws, r2, p2, _⟩ := I.tuple hb
    cases r2
    refine rcP_tup_eq p1 p2 hu _ _ ⟨.bl xs.isEmpty, H, I, ?_, q⟩
    rw [size_empty r1]
    exact rfl
theorem op_neE (hu : X.A.units < cLine) : OpR X (compareOp .NotEq) (rNeE X.K) := by
  intro pins s σ H x y v u Q I rx ry h
  obtain ⟨a, b, xs, rfl, rfl, ha, hb, q⟩ := h
  cases (show v = Value.ref a from rx)
  cases (show u = Value.ref b from ry)
  obtain ⟨us, r1, p1, _⟩ := I.tuple ha
  obtain ⟨ws, r2, p2, _⟩ := I.tuple hb
  cases r2
  refine rcP_tup_ne p1 p2 hu _ _ ⟨.bl (!xs.isEmpty), H, I, ?_, q⟩
  show Value.bool (!(us.toArray.size == 0)) = _
  rw [size_empty r1]
end
/-! ### steps -/
def MkN (C : Addr) (sp : Sp) (vs : List V) (E : XK) (Q : VK) (H : Hp) : Prop := ∀ x dx, H x = none → H dx = none → dx ≠ x → sp (.ref x :: vs) (upd (upd H dx (.own x)) x (.ins C dx [])) (fun v H2 => v = .non ∧ Q (.ref x) H2) E
def MkKN (C : Addr) (sp : Sp) (gV : List V → List V → List V) (vs zs : List V) (E : XK) (Q : VK) (H : Hp) : Prop := ∀ x dx, H x = none → H dx = none → dx ≠ x → sp (gV (.ref x :: vs) zs) (upd (upd H dx (.own x)) x (.ins C dx [])) (fun v H2 => v = .non ∧ Q (.ref x) H2) E
section
variable {K : PySem.W.Frag} {σ : L2.St} {H : Hp} {Q : VK} {ta : L2.TE} {t : TA} {tk : TA} {C a b : Addr} {sp : Sp} {E : XK} {xs : List V} {n m : Nat} {gV : List V → List V → List V} {f : Str} {i : Int}
theorem r_eqEL (h : SqL K H a xs) (h2 : SqL K H b []) (q : Q (.bl xs.isEmpty) H) : rEqE K (.ref a) (.ref b) H Q := ⟨a, b, xs, rfl, rfl, .inl ⟨h, h2⟩, q⟩
theorem r_eqET (h : SqT K H a xs) (h2 : SqT K H b []) (q : Q (.bl xs.isEmpty) H) : rEqE K (.ref a) (.ref b) H Q := ⟨a, b, xs, rfl, rfl, .inr ⟨h, h2⟩, q⟩
theorem r_neET (h : SqT K H a xs) (h2 : SqT K H b []) (q : Q (.bl (!xs.isEmpty)) H) : rNeE K (.ref a) (.ref b) H Q := ⟨a, b, xs, rfl, rfl, h, h2, q⟩
instance : Step (tSMeth C sp E (tC (.ref C)) t σ H Q) (t σ H fun vs H2 => sp vs H2 Q E) := ⟨fun q => ⟨rfl, q⟩⟩
instance : Step (tMakeK C n m sp gV E t tk σ H Q) (t σ H fun vs H1 => tk σ H1 fun zs H2 => vs.length = n ∧ zs.length = m ∧ MkKN C sp gV vs zs E Q H2) := ⟨id⟩
instance {dvs : List V} : Step (tMake C sp dvs E t σ H Q) (t σ H fun vs H1 => MkN C sp (vs ++ dvs) E Q H1) := ⟨id⟩
end
end PW
/-! ### facts of an own class, as Bools -/
namespace PW
open PySem PySem.Spec PyProof.Rows L2
def insB (K : PySem.W.Frag) (C : Addr) : Bool := He.eqO (PySem.W.findIn K (.ref C) "__class__") (some (some (.builtin "object.__class__"))) && (He.eqO (PySem.W.specialIn K (.builtin "object.__class__") "__get__") (some (some (.builtin "getset_descriptor.__get__"))) &&
  (decide (PySem.W.takesIn K (.builtin "object.__class__") = some true) && (decide (PySem.W.mroIn K C (.type "object") = some true) && decide (PySem.W.kitOne K (.ref C) (.ref C) = some true))))
theorem insB_ok {K : PySem.W.Frag} {C : Addr} (k : Cls K C) (h : insB K C = true) : C8.InsC K C := by
  obtain ⟨h1, h⟩ := He.ba h
  obtain ⟨h2, h⟩ := He.ba h
  obtain ⟨h3, h⟩ := He.ba h
  obtain ⟨h4, h5⟩ := He.ba h
  exact ⟨k, He.eqO_ok h1, He.eqO_ok h2, of_decide_eq_true h3, of_decide_eq_true h4, of_decide_eq_true h5⟩
/-- isinstance between the class and built-in types: no -/
structure IsTys (K : PySem.W.Frag) (C : Addr) : Prop where
  l : ∀ n ∈ ["int", "bool", "str", "NoneType", "float", "list", "tuple", "dict"], PySem.W.kitOne K (.type n) (.ref C) = some false
  r : ∀ n ∈ ["int", "bool", "str", "list", "tuple", "dict"], PySem.W.kitOne K (.ref C) (.type n) = some false
def isTysB (K : PySem.W.Frag) (C : Addr) : Bool := (["int", "bool", "str", "NoneType", "float", "list", "tuple", "dict"].all fun n => decide (PySem.W.kitOne K (.type n) (.ref C) = some false)) && (["int", "bool", "str", "list", "tuple", "dict"].all fun n => decide (PySem.W.kitOne K (.ref C) (.type n) = some false))
theorem isTysB_ok {K : PySem.W.Frag} {C : Addr} (h : isTysB K C = true) : IsTys K C := by
  obtain ⟨h1, h2⟩ := He.ba h
  exact ⟨fun n hn => of_decide_eq_true (List.all_eq_true.mp h1 n hn), fun n hn => of_decide_eq_true (List.all_eq_true.mp h2 n hn)⟩
def smetB (K : PySem.W.Frag) (C : Addr) (m : Str) (p g : Addr) : Bool := PySem.W.readsIn K C (.type "type") && (He.eqO (PySem.W.specialIn K (.ref C) "__getattribute__") (some (some (.builtin "type.__getattribute__"))) &&
  ((match PySem.W.findCls K (.ref C) (.type "type") m with
    | some (.get (.builtin n) (.ref q) .none (.ref D)) => decide (n = "staticmethod.__get__") && (decide (q = p) && decide (D = C))
    | _ => false) && ((match PySem.W.recIn K p "staticmethod" with
    | some (.ref f :: _) => decide (f = g)
    | _ => false) && PySem.W.keepIn K (.ref g))))
theorem smetB_ok {K : PySem.W.Frag} {C : Addr} {m : Str} {p g : Addr} (h : smetB K C m p g = true) : SMet K C m p g := by
  obtain ⟨h1, h⟩ := He.ba h
  obtain ⟨h2, h⟩ := He.ba h
  obtain ⟨h3, h⟩ := He.ba h
  obtain ⟨h4, h5⟩ := He.ba h
  refine ⟨h1, He.eqO_ok h2, ?_, ?_, h5⟩
  · split at h3
    · rename_i n q D e
      obtain ⟨k1, k⟩ := He.ba h3
      obtain ⟨k2, k3⟩ := He.ba k
      rw [e, of_decide_eq_true k1, of_decide_eq_true k2, of_decide_eq_true k3]
    · cases h3
  · split at h4
    · rename_i f rest e
      rw [of_decide_eq_true h4] at e
      exact ⟨rest, e⟩
    · cases h4
def ownB (K : PySem.W.Frag) (C : Addr) (op : Operator) (g : Addr) : Bool := PySem.W.selfFirst K C && (He.eqO (PySem.W.findIn K (.ref C) (PySem.dunder op.info.2)) (some (some (.ref g))) && (PySem.W.isFn K (.ref g) &&
  ((match PySem.W.findIn K (.ref C) (dunderR op.info.2) with
    | some none => true
    | some (some (.ref _)) => true
    | _ => false) && ((PySem.W.findIn K (.type "int") (PySem.dunder op.info.2)).isSome && (PySem.W.findIn K (.type "int") (dunderR op.info.2)).isSome))))
theorem ownB_ok {K : PySem.W.Frag} {C : Addr} {op : Operator} {g : Addr} (h : ownB K C op g = true) : OwnB K C op g := by
  obtain ⟨h1, h⟩ := He.ba h
  obtain ⟨h2, h⟩ := He.ba h
  obtain ⟨h3, h⟩ := He.ba h
  obtain ⟨h4, h⟩ := He.ba h
  obtain ⟨h5, h6⟩ := He.ba h
  refine ⟨h1, He.eqO_ok h2, h3, ?_, Option.isSome_iff_exists.mp h5, Option.isSome_iff_exists.mp h6⟩
  split at h4
  · rename_i e
    exact ⟨none, e, .inl rfl⟩
  · rename_i a e
    exact ⟨_, e, .inr ⟨a, rfl⟩⟩
  · cases h4
def ownR (K : PySem.W.Frag) (C : Addr) (op : Operator) (g : Addr) : Bool := PySem.W.selfFirst K C && ((match PySem.W.findIn K (.ref C) (PySem.dunder op.info.2) with
    | some (some (.ref _)) => true
    | _ => false) && (He.eqO (PySem.W.findIn K (.ref C) (dunderR op.info.2)) (some (some (.ref g))) && (PySem.W.isFn K (.ref g) && (decide (PySem.W.subIn K (.ref C) (.type "int") = some false) &&
  ((match PySem.W.findIn K (.type "int") (PySem.dunder op.info.2) with
    | some fo => fo.isSome && !isSeqSlot fo
    | _ => false) && (PySem.W.findIn K (.type "int") (dunderR op.info.2)).isSome)))))
theorem ownR_ok {K : PySem.W.Frag} {C : Addr} {op : Operator} {g : Addr} (h : ownR K C op g = true) : OwnR K C op g := by
  obtain ⟨h1, h⟩ := He.ba h
  obtain ⟨h2, h⟩ := He.ba h
  obtain ⟨h3, h⟩ := He.ba h
  obtain ⟨h4, h⟩ := He.ba h
  obtain ⟨h5, h⟩ := He.ba h
  obtain ⟨h6, h7⟩ := He.ba h
  refine ⟨h1, ?_, He.eqO_ok h3, h4, of_decide_eq_true h5, ?_, Option.isSome_iff_exists.mp h7⟩
  · split at h2
    · rename_i a e
      exact ⟨a, e⟩
    · cases h2
  · split at h6
    · rename_i fo e
      obtain ⟨k1, k2⟩ := He.ba h6
      exact ⟨fo, e, k1, by simpa using k2⟩
    · cases h6
end PW
/-! ### readings of instances, of two and three names, of while -/
namespace PW
open PySem PySem.Spec PyProof.Rows L2
def ParN (i j : Nat) (nx : L2.St → Hp → Prop) (σ : L2.St) (vs : List V) (H : Hp) : Prop := ∃ v w, vs = [v, w] ∧ nx ((σ.set i (some v)).set j (some w)) H
def ParN3 (i j l : Nat) (nx : L2.St → Hp → Prop) (σ : L2.St) (vs : List V) (H : Hp) : Prop := ∃ u v w, vs = [u, v, w] ∧ nx (((σ.set i (some u)).set j (some v)).set l (some w)) H
section
variable {σ τ τ2 τ3 : L2.St} {H : Hp} {Q : VK} {D : Ends} {i j l : Nat} {ta : TA} {a b c : V} {nx : L2.St → Hp → Prop} {K : PySem.W.Frag} {te tv : L2.TE}
instance : Step (tPar i j ta D σ H) (ta σ H fun vs H1 => ParN i j D.nx σ vs H1) := ⟨id⟩
instance [h1 : Put σ i a τ] [h2 : Put τ j b τ2] : Step (ParN i j nx σ [a, b] H) (nx τ2 H) := ⟨fun q => ⟨a, b, rfl, by rw [h1.eq, h2.eq]; exact q⟩⟩
instance : Step (tPar3 i j l ta D σ H) (ta σ H fun vs H1 => ParN3 i j l D.nx σ vs H1) := ⟨id⟩
instance [h1 : Put σ i a τ] [h2 : Put τ j b τ2] [h3 : Put τ2 l c τ3] : Step (ParN3 i j l nx σ [a, b, c] H) (nx τ3 H) := ⟨fun q => ⟨a, b, c, rfl, by rw [h1.eq, h2.eq, h3.eq]; exact q⟩⟩
instance {to : L2.TE} : Step (tBits to σ H Q) (to σ H fun x H1 => ∃ i, x = .int i ∧ Q (.int (Builtin.Int.intBits i : Nat)) H1) := ⟨id⟩
def RevN (K : PySem.W.Frag) (Q : VK) (x : V) (H : Hp) : Prop := ∃ a xs, x = .ref a ∧ SqL K H a xs ∧ ∀ p, H p = none → Q (.ref p) (upd H p (.lst xs.reverse))
instance : Step (tRevL K te σ H Q) (te σ H fun x H1 => RevN K Q x H1) := ⟨id⟩
theorem r_rev {p : Addr} {xs : List V} (h : SqL K H p xs) (q : ∀ r, H r = none → Q (.ref r) (upd H r (.lst xs.reverse))) : RevN K Q (.ref p) H := ⟨p, xs, rfl, h, q⟩
def FldN (K : PySem.W.Frag) (f : Str) (Q : VK) (x : V) (H : Hp) : Prop := ∃ a C dx fs v, x = .ref a ∧ H a = some (.ins C dx fs) ∧ Cls K C ∧ NoAttr K C f ∧ fs.lookup f = some v ∧ Q v H
instance {f : Str} : Step (tFld K te f σ H Q) (te σ H fun x H1 => FldN K f Q x H1) := ⟨id⟩
theorem r_fld {p C dx : Addr} {fs : List (Str × V)} {f : Str} {v : V} (h : H p = some (.ins C dx fs)) (c : Cls K C) (n : NoAttr K C f) (l : fs.lookup f = some v) (q : Q v H) : FldN K f Q (.ref p) H := ⟨p, C, dx, fs, v, rfl, h, c, n, l, q⟩
def SFldN (K : PySem.W.Frag) (f : Str) (nx : L2.St → Hp → Prop) (σ : L2.St) (y x : V) (H : Hp) : Prop := ∃ a C dx fs, x = .ref a ∧ H a = some (.ins C dx fs) ∧ Cls K C ∧ NoAttr K C f ∧ fs.length < 1000 ∧ nx σ (upd H a (.ins C dx (putF f y fs)))
instance {f : Str} : Step (sFld K te tv f D σ H) (tv σ H fun y H1 => te σ H1 fun x H2 => SFldN K f D.nx σ y x H2) := ⟨id⟩
theorem r_sfld {p C dx : Addr} {fs : List (Str × V)} {f : Str} {y : V} (h : H p = some (.ins C dx fs)) (c : Cls K C) (n : NoAttr K C f) (l : fs.length < 1000) (q : nx σ (upd H p (.ins C dx (putF f y fs)))) : SFldN K f nx σ y (.ref p) H := ⟨p, C, dx, fs, rfl, h, c, n, l, q⟩
def MethN (C : Addr) (m : Str) (sp : Sp) (dvs : List V) (E : XK) (t : TA) (σ : L2.St) (Q : VK) (x : V) (H : Hp) : Prop := ∃ a dx fs, x = .ref a ∧ H a = some (.ins C dx fs) ∧ fs.lookup m = none ∧ t σ H fun vs H2 => sp (x :: (vs ++ dvs)) H2 Q E
instance {C : Addr} {m : Str} {sp : Sp} {dvs : List V} {E : XK} {t : TA} : Step (tMeth C m sp dvs E te t σ H Q) (te σ H fun x H1 => MethN C m sp dvs E t σ Q x H1) := ⟨id⟩
theorem r_methC {p C dx : Addr} {m : Str} {fs : List (Str × V)} {sp : Sp} {dvs : List V} {E : XK} {t : TA} (h : H p = some (.ins C dx fs)) (l : fs.lookup m = none) (q : t σ H fun vs H2 => sp (.ref p :: (vs ++ dvs)) H2 Q E) : MethN C m sp dvs E t σ Q (.ref p) H := ⟨p, dx, fs, rfl, h, l, q⟩
instance {T : String} {r : V → List V → Hp → VK → Prop} : Step (tBM0 K T r te σ H Q) (te σ H fun x H1 => tyV K T x H1 ∧ r x [] H1 Q) := ⟨id⟩
instance {T : String} {r : V → List V → Hp → VK → Prop} {t : TA} : Step (tBM K T r te t σ H Q) (te σ H fun x H1 => tyV K T x H1 ∧ t σ H1 fun xs H2 => r x xs H2 Q) := ⟨id⟩
theorem r_isiO {x : V} {C : Addr} {t : Value} {k : Bool} (h : TyX K H x t) (e : PySem.W.kitOne K t (.ref C) = some k) (q : Q (.bl k) H) : rIsi K [x, .ref C] H Q := ⟨x, .ref C, t, .ref C, k, rfl, .own C, h, e, q⟩
theorem r_isiC {x : V} {C : Addr} {n : String} {k : Bool} (h : TyX K H x (.ref C)) (e : PySem.W.kitOne K (.ref C) (.type n) = some k) (q : Q (.bl k) H) : rIsi K [x, .ty n] H Q := ⟨x, .ty n, .ref C, .type n, k, rfl, .ty n, h, e, q⟩
theorem ty_ins {p C dx : Addr} {fs : List (Str × V)} (i : C8.InsC K C) (h : H p = some (.ins C dx fs)) : TyX K H (.ref p) (.ref C) := .base (.ins h i.cl i.ha i.hn i.htk i.hm)
end
/-- while, by a word of a measure and the state -/
theorem while_it {c : TT} {tb : TS} {D : Ends} {σ : L2.St} {H : Hp} (Pv : Nat → L2.St → Hp → Prop) {m0 : Nat} (h0 : Pv m0 σ H)
    (hs : ∀ m σ H, Pv m σ H → c σ H fun b H1 => if b = true then ∃ N : L2.St → Hp → Prop, (∀ σ' H', N σ' H' → ∃ m', m' < m ∧ Pv m' σ' H') ∧ tb { D with nx := N, ct := N, bk := D.nx } σ H1 else D.nx σ H1) : tWhile c tb D σ H := ⟨Pv, ⟨m0, h0⟩, hs⟩
/-- .. a turn is taken -/
theorem r_turn {Pv : Nat → L2.St → Hp → Prop} {tb : TS} {D : Ends} {σ : L2.St} {H : Hp} {m : Nat} (h : tb { D with nx := fun σ' H' => ∃ m', m' < m ∧ Pv m' σ' H', ct := fun σ' H' => ∃ m', m' < m ∧ Pv m' σ' H', bk := D.nx } σ H) :
    ∃ N : L2.St → Hp → Prop, (∀ σ' H', N σ' H' → ∃ m', m' < m ∧ Pv m' σ' H') ∧ tb { D with nx := N, ct := N, bk := D.nx } σ H := ⟨fun σ' H' => ∃ m', m' < m ∧ Pv m' σ' H', fun _ _ h => h, h⟩
end PW
namespace PW
open PySem PySem.Spec PyProof.Rows L2
section
variable {H : Hp} {Q : VK} {K : PySem.W.Frag} {p b : Addr} {xs zs : List V} {y : V} {i : Int} {R : Prop}
theorem r_tyL (h : SqL K H p xs) (q : R) : tyV K "list" (.ref p) H ∧ R := ⟨Or.inl ⟨rfl, xs, h⟩, q⟩
theorem r_append (h : H p = some (.lst xs)) (l : xs.length < sizeLine) (q : Q .non (upd H p (.lst (xs ++ [y])))) : rAppend (.ref p) [y] H Q := ⟨p, xs, y, rfl, rfl, h, l, q⟩
theorem r_pop (h : H p = some (.lst xs)) (e : xs[xs.length - 1]? = some y) (q : Q y (upd H p (.lst xs.dropLast))) : rPop (.ref p) [] H Q := ⟨p, xs, y, rfl, rfl, h, e, q⟩
theorem r_insert (h : H p = some (.lst xs)) (l : xs.length < sizeLine) (h0 : 0 ≤ i) (h1 : i < 2 ^ 63) (q : Q .non (upd H p (.lst (xs.take i.toNat ++ [y] ++ xs.drop i.toNat)))) :
    ∃ (l : Addr) (ys : List V) (j : Int) (z : V), V.ref p = .ref l ∧ [V.int i, y] = [.int j, z] ∧ H l = some (.lst ys) ∧ ys.length < sizeLine ∧ 0 ≤ j ∧ j < 2 ^ 63 ∧ Q .non (upd H l (.lst (ys.take j.toNat ++ [z] ++ ys.drop j.toNat))) := ⟨p, xs, i, y, rfl, rfl, h, l, h0, h1, q⟩
theorem r_cat (h : H p = some (.lst xs)) (h2 : H b = some (.lst zs)) (l : xs.length + zs.length ≤ sizeLine) (q : ∀ r, H r = none → Q (.ref r) (upd H r (.lst (xs ++ zs)))) : rCat (.ref p) (.ref b) H Q := ⟨p, b, xs, zs, rfl, rfl, h, h2, l, q⟩
theorem r_sum {ns : List Int} (h : SqL K H p (ns.map V.int)) (q : Q (.int ns.sum) H) : rSum K [.ref p] H Q := ⟨p, ns, rfl, h, q⟩
end
end PW
namespace PW
open PySem PySem.Spec PyProof.Rows L2
theorem Ex.tupN {K : PySem.W.Frag} {p r : Addr} {o : HO} {H : Hp} {xs : List V} (h : H r = none) (q : SqT K H p xs) : SqT K (L2.upd H r o) p xs := (Ex.new h).tup q
theorem Ex.lstN {K : PySem.W.Frag} {p r : Addr} {o : HO} {H : Hp} {xs : List V} (h : H r = none) (q : SqL K H p xs) : SqL K (L2.upd H r o) p xs := (Ex.new h).lst q
end PW
namespace PW
open PySem PySem.Spec PyProof.Rows L2
theorem cx_K {CX : CXT} {P : Program} {w : World} {K : PySem.W.Frag} {mg : Str → Option Value} {base : Heap} {N : List Str} {qual : Str} {scope : Scope} {f : Addr} {cdv : Value} {A : Around} {outer : List Env} {s : Shared} {H : Hp} {E : XK} : (cxOf CX P w K mg base N qual scope f cdv A outer s H E).K = K := rfl
theorem nox_K {CX : CXT} {P : Program} {w : World} {K : PySem.W.Frag} {mg : Str → Option Value} {base : Heap} {N : List Str} {qual : Str} {scope : Scope} {f : Addr} {cdv : Value} {A : Around} {outer : List Env} {s : Shared} {H : Hp} {E : XK} : (cxOf CX P w K mg base N qual scope f cdv A outer s H E).nox.K = K := rfl
end PW
namespace PW
open PySem PySem.Spec PyProof.Rows L2
section
variable {X : Cx} {K : PySem.W.Frag}
theorem ix_seqK (h : X.K = K) : IxR X (rIx K) := by
  subst h
  exact ix_seq
theorem ix_listK (h : X.K = K) : IxR X (rIxL K) := by
  subst h
  exact ix_list
theorem ix_tupK (h : X.K = K) : IxR X (rIxT K) := by
  subst h
  exact ix_tup
end
end PW
namespace PW
open PySem PySem.Spec PyProof.Rows L2
theorem r_forP {J : It} {g : TG} {tb : TS} {D : Ends} {σ : L2.St} {H : Hp} (P : L2.St → Hp → Prop) (hq : ∀ σ' H', P σ' H' → D.nx σ' H') (h : ∀ N : L2.St → Hp → Prop, (∀ σ' H', P σ' H' → N σ' H') → ForW J g tb { D with nx := N } σ H) : ForW J g tb D σ H := h D.nx hq
theorem r_ifSP {t : TT} {s1 s2 : TS} {D : Ends} {σ : L2.St} {H : Hp} (P : L2.St → Hp → Prop) (hq : ∀ σ' H', P σ' H' → D.nx σ' H') (h : ∀ N : L2.St → Hp → Prop, (∀ σ' H', P σ' H' → N σ' H') → tIfS t s1 s2 { D with nx := N } σ H) : tIfS t s1 s2 D σ H := h D.nx hq
end PW
/-! ### own errors over ValueError, LookupError, IndexError: their built-in base -/
namespace PySem.W
open PySem PySem.Calls PyProof.Rows PySem.HandSPX
inductive EK where
  | ve
  | le
  | ie
namespace EK
def nm : EK → String
  | ve => "ValueError"
  | le => "LookupError"
  | ie => "IndexError"
def newId : EK → String
  | ve => "ValueError.__new__"
  | le => "LookupError.__new__"
  | ie => "IndexError.__new__"
def ini : EK → String
  | ve => "ValueError.__init__"
  | le => "LookupError.__init__"
  | ie => "IndexError.__init__"
def tail : EK → List Value
  | ve => [.type "ValueError", .type "Exception", .type "BaseException", .type "object"]
  | le => [.type "LookupError", .type "Exception", .type "BaseException", .type "object"]
  | ie => [.type "IndexError", .type "LookupError", .type "Exception", .type "BaseException", .type "object"]
theorem base : ∀ eb : EK, ExcBaseFacts eb.nm eb.newId eb.ini eb.tail
  | ve => F.excBase_ValueError
  | le => F.excBase_LookupError
  | ie => F.excBase_IndexError
theorem store : ∀ eb : EK, StoreFacts eb.nm eb.tail "object.__setattr__" "object"
  | ve => F.store_ValueError
  | le => F.store_LookupError
  | ie => F.store_IndexError
theorem kxs : ∀ eb : EK, KxsFacts eb.nm eb.ini
  | ve => kxs_ValueError
  | le => kxs_LookupError
  | ie => kxs_IndexError
end EK
/-- what the written part says of an own error's class over the built-in b -/
structure OexG (eb : EK) (K : Frag) (C : Addr) : Prop where
  cls : ∃ nm q N bs bm sn sub ab col dd k0 k1 k2 k3 k5, K.lookup C = some (excClassObj nm q C N bs bm true sn sub ab col dd k0 k1 k2 k3 k5 eb.newId) ∧ excTail eb.tail bm = true
  sa : findIn K (.ref C) "__setattr__" = some (some (.builtin "object.__setattr__"))
  exC : subIn K (.ref C) (.type "BaseException") = some true
  tyC : typeIn K (.ref C) = some (.type "type")
  kC : keepIn K (.ref C) = true
section
variable {prog : Program} {w : World} {A : Around} {R : Result → Shared → Prop} {hp : Heap} {g : Array GenState} {d : Drawn} {t : Nat} {os : OsState} {eb : EK} {K : Frag} {name : Str} {tk : Tok} {v : Value} {x C : Addr} {cd : ClassData} {bm : List Value}
theorem taker_no (ha : findIn K (.ref C) name = some none) : takerIn K C name = some none := by
  unfold takerIn
  rw [ha]
  rfl
theorem over_of (hcd : clsIn K C = some cd) (hm : cd.mro = .ref C :: bm) (ht : excTail eb.tail bm = true) : excOver K C eb.tail = true := by
  unfold excOver
  rw [hcd, Option.any_some, hm]
  simp only [beq_self_eq_true, Bool.true_and]
  exact ht
/-- a first field: the error's dict is made -/
theorem osaG_new {t1 : Addr} (X : K.In hp) (hx : hp.get? x = some (excO C t1)) (hcd : clsIn K C = some cd) (hm : cd.mro = .ref C :: bm) (ht : excTail eb.tail bm = true) (hh : cd.hasDict = true) (ha : findIn K (.ref C) name = some none)
    (hq : ∀ (h' : Heap) (tk' dx : Nat), (∀ b o, b ≠ x → hp.get? b = some o → h'.get? b = some o) → hp.objs.size ≤ dx → dx ≠ x → h'.get? x = some { cls := .ref C, dict := some dx, data := .fields #[.ref t1, .none, .none, .none, .bool false, .none] } →
      h'.Ns1 dx (fun y => if y = name then some v else none) → R (.ok (.ret .none)) ⟨h', g, d, tk', os⟩) :
    codeAny (model prog w) A (.call (.builtin "object.__setattr__") ⟨[.ref x, .str name tk, v], []⟩) R ⟨hp, g, d, t, os⟩ := by
  have ne : x ≠ hp.objs.size := Nat.ne_of_lt (Heap.lt_size hx)
  refine osa_openX (s := ⟨hp, g, d, t, os⟩) (ox := excO C t1) (od := none) eb.store X ⟨hx, rfl, rfl, trivial⟩ (over_of hcd hm ht) (taker_no ha) fun bb => ?_
  refine wpAny_bind (wpAny_pure (wpAny_bind (instanceDict_exc (s := ⟨hp, g, d, t, os⟩) (t := t1) (c2 := .none) hx (looks_clsIn X hcd) hh ?_)))
  show wpAny _ _ (Builtin.ObjectAttr.storeInDict hp.objs.size (.str name tk) name v) _ _ _
  refine PySem.PX.store_in_new ⟨_, #[], _, (Heap.get?_update_ne _ _ _ _ ne.symm).trans (Heap.get?_push_at rfl rfl), rfl, fun e he => absurd he (by simp), fun _ => rfl⟩ fun h' tk' hn' hs => ?_
  have hx2 : (hp.push (dictOf [] 0)).get? x = some (excO C t1) := Heap.get?_push_of_some _ hx
  refine hq h' tk' hp.objs.size (fun c o hc ho => ?_) (Nat.le_refl _) ne.symm ((hs.2 x ne).trans (Heap.get?_update_self _ hx2 rfl)) hn'
  exact (hs.2 c (Nat.ne_of_lt (Heap.lt_size ho))).trans ((Heap.get?_update_ne _ _ _ _ hc).trans (Heap.get?_push_of_some _ ho))
/-- a later field -/
theorem osaG_old {dx : Addr} {fv : Array Value} {m0 : Str → Option Value} {nl : List Str} (X : K.In hp) (hx : hp.get? x = some { cls := .ref C, dict := some dx, data := .fields fv }) (hns : hp.Ns1 dx m0) (hw : Within m0 nl) (hz : nl.length ≤ 1000)
    (hcd : clsIn K C = some cd) (hm : cd.mro = .ref C :: bm) (ht : excTail eb.tail bm = true) (hh : cd.hasDict = true) (ha : findIn K (.ref C) name = some none)
    (hq : ∀ (h' : Heap) (tk' : Nat), (∀ b o, b ≠ dx → hp.get? b = some o → h'.get? b = some o) → h'.Ns1 dx (fun y => if y = name then some v else m0 y) → R (.ok (.ret .none)) ⟨h', g, d, tk', os⟩) :
    codeAny (model prog w) A (.call (.builtin "object.__setattr__") ⟨[.ref x, .str name tk, v], []⟩) R ⟨hp, g, d, t, os⟩ := by
  obtain ⟨oD, esD, epD, hoD, hdD, _⟩ := hns.count hw
  refine osa_openX (s := ⟨hp, g, d, t, os⟩) (ox := { cls := .ref C, dict := some dx, data := .fields fv }) (od := some oD) eb.store X ⟨hx, rfl, rfl, hoD⟩ (over_of hcd hm ht) (taker_no ha) fun bb => ?_
  refine wpAny_bind (wpAny_pure (wpAny_bind (wpAny_bind (wpAny_loadPart hx (wpAny_bind ((looks_clsIn X hcd).here ?_))))))
  rw [hh]
  refine wpAny_pure (a := some dx) ?_
  show wpAny _ _ (Builtin.ObjectAttr.storeInDict dx (.str name tk) name v) _ _ _
  exact PySem.PX.store_in_old hns hw hz fun h' tk' hn' hs => hq h' tk' (fun c o hc ho => (hs.2 c hc).trans ho) hn'
end
end PySem.W
/-! ### own errors whose __init__ says super().__init__(), made -/
namespace PySem.W
open PySem PySem.Calls PyProof.Rows PySem.HandSPX
section
variable {prog : Program} {w : World} {A : Around} {E : Value → Shared → Prop} {h : Heap} {g : Array GenState} {d : Drawn} {t : Nat} {os : OsState}
variable {nm q : Str} {C N : Addr} {bs bm : List Value} {hdct : Bool} {sn : List Str} {sub : List Value} {ab : Bool} {col : Option Bool} {dd : Option Addr} {k0 k1 k2 k3 k5 : Option Value}
/-- the bound ValueError.__init__ called with nothing -/
theorem call_mwV (eb : EK) {u e t0 : Addr} {Q : Value → Shared → Prop} (hC : h.get? C = some (excClassObj nm q C N bs bm hdct sn sub ab col dd k0 k1 k2 k3 k5 eb.newId)) (he : h.get? e = some (excO C t0)) (hu : h.get? u = some (kxs_mw eb.ini e))
    (hq : ∀ h' t1, (∀ b o, b ≠ e → h.get? b = some o → h'.get? b = some o) → h'.get? e = some (excO C t1) → Q .none ⟨h', g, d, t, os⟩) : wpAny (model prog w) A (call (.ref u) []) Q E ⟨h, g, d, t, os⟩ := by
  have hmw : (Value.type "method-wrapper" == Value.type "method" || Value.type "method-wrapper" == Value.type "builtin_function_or_method" || Value.type "method-wrapper" == Value.type "method-wrapper") = true := by decide
  refine wpAny_call (codeAny_of_tree (show wpAny (model prog w) A.in1 (callAny (.ref u) ⟨[], []⟩) _ _ _ from ?_))
  simp only [callAny]
  refine wpAny_bind (wpAny_load hu ?_)
  simp only [kxs_mw, hmw, if_true]
  refine KFB.if_so (by decide) (wpAny_bind (ESX.check_bound eb.base hC he rfl (wpAny_bind (wpAny_pure (wpAny_pure ?_)))))
  refine ⟨plainId_quiet eb.base.init.plain _, codeAny_builtin eb.base.initEntry ?_⟩
  rw [Around.under_plainId eb.base.init.plain _]
  wp_walk
  exact hq _ h.objs.size (fun b o nb ob => (Heap.get?_update_other _ _ (Ne.symm nb)).trans (Heap.get?_push_of_some _ ob)) ((Heap.get?_update_self _ (Heap.get?_push_of_some _ he) rfl).trans rfl)
end
/-- what the written part says of the __init__ at fI of the class at C: super().__init__(); self.tag = ..; (self.x = x) -/
structure InitFn (eb : EK) (K : Frag) (prog : Program) (C fI : Addr) (qual : Str) (params : Arguments) (body : List Stmt) (scope : Scope) : Prop where
  ex : ∃ (oc kV doc pm ct : Value) (od an : Option Addr) (osl : Array (Option Value)) (cc cda : Addr) (ccl cl : Value) (cdd cld : Option Addr) (vs : Array Value) (ccs csl : Array (Option Value)) (file : Str) (tf : Tok),
    K.lookup fI = some ⟨oc, od, .func (ksFn "__init__" qual params body scope .none kV doc pm an (.ref cda) ct cc), osl⟩ ∧ codeIn K (.ref cda) qual = true ∧ K.lookup cda = some ⟨ccl, cdd, .fields vs, ccs⟩ ∧ vs[2]? = some (.str file tf) ∧
      ((prog.main.file : Str) == file) = true ∧ K.lookup cc = some ⟨cl, cld, .cell (some (.ref C)), csl⟩
  sup : nsIn K mainGlobals "super" = some none
  top : (prog.main.scope.names.lookup ("super" : Str)).isSome = false
  any : nsIn K cStatics "thirdparty.any" = some none
  mro : ks_superIn K C C "__init__" = some (some (.builtin eb.ini))
  sub : mroIn K C (.ref C) = some true
  ve : subIn K (.ref C) (.type eb.nm) = some true
section
variable {eb : EK} {prog : Program} {w : World} {A : Around} {s : Shared} {K : Frag} {C fI : Addr} {qual : Str} {params : Arguments} {body : List Stmt} {scope : Scope} {mg mb : Str → Option Value}
/-- the end of an __init__: x has its dict -/
structure InitEnd (h h' : Heap) (x C dx t1 : Addr) (m : Str → Option Value) : Prop where
  keep : ∀ b o, b ≠ x → h.get? b = some o → h'.get? b = some o
  obj : h'.get? x = some { cls := .ref C, dict := some dx, data := .fields #[.ref t1, .none, .none, .none, .bool false, .none] }
  dbig : h.objs.size ≤ dx
  dne : dx ≠ x
  ns : h'.Ns1 dx m
theorem init_run (T : OexG eb K C) (F : InitFn eb K prog C fI qual params body scope) {R : Result → Shared → Prop} {x t0 : Addr} {args : List Value} {binds : List (Str × Value)} (X : K.In s.heap) (hg : s.heap.Ns mainGlobals mg) (hb : s.heap.Ns builtinsNs mb) (hbs : mb "super" = some (.type "super"))
    (hlim : s.heap.NoLimit) (hx : s.heap.get? x = some (excO C t0)) (hroom : A.depth < recursionLimit)
    (hbind : ∀ (oc kV doc pm ct : Value) (an : Option Addr) (cc cda : Addr), BindsTo s (ksFn "__init__" qual params body scope .none kV doc pm an (.ref cda) ct cc) ⟨.ref x :: args, []⟩ binds)
    (hcell : ∀ y ∈ scope.names, y.2 ≠ .cell) (hloc : ∀ y ∈ binds, scope.names.lookup y.1 = some .local)
    (hco : scope.isCoroutine = false) (hgen : scope.isGenerator = false) (hk : scope.kind = .function)
    {p0 p1 p2 p3 p4 : Pos} {rest : List Stmt} {ar : Arg} {pl : Env → Sem Bool} (hmg : mg "super" = none) (hi : ∀ L cda cc, interactive (ksEnv qual scope L fI (.ref cda) cc) = false)
    (he : ∀ env : Env, eval (.Call (.Attribute (.Call (.Name "super" p0) [] [] p1) "__init__" p2) [] [] p3) env = (do
      let ov ← attributeBase (.Call (.Name "super" p0) [] [] p1) "__init__" env (eval (.Call (.Name "super" p0) [] [] p1) env)
      standAt p2.atName
      let (f, first) ← holding [ov] (getMethod ov "__init__" (pl env))
      callWith p3 f first (backTo p3 (starEach [] env)) [])) (hsw : ∀ env : Env, swapsWith (.Call (.Attribute (.Call (.Name "super" p0) [] [] p1) "__init__" p2) [] [] p3) none p4.line env = pure false)
    (hbody : body = .Expr (.Call (.Attribute (.Call (.Name "super" p0) [] [] p1) "__init__" p2) [] [] p3) p4 :: rest)
    (hp : (params.posonlyargs ++ params.args).head? = some ar) (hself : binds.reverse.lookup ar.arg = some (.ref x)) (hks : scope.names.lookup ("super" : Str) = some .globalImplicit) (hkc : scope.names.lookup ("__class__" : Str) = some .free) (hka : scope.names.lookup ar.arg = some .local)
    (h : ∀ (L cda cc : Addr) (s1 : Shared) (t1 : Addr), s1.os = s.os → s1.gens = s.gens → s1.drawn = s.drawn → s1.heap.Ns L (fun y => binds.reverse.lookup y) → s.heap.objs.size ≤ L → (∀ b o, b ≠ x → s.heap.get? b = some o → s1.heap.get? b = some o) → s1.heap.get? x = some (excO C t1) →
      wpAny (model prog w) (A.deeper (ksEnv qual scope L fI (.ref cda) cc)) (execs rest (ksEnv qual scope L fI (.ref cda) cc)) (fun f s' => R (.ok (.ret (match f with | .ret v => v | _ => .none))) s')
        (fun e s' => wpAny (model prog w) (A.deeper (ksEnv qual scope L fI (.ref cda) cc)) (leaving (ksEnv qual scope L fI (.ref cda) cc) e) (fun _ s'' => R (.error e) s'') (fun e' s'' => R (.error e') s'') s') s1) :
    codeAny (model prog w) A (.call (.ref fI) ⟨.ref x :: args, []⟩) R s := by
  obtain ⟨oc, kV, doc, pm, ct, od, an, osl, cc, cda, ccl, cl, cdd, cld, vs, ccs, csl, file, tf, lk, hcd, lc, hvs, hfile, lcc⟩ := F.ex
  obtain ⟨nm, q, N, bs, bm, sn, sub, ab, col, dd, k0, k1, k2, k3, k5, hC, hbm⟩ := T.cls
  have hcl : clsIn K C = some { name := nm, bases := bs, mro := .ref C :: bm, ns := N, qualname := q, hasDict := true, slotNames := sn, subclasses := sub, abstract := ab, collection := col, hasDel := false } := by unfold clsIn; rw [hC] <;> rfl
  refine ks_codeAny_call_defAt (fd := ksFn "__init__" qual params body scope .none kV doc pm an (.ref cda) ct cc) (body := body) (binds := binds) hroom (X _ _ lk) rfl hlim (codeRec_of X hcd) rfl (hbind oc kV doc pm ct an cc cda) hcell hloc (fun h₁ hns kp => ?_) hco hgen hk
  subst hbody
  have X1 : K.In h₁ := X.keeps kp
  have hx1 := kp _ _ hx
  have xL : s.heap.objs.size ≠ x := Nat.ne_of_gt (Heap.lt_size hx)
  have xC : x ≠ C := fun z => by
    have z1 := X _ _ hC
    rw [← z, hx] at z1
    cases z1
  obtain ⟨hh, g, d, t, os⟩ := s
  refine ks_wpAt_execs_cons (ks_wpAt_Expr_any (ks_wpAt_MethodCall (pl := pl (ksEnv qual scope hh.objs.size fI (.ref cda) cc)) ?_ (he _)) (hi _ _ _) (hsw _))
  refine ks_wpAt_super_base (env := ksEnv qual scope hh.objs.size fI (.ref cda) cc) hks hkc rfl rfl (X1 _ _ lk) rfl hp rfl (X1 _ _ lc) rfl hvs hfile F.top ?_
  refine ks_loadName_global hk hks (loadGlobal_builtin (env := ksEnv qual scope hh.objs.size fI (.ref cda) cc) (hg.keeps kp) hmg (hb.keeps kp) hbs ⟨rfl, ?_⟩)
  refine wpAny_loadName_free hk hkc rfl ⟨_, X1 _ _ lcc, rfl⟩ (wpAny_loadName_local hk hka hns hself ?_)
  refine ks_wpAny_isType_cls (X1 _ _ hC) rfl ⟨rfl, ?_⟩
  refine ks_wpAny_call_super (X1 _ _ hC) rfl hx1 rfl (fun c e => by cases e) (looks_mroIn X1 F.sub) (fun h2 e2 k2 => ?_)
  have X2 : K.In h2 := X1.keeps k2
  have I2 : InstAt h2 x (excO C t0) C none := ⟨k2 _ _ hx1, rfl, rfl, trivial⟩
  have hmro := F.mro
  unfold ks_superIn at hmro
  rw [hcl] at hmro
  refine kxs_getMethod eb.kxs e2 (looks_opaque X2 F.any) (l₀ := .ref C :: bm) (fun A Q E s k q => wpAny_bind ((looks_clsIn X2 hcl) A _ E s k (wpAny_pure q))) rfl X2 hmro (I2.type.andThen (looks_subIn X2 F.ve)) xC rfl ?_
  have k3 : ∀ b o, h2.get? b = some o → (h2.push (kxs_mw eb.ini x)).get? b = some o := fun b o e => Heap.get?_push_of_some _ e
  refine kxs_callWith (i := eb.ini) (x := x) rfl (evalArgs_empty ⟨Heap.get?_push_at rfl rfl, ?_⟩)
  refine call_mwV eb (k3 _ _ (X2 _ _ hC)) (k3 _ _ (k2 _ _ hx1)) (Heap.get?_push_at rfl rfl) fun h4 t1 k4 hx4 => ?_
  have kk : ∀ b o, b ≠ x → h₁.get? b = some o → h4.get? b = some o := fun b o nb e => k4 b o nb (k3 b o (k2 b o e))
  refine wpAt_of_wpAny (h hh.objs.size cda cc ⟨h4, g, d, _, os⟩ t1 rfl rfl rfl ?_ (Nat.le_refl _) (fun b o nb e => kk b o nb (kp b o e)) hx4)
  exact hns.at fun o e => kk _ o xL e
theorem in_but {K : Frag} {h h' : Heap} {x : Addr} (X : K.In h) (hx : K.lookup x = none) (k : ∀ b o, b ≠ x → h.get? b = some o → h'.get? b = some o) : K.In h' := fun a o e => k a o (fun z => by
  rw [z, hx] at e
  cases e) (X a o e)
/-- self.tag = t; self.f = f -/
theorem init1_run (T : OexG eb K C) {R : Result → Shared → Prop} {A' : Around} {L cda cc x t1 : Addr} {m : Str → Option Value} {tag fld : Str} {v : Value} {q1 q2 q3 q4 r1 r2 r3 r4 : Pos} {j : Nat} {EE : Value → Shared → Prop} (X : K.In s.heap) (hn : s.heap.Ns L m) (hms : m "self" = some (.ref x)) (hmv : m fld = some v)
    (hx : s.heap.get? x = some (excO C t1)) (xK : K.lookup x = none) (hxL : L ≠ x) (hk : scope.kind = .function) (hl1 : scope.names.lookup ("self" : Str) = some .local) (hl2 : scope.names.lookup fld = some .local) (hd2 : (fld == ("__debug__" : Str)) = false) (n1 : findIn K (.ref C) "tag" = some none) (n2 : findIn K (.ref C) fld = some none)
    (h : ∀ (h' : Heap) (tk dx : Nat) (tu : Tok), InitEnd s.heap h' x C dx t1 (fun y => if y = fld then some v else if y = "tag" then some (.str tag tu) else none) → R (.ok (.ret .none)) { s with heap := h', toks := tk }) :
    wpAny (model prog w) A' (execs [.Assign [.Attribute (.Name "self" q1) "tag" q2] (.Constant (.str tag) j q3) q4, .Assign [.Attribute (.Name "self" r1) fld r2] (.Name fld r3) r4] (ksEnv qual scope L fI (.ref cda) cc)) (fun f s' => R (.ok (.ret (match f with | .ret v => v | _ => .none))) s') EE s := by
  obtain ⟨nm, q, N, bs, bm, sn, sub, ab, col, dd, k0, k1, k2, k3, k5, hC, hbm⟩ := T.cls
  have hcl : clsIn K C = some { name := nm, bases := bs, mro := .ref C :: bm, ns := N, qualname := q, hasDict := true, slotNames := sn, subclasses := sub, abstract := ab, collection := col, hasDel := false } := by unfold clsIn; rw [hC] <;> rfl
  refine wpAny_execs_cons (plainObj_wpAny_Assign_Attribute (wpAny_Constant_str (wpAny_Name (wpAny_loadName_local hk hl1 hn hms ?_) (by decide))))
  obtain ⟨hp, g, d, t, os⟩ := s
  refine set_plain (s := ⟨hp, g, d, t + 1, os⟩) X (ox := excO C t1) (od := none) ⟨hx, rfl, rfl, trivial⟩ T.sa ?_
  refine osaG_new X hx hcl rfl hbm rfl n1 (fun h3 tk3 dx kp dn dne hx3 hn3 => ?_)
  have X3 : K.In h3 := in_but X xK kp
  have hn4 : h3.Ns L m := hn.at fun o e => kp _ o hxL e
  show wpAny _ _ (execs _ _) _ _ ⟨h3, g, d, tk3, os⟩
  refine wpAny_execs_cons (plainObj_wpAny_Assign_Attribute (wpAny_Name (wpAny_loadName_local hk hl2 hn4 hmv (wpAny_Name (wpAny_loadName_local hk hl1 hn4 hms ?_) (by decide))) hd2))
  obtain ⟨oD, esD, epD, hoD, hdD, hcD⟩ := id hn3
  refine set_plain (s := ⟨h3, g, d, tk3, os⟩) X3 (ox := { cls := .ref C, dict := some dx, data := .fields #[.ref t1, .none, .none, .none, .bool false, .none] }) (od := some oD) ⟨hx3, rfl, rfl, hoD⟩ T.sa ?_
  refine osaG_old (nl := ["tag"]) X3 hx3 hn3 (Within.cons "tag" _ Within.nil) (by decide) hcl rfl hbm rfl n2 (fun h5 tk5 kp5 hn5 => ?_)
  show wpAny _ _ (execs _ _) _ _ ⟨h5, g, d, tk5, os⟩
  refine wpAny_execs_nil (h h5 tk5 dx _ ⟨fun b o nb e => kp5 b o (Nat.ne_of_lt (Nat.lt_of_lt_of_le (Heap.lt_size e) dn)) (kp b o nb e), kp5 _ _ dne.symm hx3, dn, dne, hn5⟩)
/-- self.tag = t -/
theorem init0_run (T : OexG eb K C) {R : Result → Shared → Prop} {A' : Around} {L cda cc x t1 : Addr} {m : Str → Option Value} {tag : Str} {q1 q2 q3 q4 : Pos} {j : Nat} {EE : Value → Shared → Prop} (X : K.In s.heap) (hn : s.heap.Ns L m) (hms : m "self" = some (.ref x))
    (hx : s.heap.get? x = some (excO C t1)) (hk : scope.kind = .function) (hl1 : scope.names.lookup ("self" : Str) = some .local) (n1 : findIn K (.ref C) "tag" = some none)
    (h : ∀ (h' : Heap) (tk dx : Nat) (tu : Tok), InitEnd s.heap h' x C dx t1 (fun y => if y = "tag" then some (.str tag tu) else none) → R (.ok (.ret .none)) { s with heap := h', toks := tk }) :
    wpAny (model prog w) A' (execs [.Assign [.Attribute (.Name "self" q1) "tag" q2] (.Constant (.str tag) j q3) q4] (ksEnv qual scope L fI (.ref cda) cc)) (fun f s' => R (.ok (.ret (match f with | .ret v => v | _ => .none))) s') EE s := by
  obtain ⟨nm, q, N, bs, bm, sn, sub, ab, col, dd, k0, k1, k2, k3, k5, hC, hbm⟩ := T.cls
  have hcl : clsIn K C = some { name := nm, bases := bs, mro := .ref C :: bm, ns := N, qualname := q, hasDict := true, slotNames := sn, subclasses := sub, abstract := ab, collection := col, hasDel := false } := by unfold clsIn; rw [hC] <;> rfl
  refine wpAny_execs_cons (plainObj_wpAny_Assign_Attribute (wpAny_Constant_str (wpAny_Name (wpAny_loadName_local hk hl1 hn hms ?_) (by decide))))
  obtain ⟨hp, g, d, t, os⟩ := s
  refine set_plain (s := ⟨hp, g, d, t + 1, os⟩) X (ox := excO C t1) (od := none) ⟨hx, rfl, rfl, trivial⟩ T.sa ?_
  refine osaG_new X hx hcl rfl hbm rfl n1 (fun h3 tk3 dx kp dn dne hx3 hn3 => ?_)
  show wpAny _ _ (execs _ _) _ _ ⟨h3, g, d, tk3, os⟩
  exact wpAny_execs_nil (h h3 tk3 dx _ ⟨kp, hx3, dn, dne, hn3⟩)
/-- a made error -/
structure ExcMade (h h' : Heap) (e C d : Addr) (m : Str → Option Value) : Prop where
  keep : ∀ b o, h.get? b = some o → h'.get? b = some o
  new : h.objs.size ≤ e
  obj : ∃ oe vs, h'.get? e = some oe ∧ oe.cls = .ref C ∧ oe.dict = some d ∧ oe.data = .fields vs ∧ vs[1]? = some .none
  dbig : h.objs.size ≤ d
  dne : d ≠ e
  ns : h'.Ns1 d m
/-- C(..): given what its __init__ does -/
theorem exc_made (T : OexG eb K C) (iC : findIn K (.ref C) "__init__" = some (some (.ref fI))) (tC : typeIn K (.ref fI) = some (.type "function")) {R : Result → Shared → Prop} {args : List Value} (X : K.In s.heap) (hz : args.length ≤ sizeLine)
    {M : (Str → Option Value) → Prop}
    (hinit : ∀ (A' : Around) (h2 : Heap) (x t0 : Addr) (R' : Result → Shared → Prop), A'.depth = A.depth + 1 → (∀ b o, s.heap.get? b = some o → h2.get? b = some o) → K.lookup x = none → h2.get? x = some (excO C t0) →
      (∀ (h' : Heap) (tk dx t1 : Nat) (m : Str → Option Value), M m → InitEnd h2 h' x C dx t1 m → R' (.ok (.ret .none)) ⟨h', s.gens, s.drawn, tk, s.os⟩) → codeAny (model prog w) A' (.call (.ref fI) ⟨.ref x :: args, []⟩) R' ⟨h2, s.gens, s.drawn, s.toks, s.os⟩)
    (hq : ∀ h' tk e d m, M m → ExcMade s.heap h' e C d m → R (.ok (.ret (.ref e))) { s with heap := h', toks := tk }) : codeAny (model prog w) A (.call (.ref C) ⟨args, []⟩) R s := by
  obtain ⟨nm, q, N, bs, bm, sn, sub, ab, col, dd, k0, k1, k2, k3, k5, hC, hbm⟩ := T.cls
  obtain ⟨hp, g, dr, tk, os⟩ := s
  have kp : ∀ b o, hp.get? b = some o → ((hp.push (kdv_tup args)).push (excO C hp.objs.size)).get? b = some o := fun b o e => Heap.get?_push_of_some _ (Heap.get?_push_of_some _ e)
  have hget : ((hp.push (kdv_tup args)).push (excO C hp.objs.size)).get? (hp.objs.size + 1) = some (excO C hp.objs.size) := by heap_get
  have xK : K.lookup (hp.objs.size + 1) = none := by
    cases e : K.lookup (hp.objs.size + 1) with
    | none => rfl
    | some o => exact absurd (Nat.lt_of_succ_lt (Heap.lt_size (show hp.get? (hp.objs.size + 1) = some o from X _ _ e))) (Nat.lt_irrefl _)
  refine call_own eb.base (fun Y => excTail_contains Y bm hbm) (X _ _ hC) (looks_findIn X iC) (fun self => bind_fn X self tC) hz ?_
  refine hinit _ _ _ hp.objs.size _ rfl kp xK hget fun h' tk' dx t1 m hm ⟨k', hx, dn, dne, hns⟩ => ?_
  have old : ∀ b o, hp.get? b = some o → h'.get? b = some o := fun b o e => k' b o (Nat.ne_of_lt (Nat.lt_succ_of_lt (Heap.lt_size e))) (kp b o e)
  have zz : hp.objs.size + 1 + 1 ≤ dx := by
    have z := dn
    rw [Heap.size_push, Heap.size_push] at z
    exact z
  exact ⟨rfl, hq h' tk' (hp.objs.size + 1) dx m hm ⟨old, Nat.le_succ _, ⟨_, _, hx, rfl, rfl, rfl, rfl⟩, Nat.le_trans (Nat.le_trans (Nat.le_succ _) (Nat.le_succ _)) zz, dne, hns⟩⟩
end
end PySem.W
/-! ### own errors in the hand layer -/
namespace PW
open PySem PySem.Spec PyProof.Rows L2
/-- C(v) makes an error of C with tag and field -/
def Makes1 (P : Program) (w : World) (K : PySem.W.Frag) (mg : Str → Option Value) (C : Addr) (tag fld : Str) : Prop :=
  ∀ (A : Around) (s : Shared) (v : Value) (R : Result → Shared → Prop), K.In s.heap → s.heap.Ns mainGlobals mg → (∃ mb, s.heap.Ns builtinsNs mb ∧ ∀ x : Str, x ≠ "__name__" → mb x = bootBuiltins x) → s.heap.NoLimit → A.depth + 1 < recursionLimit →
    (∀ (h' : Heap) (tk e d : Nat) (tu : Tok), PySem.W.ExcMade s.heap h' e C d (fun y => if y = fld then some v else if y = "tag" then some (.str tag tu) else none) → R (.ok (.ret (.ref e))) { s with heap := h', toks := tk }) →
      codeAny (model P w) A (.call (.ref C) ⟨[v], []⟩) R s
/-- C() makes an error of C with its tag -/
def Makes0 (P : Program) (w : World) (K : PySem.W.Frag) (mg : Str → Option Value) (C : Addr) (tag : Str) : Prop :=
  ∀ (A : Around) (s : Shared) (R : Result → Shared → Prop), K.In s.heap → s.heap.Ns mainGlobals mg → (∃ mb, s.heap.Ns builtinsNs mb ∧ ∀ x : Str, x ≠ "__name__" → mb x = bootBuiltins x) → s.heap.NoLimit → A.depth + 1 < recursionLimit →
    (∀ (h' : Heap) (tk e d : Nat) (tu : Tok), PySem.W.ExcMade s.heap h' e C d (fun y => if y = "tag" then some (.str tag tu) else none) → R (.ok (.ret (.ref e))) { s with heap := h', toks := tk }) →
      codeAny (model P w) A (.call (.ref C) ⟨[], []⟩) R s
def tMk1 (C : Addr) (tag fld : Str) (ta : TA) : L2.St → Hp → XK → Prop := fun σ H Q => ta σ H fun vs H1 => ∃ v, vs = [v] ∧ ∀ d, H1 d = none → Q (.ref C) (some d) (upd H1 d (.xd [(fld, v), ("tag", .str tag)]))
def tMk0 (C : Addr) (tag : Str) : L2.St → Hp → XK → Prop := fun σ H Q => ∀ d, H d = none → Q (.ref C) (some d) (upd H d (.xd [("tag", .str tag)]))
section
variable {X : Cx} {C : Addr} {pins : List (Addr × Obj)} {σ : L2.St} {H : Hp} {Q : XK}
/-- what a made error leaves -/
theorem mkP_of {h h' : Heap} {g : Array GenState} {dr : Drawn} {t t' : Nat} {os : OsState} {e d : Addr} {m : Str → Option Value} {fs : List (Str × V)} (I : Inv X pins σ H ⟨h, g, dr, t, os⟩) (M : PySem.W.ExcMade h h' e C d m) (r : ∀ f, RelO (fs.lookup f) (m f)) (hr : Raises X (.ref C)) (q : Q (.ref C) (some d) (upd H d (.xd fs))) :
    MkP X pins σ Q (.ref e) ⟨h', g, dr, t', os⟩ := by
  obtain ⟨oe, fv, hoe, hc, hd, hdat, h1⟩ := M.obj
  obtain ⟨G, g1, g2⟩ := restrict h' fun b => decide (b ≠ e)
  have gk : ∀ b, b ≠ e → G.get? b = h'.get? b := fun b hb => g1 b (decide_eq_true hb)
  have ge : G.get? e = none := g2 e (by simp)
  have old : ∀ b o, h.get? b = some o → G.get? b = some o := fun b o z => (gk b (Nat.ne_of_lt (Nat.lt_of_lt_of_le (Heap.lt_size z) M.new))).trans (M.keep b o z)
  have ob : ObjOk X.prog X.w (upd H d (.xd fs)) G d (.xd fs) := ⟨_, M.ns.at (fun o z => (gk d M.dne).trans z), r⟩
  have J : Inv X pins σ (upd H d (.xd fs)) ⟨G, g, dr, t', os⟩ := I.laid (t' := t') old M.dbig ob
  refine ⟨e, oe, fv, ⟨G, g, dr, t', os⟩, _, .ref C, some d, rfl, J, fun b o z => ?_, ge, hoe, ⟨hc, hd⟩, hdat, h1, (upd_ne (Ne.symm M.dne)).trans (I.hok.fresh M.new), rfl, I.bare, hr, q⟩
  have hb : b ≠ e := fun hb => by
    rw [hb] at z
    rw [show G.get? e = some o from z] at ge
    cases ge
  exact (gk b hb).symm.trans z
section
variable {a : Expr} {ta : TA} {p pos : Pos} {x tag fld : Str} {k : Nat}
theorem pmk1 (M : Makes1 X.prog X.w X.K X.mg C tag fld) (hnf : fld ≠ "tag") (rs : Raises X (.ref C)) (kC : PySem.W.keepIn X.K (.ref C) = true) (gC : X.mg x = some (.ref C)) (hr : Room k X.A) (ha : PA X [a] ta) (hg : Gl X x) (hdb : (x == ("__debug__" : Str)) = false := by decide)
    (he : starEach (a :: []) X.env = (false, eval a X.env) :: starEach [] X.env := by rfl) (hpl : (backTo pos (starEach [] X.env)).any (·.1) = false := by rfl) : PMk X (.Call (.Name x p) [a] [] pos) (tMk1 C tag fld ta) := by
  intro pins s σ H Q I h
  refine wpAny_Call_Name_kw (ld_glob I hg gC ?_ hdb)
  refine PySem.W.callWith_K (h₀ := X.base) I.ok.mod.kin kC (thn (ha.run pos pins s σ H _ I h) fun us s1 hh => ?_) he hpl
  obtain ⟨vs, H1, I1, r1, v, rfl, q1⟩ := hh
  refine ⟨I1.kIn, ?_⟩
  cases r1 with
  | cons rv rn =>
    rename_i v' us'
    cases rn
    obtain ⟨hp, g, dr, tk, os⟩ := s1
    obtain ⟨mb, b1, b2⟩ := I1.mod.blt
    refine wpAny_call (M X.A _ v' _ I1.kIn (I1.mod.glob.keeps I1.bk) ⟨mb, b1.keeps I1.bk, b2⟩ I1.nolimit (by have := hr.dp; omega) fun h' tk' e d tu ME => ?_)
    exact mkP_of I1 ME (relO_put rv (relO_put (y := .str tag) (fs := []) ⟨tu, rfl⟩ fun g => True.intro)) rs (q1 d (I1.hok.fresh ME.dbig))
theorem pmk0 (M : Makes0 X.prog X.w X.K X.mg C tag) (rs : Raises X (.ref C)) (kC : PySem.W.keepIn X.K (.ref C) = true) (gC : X.mg x = some (.ref C)) (hr : Room k X.A) (hg : Gl X x) (hdb : (x == ("__debug__" : Str)) = false := by decide) : PMk X (.Call (.Name x p) [] [] pos) (tMk0 C tag) := by
  intro pins s σ H Q I h
  refine wpAny_Call_Name_kw (ld_glob I hg gC ?_ hdb)
  obtain ⟨hp, g, dr, tk, os⟩ := s
  obtain ⟨mb, b1, b2⟩ := I.mod.blt
  refine PySem.W.callWith_K0 I.kIn kC (wpAny_call (M X.A _ _ I.kIn (I.mod.glob.keeps I.bk) ⟨mb, b1.keeps I.bk, b2⟩ I.nolimit (by have := hr.dp; omega) fun h' tk' e d tu ME => ?_))
  exact mkP_of I ME (relO_put (y := .str tag) (fs := []) ⟨tu, rfl⟩ fun g => True.intro) rs (h d (I.hok.fresh ME.dbig))
end
end
end PW
/-! ### an error caught: from then on it is known by its class and its dict -/
namespace PW
open PySem PySem.Spec PyProof.Rows L2
/-- an error that stands -/
def excE (a : Addr) (cls : Value) (d : Option Addr) : HO := .ext fun h => ∃ oe vs, h.get? a = some oe ∧ Zc cls d oe ∧ oe.data = .fields vs
theorem excE_ok {P : Program} {w : World} {H : Hp} {h : Heap} {a : Addr} {cls : Value} {d : Option Addr} {oe : Obj} {vs : Array Value} (he : h.get? a = some oe) (hz : Zc cls d oe) (hd : oe.data = .fields vs) : ObjOk P w H h a (excE a cls d) :=
  ⟨⟨oe, vs, he, hz, hd⟩, ⟨oe, he⟩, fun _ _ ⟨oe, vs, e1, e2, e3⟩ st => ⟨oe, vs, st _ e1, e2, e3⟩⟩
section
variable {X : Cx} {pins pn' : List (Addr × Obj)} {σ : L2.St} {H : Hp} {s : Shared} {a : Addr}
theorem adopt {cls : Value} {d : Option Addr} {oe : Obj} {vs : Array Value} (I : Inv X pins σ H s) (na : H a = none) (n0 : X.s_0.heap.get? a = none) (he : s.heap.get? a = some oe) (hz : Zc cls d oe) (hd : oe.data = .fields vs) (nL : a ≠ X.env.locals) (np : ∀ p ∈ X.pn ++ pins, p.1 ≠ a) :
    Inv X pins σ (upd H a (excE a cls d)) s := by
  have sm : ∀ {b : Addr} {o : HO}, H b = some o → upd H a (excE a cls d) b = some o := fun {b o} e => (upd_ne (ne_of_none e na)).trans e
  have nn : ∀ {b : Addr}, b ≠ a → H b = none → upd H a (excE a cls d) b = none := fun {b} hb e => (upd_ne hb).trans e
  refine ⟨I.ok, I.os, I.bare, ⟨I.base.keep, I.base.slot, fun b o e n hx => nn (fun z => ?_) (I.base.free b o e n hx), I.base.there, fun b xs e => sm (I.base.tups b xs e), fun b o u e => sm (I.base.frzs b o u e), fun b ps e => ?_⟩, I.loc, I.cell, nn nL.symm I.free, fun x c e => nn (fun z => ?_) (I.freeC x c e), fun p hp => ?_, fun b o e => ?_, I.len⟩
  · rw [z, n0] at e
    cases e
  · obtain ⟨more, z⟩ := I.base.tbls b ps e
    exact ⟨more, sm z⟩
  · obtain ⟨v, o, ho, hc⟩ := I.cell x c e
    rw [z, he] at ho
    cases ho
    rw [hd] at hc
    cases hc
  · obtain ⟨a1, a2, a3⟩ := I.pin p hp
    exact ⟨a1, nn (np p hp) a2, a3⟩
  · by_cases hb : b = a
    · subst hb
      rw [upd_same] at e
      cases e
      exact excE_ok he hz hd
    · rw [upd_ne hb] at e
      exact (I.hok b o e).stay (fun _ _ _ q => q) (fun c q => sm q) fun c xs q => sm q
theorem inE (I : Inv X pins σ H s) : Inv (X.suite a (X.pn ++ pins)) [] σ H s := ⟨I.ok.suite _ _, I.os, I.bare, I.base, I.loc, I.cell, I.free, I.freeC, fun p hp => I.pin p (by rw [List.append_nil] at hp; exact hp), I.hok, I.len⟩
theorem outE (I : Inv (X.suite a (X.pn ++ pins)) pn' σ H s) (ok : X.Ok) : Inv X pins σ H s := ⟨ok, I.os, I.bare, I.base, I.loc, I.cell, I.free, I.freeC, fun p hp => I.pin p (List.mem_append_left _ hp), I.hok, I.len⟩
end
theorem flyZ_keeps {B h h' : Heap} {l : List Env} {e : Addr} {Z : Obj → Prop} (f : PySem.HandSPX.FlyingZ B l e Z h) (k : ∀ b o, h.get? b = some o → h'.get? b = some o) : PySem.HandSPX.FlyingZ B l e Z h' := by
  obtain ⟨f1, f2, f3, oe, vs, T, oT, ts, he, hz, hd, h1, hn, hne, hT, hdT, h3⟩ := f
  exact ⟨fun b o q => k b o (f1 b o q), f2, f3.of_keeps fun b o q _ => ⟨o, k b o q, rfl⟩, oe, vs, T, oT, ts, k _ _ he, hz, hd, h1, hn, hne, k _ _ hT, hdT, h3⟩
/-- what 'except (c1, c2, ..) as n' wishes: the error is one of these -/
def wAsE (K : PySem.W.Frag) (N : List Str) (cs : List Value) (i : Nat) (ts : Addr → Value → Option Addr → TS) (D : Ends) : WX := fun cls d σ H => PySem.W.exmAny K cls cs = some true ∧
  ∀ a, H a = none → σ.length = N.length → ts a cls d { nx := fun σ' H' => D.nx (σ'.set i none) H', rt := D.rt, bk := fun σ' H' => D.bk (σ'.set i none) H', ct := fun σ' H' => D.ct (σ'.set i none) H' } (σ.set i (some (.ref a))) (upd H a (excE a cls d))
section
variable {X : Cx} {x1 x2 x3 n : Str} {c1 c2 c3 : Value} {i kk : Nat} {body suite : List Stmt} {b₀ : Stmt} {p1 p2 p3 pt pos pos' : Pos} {tb : WX → TS} {ts : Addr → Value → Option Addr → TS}
theorem ps_try_e3 (hex : X.ex = []) (hs : X.stack = X.env :: X.outer) (hf : X.env.frame = some X.env.locals) (hN : X.N.Nodup) (hi : X.N[i]? = some n) (hln : X.env.kindOf n = some .local) (hc1 : Names X x1 c1) (hc2 : Names X x2 c2) (hc3 : Names X x3 c3)
    (hb : ∀ (W : WX) (pn : List (Addr × Obj)) (xe : Value → Shared → Prop), Takes (X.tr pn xe) W → PassesOwn (model X.prog X.w) X.A X.env xe → PSs (X.tr pn xe) body (tb W))
    (hsu : ∀ (a : Addr) (cls : Value) (d : Option Addr) (pn : List (Addr × Obj)), PSs (X.suite a pn) (b₀ :: suite) (ts a cls d)) :
    PS X (.Try body [.ExceptHandler (some (.Tuple [.Name x1 p1, .Name x2 p2, .Name x3 p3] kk pt)) (some n) (b₀ :: suite) pos'] [] [] pos) (fun D σ H => tb (wAsE X.K X.N [c1, c2, c3] i ts D) D σ H) := by
  refine ⟨fun pins s σ H D I h => wpAny_Try_except ?_⟩
  have okX := I.ok
  have frm : X.A.frames = some (X.env :: X.outer) := okX.frames.trans (congrArg some hs)
  refine wpAny_mono ((hb (wAsE X.K X.N [c1, c2, c3] i ts D) (X.pn ++ pins) _ (fun u s' xx => ?_) PassesOwn.looking).run [] s σ H D (I.toTry _) h) (fun f s1 hsp => ?_) (fun e s1 he => he)
  · obtain ⟨a, B, sI, pins', σ', H', cls, d, rfl, JT, nb, up, sky, na, os, ag, hm, hyes⟩ := xx
    have JX : Inv X pins σ' H' sI := JT.ofTry okX
    rw [hs] at sky
    refine (show wpAny (model X.prog X.w) X.A (noteFrame (.ref a) X.env) _ _ _ from Sky.land Zc.steady frm hf sky fun g3 f3 u3 => ?_)
    have J3 : Inv X pins σ' H' { s' with heap := g3 } := JX.landed nb f3.1 (up.trans u3) os ag
    obtain ⟨oe3, vs3, he3, hz3, hd3⟩ := f3.there
    have nfr : a ∉ frs (X.env :: X.outer) := fun hm => by
      obtain ⟨_, o', e', hnf⟩ := f3.2.2.1.mem hm
      rw [he3] at e'
      cases e'
      exact hnf _ hd3
    have nI : sI.heap.get? a = none := by
      cases e : sI.heap.get? a with
      | none => rfl
      | some o =>
        have z := nb a o e (by rw [hs]; exact nfr)
        rw [f3.2.1] at z
        cases z
    have n0 : X.s_0.heap.get? a = none := by
      cases e : X.s_0.heap.get? a with
      | none => rfl
      | some o =>
        obtain ⟨o', z⟩ := JX.base.there a o e (by rw [hex]; exact List.not_mem_nil)
        rw [nI] at z
        cases z
    have nL : a ≠ X.env.locals := fun z => nfr (List.mem_filterMap.mpr ⟨X.env, List.mem_cons_self, by rw [hf, z]⟩)
    have np : ∀ p ∈ X.pn ++ pins, p.1 ≠ a := fun p hp z => by
      have z1 := (JX.pin p hp).1
      rw [z, nI] at z1
      cases z1
    have S3 : Inv (X.suite a (X.pn ++ pins)) [] σ' H' { s' with heap := g3 } := inE J3
    have name : ∀ {x : Str} {c : Value} {p : Pos} {Q : Value → Shared → Prop} {E : Value → Shared → Prop}, Names X x c → Q c { s' with heap := g3 } → wpAny (model X.prog X.w) (X.A.mark (some (.ref a))) (eval (.Name x p) X.env) Q E { s' with heap := g3 } := fun {x c p Q E} hc q => by
      obtain ⟨hg, hdbg, hm | ⟨hm, hv, hnn⟩⟩ := hc
      · exact ld_glob (X := X.suite a (X.pn ++ pins)) S3 hg hm q hdbg
      · exact ld_blt (X := X.suite a (X.pn ++ pins)) S3 hg hm hv q hnn hdbg
    refine wpAny_handleBy_cons (codeAny_handlers_test (wpAny_Tuple (wpAny_items_cons (name hc1 (wpAny_items_cons (name hc2 (wpAny_items_cons (name hc3 (wpAny_items_nil ⟨show 3 ≤ sizeLine by decide, ?_⟩)))))))) ) (by intro q; cases q)
    have kp : ∀ b o, g3.get? b = some o → (g3.push { cls := .type "tuple", data := .seq [c1, c2, c3].toArray }).get? b = some o := fun _ _ z => Heap.get?_push_of_some _ z
    have LT : PySem.W.Looks (model X.prog X.w) g3 (typeOf (.ref a)) cls := fun A Q E s k q => wpAny_typeOf_ref (k _ _ he3) (by rw [hz3.1]; exact q)
    refine (PySem.W.exm_tup3 (J3.kIn.keeps kp) (LT.keeps kp) (Heap.get?_push_size g3 rfl) hm).here ?_
    refine codeAny_handlers_suite_as (PySem.HandSPX.lands_againZ (flyZ_keeps f3 kp) fun g4 f4 u4 => ?_)
    have J4 : Inv X pins σ' H' { s' with heap := g4 } := JX.landed nb f4.1 (((up.trans u3).trans (Heap.UpToSlots.of_keeps kp)).trans u4) os ag
    obtain ⟨oe4, vs4, he4, hz4, hd4⟩ := f4.there
    have S4 := inE (a := a) (adopt J4 na n0 he4 hz4 hd4 nL np)
    refine store_ok (X := X.suite a (X.pn ++ pins)) (v := .ref a) S4 hN hi (.inl hln) rfl (fun s5 S5 => ?_) (.inr hln)
    refine wpAny_mono ((hsu a cls d (X.pn ++ pins)).run [] s5 _ _ _ S5 (hyes a na JX.len)) (fun f s6 hsp => ?_) (fun _ _ z => False.elim z)
    have end_ : ∀ {σ6 : L2.St} {H6 : Hp} {Q : Shared → Prop}, Inv (X.suite a (X.pn ++ pins)) [] σ6 H6 s6 → (∀ s7, Inv X pins (σ6.set i none) H6 s7 → Q s7) → wpAny (model X.prog X.w) X.A (do bindName X.env n .none; unbindBehindTheSuite X.env n pos') (fun _ s7 => Q s7) X.xe s6 :=
      fun {σ6 H6 Q} S6 hq => gone_ok (outE S6 okX) hN hi hln hq
    cases f with
    | next =>
      obtain ⟨σ6, H6, S6, q6⟩ := hsp
      exact end_ S6 fun s7 J7 => ⟨_, _, J7, q6⟩
    | brk =>
      obtain ⟨σ6, H6, S6, q6⟩ := hsp
      exact end_ S6 fun s7 J7 => ⟨_, _, J7, q6⟩
    | cont =>
      obtain ⟨σ6, H6, S6, q6⟩ := hsp
      exact end_ S6 fun s7 J7 => ⟨_, _, J7, q6⟩
    | ret u =>
      obtain ⟨v6, σ6, H6, S6, r6, q6⟩ := hsp
      exact end_ S6 fun s7 J7 => ⟨_, _, _, J7, r6, q6⟩
  · cases f with
    | next =>
      obtain ⟨σ', H', J', q⟩ := hsp
      exact wpAny_execs_nil ⟨σ', H', J'.ofTry okX, q⟩
    | brk =>
      obtain ⟨σ', H', J', q⟩ := hsp
      exact ⟨σ', H', J'.ofTry okX, q⟩
    | cont =>
      obtain ⟨σ', H', J', q⟩ := hsp
      exact ⟨σ', H', J'.ofTry okX, q⟩
    | ret u =>
      obtain ⟨v, σ', H', J', r, q⟩ := hsp
      exact ⟨v, σ', H', J'.ofTry okX, r, q⟩
end
end PW
/-! ### defs called within an except suite (nothing is raised there), a caught error's fields -/
namespace PW
open PySem PySem.Spec PyProof.Rows L2
/-- what a def promises whatever is handled -/
structure FnW (P : Program) (w : World) (K : PySem.W.Frag) (mg : Str → Option Value) (base : Heap) (k : Nat) (f : Addr) (fd : FuncData) (ps : List Str) (sp : Sp) : Prop where
  len : ∀ vs H Q E, sp vs H Q E → vs.length = ps.length
  run : ∀ (A : Around) (outer : List Env) (s : Shared) (H : Hp) (args : Args) (us : List Value) (vs : List V) (Q : VK) (E : XK), L2H.RoomH k A → Env0 P w K mg base A outer s H → BindsTo s fd args (ps.zip us) → Vals vs us → sp vs H Q E →
    codeAny (model P w) A (.call (.ref f) args) (CR CX0 outer P w H s Q E) s
/-- the context of such a def's body -/
def cxW (P : Program) (w : World) (K : PySem.W.Frag) (mg : Str → Option Value) (base : Heap) (N : List Str) (qual : Str) (scope : Scope) (f : Addr) (cd : Value) (A : Around) (outer : List Env) (s : Shared) (H : Hp) (E : XK) : Cx :=
  { cxOf CX0 P w K mg base N qual scope f cd A outer s H E with calm := false }
section
variable {P : Program} {w : World} {K : PySem.W.Frag} {mg : Str → Option Value} {base : Heap} {N ps : List Str} {qual : Str} {scope : Scope} {f : Addr} {cd : Value} {A : Around} {outer : List Env} {s s1 : Shared} {H : Hp} {E : XK} {us : List Value} {vs : List V}
theorem inv_startW (S : FnScope N ps scope) (e0 : Env0 P w K mg base A outer s H) (hl : vs.length = ps.length) (r : Vals vs us)
    (x : InCallC s s.heap.objs.size (bindL (envOfC qual scope s.heap.objs.size f cd).kindOf (ps.zip us) fun _ => none) (cellsFrom (s.heap.objs.size + 1) scope.names []) (bindC (envOfC qual scope s.heap.objs.size f cd).kindOf (ps.zip us) fun _ => none) s1) :
    Inv (cxW P w K mg base N qual scope f cd A outer s H E) [] (L2.start N vs) H s1 := by
  have I : Inv (cxOf CX0 P w K mg base N qual scope f cd { A with handled := none } outer s H E) [] (L2.start N vs) H s1 := inv_start S rfl ⟨e0.frames, e0.mod, e0.bs, e0.bsz, e0.funs, e0.frf, e0.hok, e0.bare⟩ hl r x
  exact ⟨⟨I.ok.mod, I.ok.kind, I.ok.glob, I.ok.blt, I.ok.above, I.ok.inj, I.ok.has, I.ok.cab, (fun z => Bool.noConfusion (show false = true from z)), Around.frames_deeper e0.frames, I.ok.stk, I.ok.exf, I.ok.bs, I.ok.bsz, I.ok.noex, I.ok.exfs, I.ok.funs, I.ok.frf⟩,
    I.os, I.bare, I.base, I.loc, I.cell, I.free, I.freeC, I.pin, I.hok, I.len⟩
theorem fnW_of {x : Str} {params : Arguments} {body : List Stmt} {fd : FuncData} {dvs : List V} {kws : List (Str × V)} {k : Nat} {sp : Sp} (F : FunD K x qual params body scope dvs kws f fd) (S : FnScope N ps scope) (len : ∀ vs H Q E, sp vs H Q E → vs.length = ps.length)
    (hbody : ∀ (cdv : Value) (A : Around) (outer : List Env) (s : Shared) (H : Hp) (vs : List V) (Q : VK) (E : XK), L2H.RoomH k (A.deeper (envOfC qual scope s.heap.objs.size f cdv)) → sp vs H Q E →
      ∃ t, PSs (cxW P w K mg base N qual scope f cdv A outer s H E) body t ∧ t { nx := fun _ H' => Q .non H', rt := Q } (L2.start N vs) H) : FnW P w K mg base (k + 1) f fd ps sp := by
  obtain ⟨oc, od, dV, kV, doc, pm, an, cdv, ct, osl, rfl, lk, hcd, _, _⟩ := F.ex
  refine ⟨len, fun A outer s H args us vs Q E hr e0 hb r hsp => ?_⟩
  have hl := len _ _ _ _ hsp
  have KX : K.In s.heap := e0.mod.kin.keeps fun b o e => (e0.bs b o e).1
  have lim : s.heap.NoLimit := e0.mod.nolimit.keeps fun b o e => (e0.bs b o e).1
  refine codeAny_call_function hr.depth (KX _ _ lk) rfl S.co S.gen rfl (PySem.W.codeRec_of KX hcd) (hb _ _ _ _ (wpAny_newFunctionEnv_cells S.kind (fun ⟨n, v⟩ hy => ?_) fun env he s1 x => ?_))
  · rcases S.par n (List.of_mem_zip hy).1 with q | q
    · exact .inl q
    · exact .inr ⟨q, PySem.W.cellsFrom_some _ _ _ (.inl q)⟩
  subst he
  refine ⟨lim.keeps x.toInCall.keep, codeAny_func ?_⟩
  obtain ⟨t, ht, hq⟩ := hbody cdv A outer s H vs Q E (hr.deeper _) hsp
  refine wpAny_mono (ht.run [] s1 (L2.start N vs) H _ (inv_startW S e0 hl r x) hq) (fun fl s' hs => ?_) fun e s' hs => hs
  have fin : ∀ {σ' : L2.St} {H' : Hp} {v : V} {u : Value}, Inv (cxW P w K mg base N qual scope f cdv A outer s H E) [] σ' H' s' → RelV v u → Q v H' → CE outer P w H s Q u s' := fun {σ' H' v u} J rv q => ⟨v, H', J.os, J.bare, J.base, J.hok, rv, q⟩
  cases fl with
  | ret u =>
    obtain ⟨v, σ', H', J, rv, q⟩ := hs
    exact fin J rv q
  | next =>
    obtain ⟨σ', H', J, q⟩ := hs
    exact fin (v := V.non) (u := Value.none) J rfl q
  | brk =>
    obtain ⟨_, _, _, q⟩ := hs
    exact False.elim q
  | cont =>
    obtain ⟨_, _, _, q⟩ := hs
    exact False.elim q
end
section
variable {X : Cx} {k : Nat} {f : Addr} {fd : FuncData} {ps : List Str} {sp : Sp} {x n : Str} {q pos : Pos} {e : Expr} {es : List Expr} {te : L2.TE} {t : TA}
theorem pe_callW (F : FnW X.prog X.w X.K X.mg X.base k f fd ps sp) (hr : L2H.RoomH k X.A) (hg : Gl X x) (hm : X.mg x = some (.ref f)) (hk : PySem.W.keepIn X.K (.ref f) = true) (hb : Binds X.K fd ps []) (ha : PA X (e :: es) t) (hdb : (x == ("__debug__" : Str)) = false := by decide)
    (he : starEach (e :: es) X.env = (false, eval e X.env) :: starEach es X.env := by rfl) (hpl : (backTo pos (starEach es X.env)).any (·.1) = false := by rfl) : PE X (.Call (.Name x q) (e :: es) [] pos) (tCall sp [] E0 t) := by
  refine ⟨fun pins s σ H Q I h => wpAny_Call_Name_kw (ld_glob I hg hm (PySem.W.callWith_K (h₀ := X.base) I.ok.mod.kin hk (thn (ha.run pos pins s σ H _ I h) fun us s1 ⟨vs, H1, I1, r, q⟩ => ⟨I1.kIn, ?_⟩) he hpl) hdb)⟩
  have q' : sp vs H1 Q E0 := by
    have z : sp (vs ++ []) H1 Q E0 := q
    rw [List.append_nil] at z
    exact z
  have b := hb s1 us I1.kIn (by rw [List.append_nil, ← r.length]; exact F.len _ _ _ _ q')
  rw [List.append_nil] at b
  refine wpAny_call (codeAny_mono (F.run X.A X.stack s1 H1 ⟨us, []⟩ us vs Q E0 hr I1.env0 b r q') fun r s' hq => ?_)
  cases r with
  | error e => exact (show False from hq).elim
  | ok fl =>
    cases fl with
    | ret u => exact I1.after hq
    | next => exact False.elim hq
    | brk => exact False.elim hq
    | cont => exact False.elim hq
/-- a field of a caught error -/
def tXe (K : PySem.W.Frag) (n : Str) (te : L2.TE) : TE := fun σ H Q => te σ H fun x H1 => ∃ (a C dd : Addr) (fs : List (Str × V)) (v : V), x = .ref a ∧ XfC K C ∧ PySem.W.findIn K (.ref C) n = some none ∧ H1 a = some (excE a (.ref C) (some dd)) ∧ H1 dd = some (.xd fs) ∧ fs.lookup n = some v ∧ Q v H1
theorem pe_xe (he : PE X e te) (hb : attributeBase e n X.env (eval e X.env) = eval e X.env := by rfl) : PE X (.Attribute e n pos) (tXe X.K n te) := by
  refine ⟨fun pins s σ H Q I h => attr_of hb (thn (he.run pins s σ H _ I h) fun u s1 ⟨x, H1, I1, rx, a, C, dd, fs, v, ex, T, hno, ea, ed, l, q⟩ => ?_)⟩
  subst ex
  obtain rfl : u = Value.ref a := rx
  obtain ⟨⟨oe, vs, ha, hz, hd⟩, _, _⟩ := I1.hok a _ ea
  obtain ⟨mA, hns, hr⟩ := (show ObjOk X.prog X.w H1 s1.heap dd (.xd fs) from I1.hok dd _ ed)
  obtain ⟨od, ho, hl⟩ := lookIn_ns hns
  obtain ⟨u, hu, ru⟩ := RelO.some_of (v := v) (o := mA n) (by rw [← l]; exact hr n)
  have J : PySem.W.InstAt s1.heap a oe C (some od) := ⟨ha, hz.1, by unfold PySem.W.notCls; rw [hd] <;> rfl, by rw [hz.2]; exact ho⟩
  exact PySem.HandSPX.exc_get I1.kIn J T.ga T.gg T.exC (PySem.W.findObj_own T.hdC hno rfl (by rw [hl, hu])) (handed_of ru) ⟨v, H1, I1.tok _, ru, q⟩
end
end PW
/-! ### own errors and tables of code objects: the hook -/
namespace PW
open PySem PySem.Spec PyProof.Rows L2
/-- what the text's file and scope are -/
structure IsPG (P : Program) : Prop where
  file : ((P.main.file : Str) == ("/claim/cut.py" : Str)) = true
  sup : (P.main.scope.names.lookup ("super" : Str)).isSome = false
def fileB (K : PySem.W.Frag) (cd : Value) : Bool := match cd with
  | .ref a => (match K.lookup a with
    | some ⟨_, _, .fields vs, _⟩ => (match (vs[2]? : Option Value) with
      | some (Value.str f _) => decide (f = ("/claim/cut.py" : Str))
      | _ => false)
    | _ => false)
  | _ => false
theorem fileB_ok {K : PySem.W.Frag} {cd : Value} (h : fileB K cd = true) : ∃ (a : Addr) (cl : Value) (dd : Option Addr) (vs : Array Value) (sl : Array (Option Value)) (t : Tok), cd = .ref a ∧ K.lookup a = some ⟨cl, dd, .fields vs, sl⟩ ∧ vs[2]? = some (.str ("/claim/cut.py" : Str) t) := by
  cases cd with
  | ref a =>
    unfold fileB at h
    cases q : K.lookup a with
    | none =>
      simp only [q] at h
      cases h
    | some o =>
      obtain ⟨cl, dd, dt, sl⟩ := o
      simp only [q] at h
      cases dt with
      | fields vs =>
        cases q2 : vs[2]? with
        | none =>
          simp only [q2] at h
          cases h
        | some v =>
          simp only [q2] at h
          cases v with
          | str f t =>
            have e : f = ("/claim/cut.py" : Str) := of_decide_eq_true h
            subst e
            exact ⟨a, cl, dd, vs, sl, t, rfl, q, q2⟩
          | _ => cases h
      | _ => cases h
  | _ => cases h
def cellB (K : PySem.W.Frag) (C c : Addr) : Bool := match K.lookup c with
  | some ⟨_, _, .cell (some (.ref D)), _⟩ => decide (D = C)
  | _ => false
theorem cellB_ok {K : PySem.W.Frag} {C c : Addr} (h : cellB K C c = true) : ∃ (cl : Value) (dd : Option Addr) (sl : Array (Option Value)), K.lookup c = some ⟨cl, dd, .cell (some (.ref C)), sl⟩ := by
  unfold cellB at h
  cases q : K.lookup c with
  | none =>
    simp only [q] at h
    cases h
  | some o =>
    obtain ⟨cl, dd, dt, sl⟩ := o
    simp only [q] at h
    cases dt with
    | cell v =>
      cases v with
      | none => cases h
      | some v =>
        cases v with
        | ref D =>
          have e : D = C := of_decide_eq_true h
          subst e
          exact ⟨cl, dd, sl, rfl⟩
        | _ => cases h
    | _ => cases h
def oexB (b : PySem.W.EK) (K : PySem.W.Frag) (C : Addr) : Bool := (match K.lookup C with
  | some ⟨.type t, _, .cls cd, sl⟩ => decide (t = "type") && ((match cd.mro, sl.toList with
    | .ref C' :: bm, [_, _, _, _, some (.builtin n), _] => decide (C' = C) && (PySem.W.excTail b.tail bm && decide (n = b.newId))
    | _, _ => false) && (cd.hasDict && !cd.hasDel))
  | _ => false) && (decide (PySem.W.findIn K (.ref C) "__setattr__" = some (some (.builtin "object.__setattr__"))) && (decide (PySem.W.subIn K (.ref C) (.type "BaseException") = some true) && (decide (PySem.W.typeIn K (.ref C) = some (.type "type")) && PySem.W.keepIn K (.ref C))))
theorem oexB_ok {b : PySem.W.EK} {K : PySem.W.Frag} {C : Addr} (h : oexB b K C = true) : PySem.W.OexG b K C := by
  obtain ⟨h1, h2⟩ := He.ba h
  obtain ⟨h3, h4⟩ := He.ba h2
  obtain ⟨h5, h6⟩ := He.ba h4
  obtain ⟨h7, h8⟩ := He.ba h6
  refine ⟨?_, of_decide_eq_true h3, of_decide_eq_true h5, of_decide_eq_true h7, h8⟩
  cases q : K.lookup C with
  | none =>
    simp only [q] at h1
    cases h1
  | some o =>
    obtain ⟨oc, od, dt, sl⟩ := o
    simp only [q] at h1
    cases oc with
    | type t =>
      cases dt with
      | cls cd =>
        obtain ⟨e1, h9⟩ := He.ba h1
        obtain ⟨h10, h11⟩ := He.ba h9
        obtain ⟨h12, h13⟩ := He.ba h11
        obtain ⟨nm, bs, mro, ns, qn, hd, sn, sub, ab, col, del⟩ := cd
        obtain ⟨sl⟩ := sl
        dsimp only at h10 h12 h13
        have e1' : t = "type" := of_decide_eq_true e1
        subst e1'
        cases hd with
        | false => cases h12
        | true =>
          cases del with
          | true => cases h13
          | false =>
            split at h10
            · rename_i C' bm k0 k1 k2 k3 n k5
              obtain ⟨z1, z2⟩ := He.ba h10
              obtain ⟨z3, z4⟩ := He.ba z2
              have z5 : C' = C := of_decide_eq_true z1
              have z6 : n = b.newId := of_decide_eq_true z4
              subst z5 z6
              exact ⟨nm, qn, ns, bs, bm, sn, sub, ab, col, od, k0, k1, k2, k3, k5, rfl, z3⟩
            · cases h10
      | _ => cases h1
    | _ => cases dt <;> cases h1
/-- what is asked of an own error that is made -/
def mkB (b : PySem.W.EK) (K : PySem.W.Frag) (C : Addr) (ns : List Str) : Bool := oexB b K C && (xfB K C && (decide (PySem.W.findIn K (.ref C) "__init__" = some (some (.ref (He.ma K C "__init__")))) && (decide (PySem.W.typeIn K (.ref (He.ma K C "__init__")) = some (.type "function")) && (decide (PySem.W.nsIn K mainGlobals "super" = some none) &&
  (decide (PySem.W.nsIn K cStatics "thirdparty.any" = some none) && (decide (PySem.W.ks_superIn K C C "__init__" = some (some (.builtin b.ini))) && (decide (PySem.W.mroIn K C (.ref C) = some true) && (decide (PySem.W.subIn K (.ref C) (.type b.nm) = some true) && ns.all fun n => decide (PySem.W.findIn K (.ref C) n = some none)))))))))
structure MkC (b : PySem.W.EK) (K : PySem.W.Frag) (C : Addr) (ns : List Str) : Prop where
  oex : PySem.W.OexG b K C
  xf : XfC K C
  iC : PySem.W.findIn K (.ref C) "__init__" = some (some (.ref (He.ma K C "__init__")))
  tC : PySem.W.typeIn K (.ref (He.ma K C "__init__")) = some (.type "function")
  sup : PySem.W.nsIn K mainGlobals "super" = some none
  any : PySem.W.nsIn K cStatics "thirdparty.any" = some none
  mro : PySem.W.ks_superIn K C C "__init__" = some (some (.builtin b.ini))
  sub : PySem.W.mroIn K C (.ref C) = some true
  ve : PySem.W.subIn K (.ref C) (.type b.nm) = some true
  no : ∀ n ∈ ns, PySem.W.findIn K (.ref C) n = some none
theorem mkB_ok {b : PySem.W.EK} {K : PySem.W.Frag} {C : Addr} {ns : List Str} (h : mkB b K C ns = true) : MkC b K C ns := by
  obtain ⟨h1, h⟩ := He.ba h
  obtain ⟨h2, h⟩ := He.ba h
  obtain ⟨h3, h⟩ := He.ba h
  obtain ⟨h4, h⟩ := He.ba h
  obtain ⟨h5, h⟩ := He.ba h
  obtain ⟨h6, h⟩ := He.ba h
  obtain ⟨h7, h⟩ := He.ba h
  obtain ⟨h8, h⟩ := He.ba h
  obtain ⟨h9, h⟩ := He.ba h
  exact ⟨oexB_ok h1, xfB_ok h2, of_decide_eq_true h3, of_decide_eq_true h4, of_decide_eq_true h5, of_decide_eq_true h6, of_decide_eq_true h7, of_decide_eq_true h8, of_decide_eq_true h9, fun n hn => of_decide_eq_true (List.all_eq_true.mp h n hn)⟩
/-- an own error's __init__, with the cell of its class -/
structure DefX where
  cls : Str
  qual : Str
  params : Arguments
  body : List Stmt
  scope : Scope
def DefX.f (d : DefX) (K : PySem.W.Frag) : Addr := He.ma K (He.ga K d.cls) "__init__"
def fnWX (K : PySem.W.Frag) (d : DefX) : He.FnW := match K.lookup (d.f K) with
  | some ⟨_, _, .func fd, _⟩ => some (fd.name, fd.qualname, fd.params, fd.body, fd.scope, fd.globals, fd.closure.map (fun p => (p.1, 0)), fd.builtins)
  | _ => none
def DefX.val (d : DefX) : He.FnW := some (("__init__" : Str), d.qual, d.params, FuncBody.stmts d.body, d.scope, mainGlobals, [(("__class__" : Str), (0 : Addr))], builtinsNs)
def DefX.ok (K : PySem.W.Frag) (d : DefX) : Bool := match K.lookup (d.f K) with
  | some ⟨_, _, .func fd, _⟩ => PySem.W.codeIn K fd.code d.qual && (fileB K fd.code && (He.dflB K fd.defaults [] && fd.closure.all fun p => cellB K (He.ga K d.cls) p.2))
  | _ => false
theorem DefX.init {b : PySem.W.EK} {K : PySem.W.Frag} {d : DefX} {ns : List Str} (e : fnWX K d = d.val) (c : d.ok K = true) (m : MkC b K (He.ga K d.cls) ns) {P : Program} (hP : IsPG P) : PySem.W.InitFn b K P (He.ga K d.cls) (d.f K) d.qual d.params d.body d.scope := by
  refine ⟨?_, m.sup, hP.sup, m.any, m.mro, m.sub, m.ve⟩
  unfold fnWX at e
  unfold DefX.ok at c
  cases q : K.lookup (d.f K) with
  | none =>
    rw [q] at c
    cases c
  | some o =>
    obtain ⟨oc, od, dt, osl⟩ := o
    rw [q] at c e
    cases dt with
    | func fd =>
      obtain ⟨n1, n2, n3, n4, n5, n6, n7, n8, n9, n10, n11, n12, n13, n14, n15⟩ := fd
      have e2 : (some (n1, n2, n3, n4, n5, n6, n7.map (fun p => (p.1, 0)), n15) : He.FnW) = some (("__init__" : Str), d.qual, d.params, FuncBody.stmts d.body, d.scope, mainGlobals, [(("__class__" : Str), (0 : Addr))], builtinsNs) := e
      simp only [Option.some.injEq, Prod.mk.injEq] at e2
      obtain ⟨h1, h2, h3, h4, h5, h6, h7, h8⟩ := e2
      subst h1 h2 h3 h4 h5 h6 h8
      have c3 : (PySem.W.codeIn K n13 d.qual && (fileB K n13 && (He.dflB K n8 [] && n7.all fun p => cellB K (He.ga K d.cls) p.2))) = true := c
      obtain ⟨k1, k2⟩ := He.ba c3
      obtain ⟨k3, k4⟩ := He.ba k2
      obtain ⟨k5, k6⟩ := He.ba k4
      cases n7 with
      | nil => simp only [List.map_nil, reduceCtorEq] at h7
      | cons p r =>
        cases r with
        | cons p2 r2 => simp only [List.map_cons, List.cons.injEq, reduceCtorEq, and_false] at h7
        | nil =>
          obtain ⟨p1, cc⟩ := p
          have e7 : p1 = ("__class__" : Str) := by
            simp only [List.map_cons, List.map_nil, List.cons.injEq, Prod.mk.injEq, and_true] at h7
            exact h7
          subst e7
          obtain ⟨cl, cld, csl, lcc⟩ := cellB_ok (List.all_eq_true.mp k6 ("__class__", cc) List.mem_cons_self)
          obtain ⟨cda, ccl, cdd, vs, ccs, tf, ec, lcd, hvs⟩ := fileB_ok k3
          subst ec
          rcases He.dflB_ok k5 with ⟨_, z⟩ | ⟨z, _⟩
          · subst z
            exact ⟨oc, n9, n10, n11, n14, od, n12, osl, cc, cda, ccl, cl, cdd, cld, vs, ccs, csl, _, tf, rfl, k1, lcd, hvs, hP.file, lcc⟩
          · exact absurd rfl z
    | _ => cases c
abbrev AlN : Type := AlM × (List He.FnW × Bool)
abbrev frN (n : Nat) (g : Addr → Option Obj) : PySem.W.Frag := He.frT g (He.asD g n ++ [cStatics])
def obsN (n : Nat) (fa : List He.Fa) (fn : List He.DefD) (fs : List DefA) (fx : List DefX) (tf : List He.Defn) (ex : PySem.W.Frag → List Bool) (g : Addr → Option Obj) : AlN :=
  (obsM fa fn fs ex (frN n g), (fx.map (fnWX (frN n g)), (fx.all fun d => d.ok (frN n g)) && He.tabsB g tf (frN n g)))
def valN (fn : List He.DefD) (fs : List DefA) (fx : List DefX) : AlN := (valM fn fs, (fx.map DefX.val, true))
structure SaysN (fa : List He.Fa) (fn : List He.DefD) (fs : List DefA) (fx : List DefX) (tf : List He.Defn) (ex : PySem.W.Frag → List Bool) (h : Heap) (K : PySem.W.Frag) : Prop where
  m : SaysM fa fn fs ex K
  x : ∀ d ∈ fx, fnWX K d = d.val ∧ d.ok K = true
  hd : ∀ p ∈ tf, PySem.W.codeHdIn K (He.cT K p).1 (He.cT K p).2 = true
  out : ∀ p ∈ tf, K.lookup (He.cT K p).2 = none
  empty : ∀ p ∈ tf, h.get? (He.cT K p).2 = some { cls := .none, data := .fields #[] }
theorem saysN_of {n : Nat} {fa : List He.Fa} {fn : List He.DefD} {fs : List DefA} {fx : List DefX} {tf : List He.Defn} {ex : PySem.W.Frag → List Bool} {h : Heap} (e : obsN n fa fn fs fx tf ex h.get? = valN fn fs fx) : SaysN fa fn fs fx tf ex h (frN n h.get?) := by
  have e1 : obsM fa fn fs ex (frN n h.get?) = valM fn fs := congrArg (fun z : AlN => z.1) e
  have e2 : fx.map (fnWX (frN n h.get?)) = fx.map DefX.val := congrArg (fun z : AlN => z.2.1) e
  have e3 : ((fx.all fun d => d.ok (frN n h.get?)) && He.tabsB h.get? tf (frN n h.get?)) = true := congrArg (fun z : AlN => z.2.2) e
  obtain ⟨h1, h2⟩ := He.ba e3
  have key : ∀ p ∈ tf, PySem.W.codeHdIn (frN n h.get?) (He.cT (frN n h.get?) p).1 (He.cT (frN n h.get?) p).2 = true ∧ ∃ o, h.get? (He.cT (frN n h.get?) p).2 = some o ∧ He.emptyTab o = true := fun p hp => by
    obtain ⟨z1, z2⟩ := He.ba (List.all_eq_true.mp h2 p hp)
    refine ⟨z1, ?_⟩
    cases q : h.get? (He.cT (frN n h.get?) p).2 with
    | none =>
      rw [q] at z2
      cases z2
    | some o =>
      rw [q] at z2
      exact ⟨o, rfl, z2⟩
  refine ⟨saysM_of e1, fun d hd => ⟨map_mem e2 d hd, List.all_eq_true.mp h1 d hd⟩, fun p hp => (key p hp).1, fun p hp => ?_, fun p hp => ?_⟩
  · obtain ⟨_, o, q, z⟩ := key p hp
    exact He.frT_none q z
  · obtain ⟨_, o, q, z⟩ := key p hp
    rw [q, He.emptyTab_eq z]
def hookN (n : Nat) (fa : List He.Fa) (fn : List He.DefD) (fs : List DefA) (fx : List DefX) (tf : List He.Defn) (ex : PySem.W.Frag → List Bool) : PySem.W.Hook where
  α := AlN
  obs := fun s => obsN n fa fn fs fx tf ex s.heap.get?
  val := fun _ => valN fn fs fx
  says := fun _ h => ∃ K : PySem.W.Frag, K.In h ∧ SaysN fa fn fs fx tf ex h K
  of := fun _ _ e => ⟨_, He.frT_in, saysN_of e⟩
  keeps := fun _ _ _ ⟨K, hK, c⟩ k => ⟨K, PySem.W.Frag.In.keeps hK k, ⟨c.m, c.x, c.hd, c.out, fun p hp => k _ _ (c.empty p hp)⟩⟩
theorem obsN_eq {n : Nat} {fa : List He.Fa} {fn : List He.DefD} {fs : List DefA} {fx : List DefX} {tf : List He.Defn} {ex : PySem.W.Frag → List Bool} {g : Addr → Option Obj} {s : Shared} (h : ∀ a, g a = s.heap.get? a) : obsN n fa fn fs fx tf ex g = (hookN n fa fn fs fx tf ex).obs s := by
  have e : g = s.heap.get? := funext h
  rw [e] <;> rfl
/-- THE RULE for a def that makes lambdas: its code object is the one that is told -/
theorem FunD.okC {P : Program} {w : World} {K : PySem.W.Frag} {mg : Str → Option Value} {base : Heap} {x qual : Str} {params : Arguments} {body : List Stmt} {scope : Scope} {dvs : List V} {kws : List (Str × V)} {p : He.Defn} {fd : FuncData} {CX : CXT} {N ps : List Str} {k : Nat} {sp : Sp}
    (F : FunD K x qual params body scope dvs kws (He.fAd K p) fd) (S : FnScope N ps scope) (len : ∀ vs H Q E, sp vs H Q E → vs.length = ps.length)
    (hbody : ∀ (A : Around) (outer : List Env) (s : Shared) (H : Hp) (vs : List V) (Q : VK) (E : XK), Room k (A.deeper (envOfC qual scope s.heap.objs.size (He.fAd K p) (.ref (He.codeOf K p)))) → sp vs H Q E →
      ∃ t, PSs (cxOf CX P w K mg base N qual scope (He.fAd K p) (.ref (He.codeOf K p)) A outer s H E) body t ∧ t { nx := fun _ H' => Q .non H', rt := Q } (start N vs) H) : FnOk P w K mg base CX (k + 1) (He.fAd K p) fd ps sp := by
  obtain ⟨oc, od, dV, kV, doc, pm, an, cdv, ct, osl, rfl, lk, hcd, _, _⟩ := F.ex
  obtain ⟨c, rfl⟩ := He.codeIn_ref hcd
  have e := He.codeOf_eq lk rfl
  subst e
  exact fn_of lk hcd S len fun A outer s H vs Q E hr hsp => hbody A outer s H vs Q E hr hsp
end PW
local macro_rules | `(tactic| walk_at "lst") => `(tactic| first | with_reducible assumption | (with_reducible exact L2.SqT.of L2.upd_same) | (with_reducible exact L2.SqL.of L2.upd_same) | ((with_reducible refine' PW.Ex.tupN ?h ?q); (case h => with_reducible assumption); (case q => walk_at "lst")) | ((with_reducible refine' PW.Ex.lstN ?h ?q); (case h => with_reducible assumption); (case q => walk_at "lst")) | ((with_reducible refine' L2.SqL.of ?h); (case h => walk_at "hp")) | ((with_reducible refine' L2.SqT.of ?h); (case h => walk_at "hp")))
local macro_rules | `(tactic| walk_at "K") => `(tactic| try simp only [PW.nox_K, PW.cx_K])
local macro_rules | `(tactic| walk_at "hp") => `(tactic| first | with_reducible assumption | (with_reducible exact L2.upd_same) | ((with_reducible refine' (L2.upd_ne ?n).trans ?h); (case' n => walk_at "ne"); (case' h => walk_at "hp")))
local macro_rules | `(tactic| walk_at "ne") => `(tactic| first | with_reducible assumption | (with_reducible exact Ne.symm (by with_reducible assumption)) | (with_reducible exact L2.ne_of_none (by with_reducible assumption) (by with_reducible assumption)) | (with_reducible exact Ne.symm (L2.ne_of_none (by with_reducible assumption) (by with_reducible assumption))) | exact PW.ne_ofK (by with_reducible assumption) (by with_reducible assumption) (by rfl))
local macro_rules | `(tactic| walk_at "g1") => `(tactic| first
  | refine PW.Step.imp ?_
  | ((with_reducible refine' PW.r_I ?h ?_); (case h => walk_at "cond"))
  | ((with_reducible refine' PW.r_ixL ?h ?a ?_); (case h => walk_at "lst"); (case a => first | rfl | exact PW.atI0))
  | ((with_reducible refine' PW.r_ixT ?h ?a ?_); (case h => walk_at "lst"); (case a => first | rfl | exact PW.atI0))
  | ((with_reducible refine' PW.r_setL ?h ?a ?_); (case h => walk_at "hp"); (case a => rfl))
  | ((with_reducible refine' PW.r_lst1 ?h ?_); (case h => first | decide | (simp only [List.length_cons, List.length_nil]; omega)))
  | ((with_reducible refine' PW.r_ifT' ?e ?_); (case e => with_reducible exact PW.dec_self))
  | ((with_reducible refine' PW.r_ifF' ?e ?_); (case e => exact PW.dec_kind rfl))
  | ((with_reducible refine' PW.r_ifF' ?e ?_); (case e => with_reducible exact PW.ndec_self))
  | ((with_reducible refine' PW.r_ifT' ?e ?_); (case e => exact PW.ndec_kind rfl))
  | ((with_reducible refine' PW.r_ifT' ?e ?_); (case e => decide))
  | ((with_reducible refine' PW.r_ifF' ?e ?_); (case e => decide))
  | ((with_reducible refine' PW.r_cLenL ?h ?_); (case h => walk_at "lst"))
  | ((with_reducible refine' PW.r_cLenT ?h ?_); (case h => walk_at "lst"))
  | ((with_reducible refine' PW.r_cLenS ?h ?_); (case h => walk_at "size"))
  | ((with_reducible refine' PW.r_addS ?h ?_); (case h => walk_at "size"))
  | ((with_reducible refine' PW.r_slL ?h ?_); (case h => walk_at "lst"))
  | ((with_reducible refine' PW.r_slS ?h ?_); (case h => walk_at "size"))
  | ((with_reducible refine' PW.r_gtup ?h ?l ?_); (case h => walk_at "lst"); (case l => rfl))
  | ((with_reducible refine' PW.r_isi ?h ?e ?_); (case h => walk_at "ty"); (case e => walk_at "kit"))
  | ((with_reducible refine' PW.r_isiT2 ?ht ?h ?e1 ?e2 ?_); (case ht => walk_at "hp"); (case h => walk_at "ty"); (case e1 => walk_at "kit"); (case e2 => walk_at "kit"))
  | ((with_reducible refine' PW.r_ixqL ?h ?a ?_); (case h => walk_at "lst"); (case a => first | rfl | exact PW.atI0))
  | ((with_reducible refine' PW.r_ixqT ?h ?a ?_); (case h => walk_at "lst"); (case a => first | rfl | exact PW.atI0))
  | ((with_reducible refine' PW.r_inT ?h ?a ?b ?_); (case h => walk_at "lst"); (case a => rfl); (case b => rfl))
  | ((with_reducible refine' PW.r_inL ?h ?a ?b ?_); (case h => walk_at "lst"); (case a => rfl); (case b => rfl))
  | ((with_reducible refine' PW.r_ninT ?h ?a ?b ?_); (case h => walk_at "lst"); (case a => rfl); (case b => rfl))
  | ((with_reducible refine' PW.r_ninL ?h ?a ?b ?_); (case h => walk_at "lst"); (case a => rfl); (case b => rfl))
  | ((with_reducible refine' PW.rng1 ?h1 ?h2 ?_); (case h1 => omega); (case h2 => omega))
  | ((with_reducible refine' PW.rng2 ?h1 ?h2 ?h3 ?h4 ?_); (case h1 => omega); (case h2 => omega); (case h3 => omega); (case h4 => omega))
  | ((with_reducible refine' PW.r_rep ?h ?a ?b ?c ?_); (case h => walk_at "hp"); (case a => omega); (case b => omega); (case c => walk_at "len"))
  | (with_reducible refine' PW.r_and3 rfl rfl ?_)
  | ((with_reducible refine' PW.wkL ?h ?_); (case h => walk_at "lst"))
  | ((with_reducible refine' PW.wkT ?h ?_); (case h => walk_at "lst"))
  | ((with_reducible refine' PW.wkE ?h ?_); (case h => walk_at "lst"))
  | ((with_reducible refine' PW.r_cListL ?h ?_); (case h => walk_at "lst"))
  | ((with_reducible refine' PW.r_cListT ?h ?_); (case h => walk_at "lst"))
  | ((with_reducible refine' PW.r_cTupleL ?h ?_); (case h => walk_at "lst"))
  | ((with_reducible refine' PW.r_fld ?h ?c ?n ?l ?_); (case h => walk_at "hp"); (case c => first | with_reducible assumption | assumption); (case n => first | with_reducible assumption | assumption); (case l => rfl))
  | ((with_reducible refine' PW.r_methC ?h ?l ?_); (case h => walk_at "hp"); (case l => rfl))
  | ((with_reducible refine' PW.r_rev ?h ?_); (case h => walk_at "lst"))
  | ((with_reducible refine' PW.r_eqEL ?h ?a ?_); (case h => walk_at "lst"); (case a => walk_at "lst"))
  | ((with_reducible refine' PW.r_eqET ?h ?a ?_); (case h => walk_at "lst"); (case a => walk_at "lst"))
  | ((with_reducible refine' PW.r_neET ?h ?a ?_); (case h => walk_at "lst"); (case a => walk_at "lst"))
  | ((with_reducible refine' PW.r_tyL ?h ?_); (case h => walk_at "lst"))
  | ((with_reducible refine' PW.r_sfld ?h ?c ?n ?l ?_); (case h => walk_at "hp"); (case c => first | with_reducible assumption | assumption); (case n => first | with_reducible assumption | assumption); (case l => exact Nat.le_of_ble_eq_true rfl))
  | ((with_reducible refine' PW.r_append ?h ?l ?_); (case h => walk_at "hp"); (case l => walk_at "len"))
  | ((with_reducible refine' PW.r_isiO ?h ?e ?_); (case h => walk_at "ty"); (case e => first | with_reducible assumption | assumption))
  | ((with_reducible refine' PW.r_isiC ?h ?e ?_); (case h => walk_at "ty"); (case e => first | with_reducible assumption | assumption)))
local macro_rules | `(tactic| walk_at "go") => `(tactic| repeat (walk_at "g1"))
local macro_rules | `(tactic| walk_at "cond") => `(tactic| first | with_reducible assumption | omega | ((with_reducible refine PW.cmx ?_ ?_ ?_ ?_) <;> omega) | ((with_reducible refine PW.cdw ?_ ?_) <;> omega) | ((with_reducible refine PW.cdw2 ?_ ?_) <;> with_reducible assumption) | ((with_reducible refine PW.cpow ?_ ?_ ?_ ?_) <;> omega))
local macro_rules | `(tactic| walk_at "size") => `(tactic| first | with_reducible assumption | exact Nat.le_trans (by with_reducible assumption) (by decide))
local macro_rules | `(tactic| walk_at "ty") => `(tactic| first | with_reducible assumption | exact .base (.int _) | exact .base (.str _) | exact .base (.bl _) | exact .base .non | exact .base (.lst (by walk_at "hp")) | exact .base (.tup (by walk_at "hp")) | assumption)
local macro_rules | `(tactic| walk_at "kit") => `(tactic| first | exact PW.kb_NoneType_bool | exact PW.kb_NoneType_int | exact PW.kb_NoneType_str | exact PW.kb_NoneType_list | exact PW.kb_NoneType_tuple | exact PW.kb_NoneType_dict | exact PW.kb_bool_bool | exact PW.kb_bool_int | exact PW.kb_bool_str | exact PW.kb_bool_list | exact PW.kb_bool_tuple | exact PW.kb_bool_dict | exact PW.kb_int_bool | exact PW.kb_int_int | exact PW.kb_int_str | exact PW.kb_int_list | exact PW.kb_int_tuple | exact PW.kb_int_dict | exact PW.kb_str_bool | exact PW.kb_str_int | exact PW.kb_str_str | exact PW.kb_str_list | exact PW.kb_str_tuple | exact PW.kb_str_dict | exact PW.kb_list_bool | exact PW.kb_list_int | exact PW.kb_list_str | exact PW.kb_list_list | exact PW.kb_list_tuple | exact PW.kb_list_dict | exact PW.kb_tuple_bool | exact PW.kb_tuple_int | exact PW.kb_tuple_str | exact PW.kb_tuple_list | exact PW.kb_tuple_tuple | exact PW.kb_tuple_dict)
local macro_rules | `(tactic| walk_at "len") => `(tactic| first | decide | (refine PW.len_ok ?_; simp only [List.length_cons, List.length_nil]; omega) | (simp only [List.length_cons, List.length_nil]; omega))
namespace PW
open PySem PySem.Spec PyProof.Rows L2
/-! ### the text by places -/
def top (i : Nat) : Stmt := PySem.Challenge.pw_powerwish_k05_quotients_and_remainders.main.body.getD i (.Pass ⟨0, 0, 0, 0⟩)
abbrev s_is_whole : Stmt := top 9
abbrev n_is_whole : List Str := ["value"]
abbrev p_is_whole : List Str := ["value"]
theorem sc_is_whole : FnScope n_is_whole p_is_whole (defScope s_is_whole) := ⟨rfl, rfl, rfl, by decide +kernel, rfl, by decide +kernel, by decide +kernel⟩
abbrev s_common : Stmt := top 10
abbrev n_common : List Str := ["one", "other"]
abbrev p_common : List Str := ["one", "other"]
theorem sc_common : FnScope n_common p_common (defScope s_common) := ⟨rfl, rfl, rfl, by decide +kernel, rfl, by decide +kernel, by decide +kernel⟩
abbrev s_bits : Stmt := top 11
abbrev n_bits : List Str := ["number"]
abbrev p_bits : List Str := ["number"]
theorem sc_bits : FnScope n_bits p_bits (defScope s_bits) := ⟨rfl, rfl, rfl, by decide +kernel, rfl, by decide +kernel, by decide +kernel⟩
abbrev s_doubled : Stmt := top 12
abbrev n_doubled : List Str := ["times", "found", "square", "left"]
abbrev p_doubled : List Str := ["times"]
theorem sc_doubled : FnScope n_doubled p_doubled (defScope s_doubled) := ⟨rfl, rfl, rfl, by decide +kernel, rfl, by decide +kernel, by decide +kernel⟩
abbrev s_power_rest : Stmt := top 13
abbrev n_power_rest : List Str := ["times", "divisor", "found", "square"]
abbrev p_power_rest : List Str := ["times", "divisor"]
theorem sc_power_rest : FnScope n_power_rest p_power_rest (defScope s_power_rest) := ⟨rfl, rfl, rfl, by decide +kernel, rfl, by decide +kernel, by decide +kernel⟩
abbrev s_totient : Stmt := top 14
abbrev n_totient : List Str := ["number", "found", "rest", "factor"]
abbrev p_totient : List Str := ["number"]
theorem sc_totient : FnScope n_totient p_totient (defScope s_totient) := ⟨rfl, rfl, rfl, by decide +kernel, rfl, by decide +kernel, by decide +kernel⟩
abbrev s_ordered : Stmt := top 15
abbrev n_ordered : List Str := ["parts", "found", "coefficient", "exponent", "at"]
abbrev p_ordered : List Str := ["parts"]
theorem sc_ordered : FnScope n_ordered p_ordered (defScope s_ordered) := ⟨rfl, rfl, rfl, by decide +kernel, rfl, by decide +kernel, by decide +kernel⟩
abbrev s_gathered : Stmt := top 16
abbrev n_gathered : List Str := ["parts", "low", "apart", "coefficient", "exponent", "gap", "first", "lower"]
abbrev p_gathered : List Str := ["parts", "low"]
theorem sc_gathered : FnScope n_gathered p_gathered (defScope s_gathered) := ⟨rfl, rfl, rfl, by decide +kernel, rfl, by decide +kernel, by decide +kernel⟩
abbrev s_settled : Stmt := top 17
abbrev n_settled : List Str := ["parts", "low", "share", "apart", "divisor", "coefficient", "exponent", "rows", "top", "part", "many"]
abbrev p_settled : List Str := ["parts", "low", "share"]
theorem sc_settled : FnScope n_settled p_settled (defScope s_settled) := ⟨rfl, rfl, rfl, by decide +kernel, rfl, by decide +kernel, by decide +kernel⟩
abbrev s_tower_of : Stmt := top 18
abbrev n_tower_of : List Str := ["value"]
abbrev p_tower_of : List Str := ["value"]
theorem sc_tower_of : FnScope n_tower_of p_tower_of (defScope s_tower_of) := ⟨rfl, rfl, rfl, by decide +kernel, rfl, by decide +kernel, by decide +kernel⟩
abbrev s_is_number : Stmt := top 19
abbrev n_is_number : List Str := ["value"]
abbrev p_is_number : List Str := ["value"]
theorem sc_is_number : FnScope n_is_number p_is_number (defScope s_is_number) := ⟨rfl, rfl, rfl, by decide +kernel, rfl, by decide +kernel, by decide +kernel⟩
abbrev s_total : Stmt := top 20
abbrev n_total : List Str := ["one", "other", "factor", "share", "left", "right", "parts", "coefficient", "exponent"]
abbrev p_total : List Str := ["one", "other", "factor"]
theorem sc_total : FnScope n_total p_total (defScope s_total) := ⟨rfl, rfl, rfl, by decide +kernel, rfl, by decide +kernel, by decide +kernel⟩
abbrev s_rest_of : Stmt := top 21
abbrev n_rest_of : List Str := ["number", "divisor", "whole", "found", "coefficient", "exponent", "odd", "twos", "cycle", "times"]
abbrev p_rest_of : List Str := ["number", "divisor"]
theorem sc_rest_of : FnScope n_rest_of p_rest_of (defScope s_rest_of) := ⟨rfl, rfl, rfl, by decide +kernel, rfl, by decide +kernel, by decide +kernel⟩
abbrev s__law_pull : Stmt := top 24
abbrev n__law_pull : List Str := ["_law_bag_here", "_law_many_z", "_law_cell", "_law_got", "_law_seed"]
abbrev p__law_pull : List Str := ["_law_bag_here", "_law_many_z"]
theorem sc__law_pull : FnScope n__law_pull p__law_pull (defScope s__law_pull) := ⟨rfl, rfl, rfl, by decide +kernel, rfl, by decide +kernel, by decide +kernel⟩
abbrev s__law_of : Stmt := top 25
abbrev n__law_of : List Str := ["_law_bag_here", "_law_some"]
abbrev p__law_of : List Str := ["_law_bag_here", "_law_some"]
theorem sc__law_of : FnScope n__law_of p__law_of (defScope s__law_of) := ⟨rfl, rfl, rfl, by decide +kernel, rfl, by decide +kernel, by decide +kernel⟩
abbrev s__law_same : Stmt := top 26
abbrev n__law_same : List Str := ["_law_found", "_law_due", "_law_one_z", "_law_other_z"]
abbrev p__law_same : List Str := ["_law_found", "_law_due"]
theorem sc__law_same : FnScope n__law_same p__law_same (defScope s__law_same) := ⟨rfl, rfl, rfl, by decide +kernel, rfl, by decide +kernel, by decide +kernel⟩
abbrev s__law_whys : Stmt := top 27
abbrev n__law_whys : List Str := ["_law_asks", "_law_ask_z"]
abbrev p__law_whys : List Str := ["_law_asks"]
theorem sc__law_whys : FnScope n__law_whys p__law_whys (defScope s__law_whys) := ⟨rfl, rfl, rfl, by decide +kernel, rfl, by decide +kernel, by decide +kernel⟩
abbrev s__law_bag : Stmt := top 28
abbrev n__law_bag : List Str := ["_law_script"]
abbrev p__law_bag : List Str := ["_law_script"]
theorem sc__law_bag : FnScope n__law_bag p__law_bag (defScope s__law_bag) := ⟨rfl, rfl, rfl, by decide +kernel, rfl, by decide +kernel, by decide +kernel⟩
abbrev s__law_field : Stmt := top 29
abbrev n__law_field : List Str := ["_law_e"]
abbrev p__law_field : List Str := ["_law_e"]
theorem sc__law_field : FnScope n__law_field p__law_field (defScope s__law_field) := ⟨rfl, rfl, rfl, by decide +kernel, rfl, by decide +kernel, by decide +kernel⟩
abbrev s__law_why : Stmt := top 30
abbrev n__law_why : List Str := ["_law_ask_z", "_law_e"]
abbrev p__law_why : List Str := ["_law_ask_z"]
theorem sc__law_why : FnScope n__law_why p__law_why (defScope s__law_why) := ⟨rfl, rfl, rfl, by decide +kernel, rfl, by decide +kernel, by decide +kernel⟩
abbrev s__law_two : Stmt := top 31
abbrev n__law_two : List Str := ["_law_times_z", "_law_found", "_law_k"]
abbrev p__law_two : List Str := ["_law_times_z"]
theorem sc__law_two : FnScope n__law_two p__law_two (defScope s__law_two) := ⟨rfl, rfl, rfl, by decide +kernel, rfl, by decide +kernel, by decide +kernel⟩
abbrev s__law_size : Stmt := top 32
abbrev n__law_size : List Str := ["_law_number_z"]
abbrev p__law_size : List Str := ["_law_number_z"]
theorem sc__law_size : FnScope n__law_size p__law_size (defScope s__law_size) := ⟨rfl, rfl, rfl, by decide +kernel, rfl, by decide +kernel, by decide +kernel⟩
abbrev s__law_sign : Stmt := top 33
abbrev n__law_sign : List Str := ["_law_number_z"]
abbrev p__law_sign : List Str := ["_law_number_z"]
theorem sc__law_sign : FnScope n__law_sign p__law_sign (defScope s__law_sign) := ⟨rfl, rfl, rfl, by decide +kernel, rfl, by decide +kernel, by decide +kernel⟩
abbrev s__law_whole : Stmt := top 34
abbrev n__law_whole : List Str := ["_law_bag_here", "_law_way", "_law_near"]
abbrev p__law_whole : List Str := ["_law_bag_here"]
theorem sc__law_whole : FnScope n__law_whole p__law_whole (defScope s__law_whole) := ⟨rfl, rfl, rfl, by decide +kernel, rfl, by decide +kernel, by decide +kernel⟩
abbrev s__law_is : Stmt := top 35
abbrev n__law_is : List Str := ["_law_found", "_law_due", "_law_m"]
abbrev p__law_is : List Str := ["_law_found", "_law_due"]
theorem sc__law_is : FnScope n__law_is p__law_is (defScope s__law_is) := ⟨rfl, rfl, rfl, by decide +kernel, rfl, by decide +kernel, by decide +kernel⟩
abbrev s__law_made : Stmt := top 36
abbrev n__law_made : List Str := ["_law_bag_here", "_law_many_z", "_law_exponent_z", "_law_found", "_law_turn", "_law_way", "_law_other_z", "_law_factor_z", "_law_share_z", "_law_more_z"]
abbrev p__law_made : List Str := ["_law_bag_here", "_law_many_z"]
theorem sc__law_made : FnScope n__law_made p__law_made (defScope s__law_made) := ⟨rfl, rfl, rfl, by decide +kernel, rfl, by decide +kernel, by decide +kernel⟩
abbrev s__law_divided_down : Stmt := top 37
abbrev n__law_divided_down : List Str := ["_law_bag_here", "_law_times_z", "_law_number_z", "_law_exact", "_law_k", "_law_divisor_z"]
abbrev p__law_divided_down : List Str := ["_law_bag_here"]
theorem sc__law_divided_down : FnScope n__law_divided_down p__law_divided_down (defScope s__law_divided_down) := ⟨rfl, rfl, rfl, by decide +kernel, rfl, by decide +kernel, by decide +kernel⟩
abbrev s_law : Stmt := top 38
abbrev n_law : List Str := ["_law_script", "_law_bag_here", "_law_turn", "_law_one_z", "_law_divisor_z", "_law_other_z", "_law_found", "_law_due", "_law_rests", "_law_more_z", "_law_odd", "_law_many_z", "_law_number_z"]
abbrev p_law : List Str := ["_law_script"]
theorem sc_law : FnScope n_law p_law (defScope s_law) := ⟨rfl, rfl, rfl, by decide +kernel, rfl, by decide +kernel, by decide +kernel⟩
abbrev s_Tower___init__ : Stmt := inClass (top 22) 0
abbrev n_Tower___init__ : List Str := ["self", "value", "parts", "share"]
abbrev p_Tower___init__ : List Str := ["self", "value", "parts", "share"]
theorem sc_Tower___init__ : FnScope n_Tower___init__ p_Tower___init__ (defScope s_Tower___init__) := ⟨rfl, rfl, rfl, by decide +kernel, rfl, by decide +kernel, by decide +kernel⟩
abbrev s_Tower_power : Stmt := inClass (top 22) 1
abbrev n_Tower_power : List Str := ["exponent", "times", "plain"]
abbrev p_Tower_power : List Str := ["exponent"]
theorem sc_Tower_power : FnScope n_Tower_power p_Tower_power (defScope s_Tower_power) := ⟨rfl, rfl, rfl, by decide +kernel, rfl, by decide +kernel, by decide +kernel⟩
abbrev s_Tower_sign : Stmt := inClass (top 22) 2
abbrev n_Tower_sign : List Str := ["self", "first"]
abbrev p_Tower_sign : List Str := ["self"]
theorem sc_Tower_sign : FnScope n_Tower_sign p_Tower_sign (defScope s_Tower_sign) := ⟨rfl, rfl, rfl, by decide +kernel, rfl, by decide +kernel, by decide +kernel⟩
abbrev s_Tower_above : Stmt := inClass (top 22) 3
abbrev n_Tower_above : List Str := ["self", "other"]
abbrev p_Tower_above : List Str := ["self", "other"]
theorem sc_Tower_above : FnScope n_Tower_above p_Tower_above (defScope s_Tower_above) := ⟨rfl, rfl, rfl, by decide +kernel, rfl, by decide +kernel, by decide +kernel⟩
abbrev s_Tower_small : Stmt := inClass (top 22) 4
abbrev n_Tower_small : List Str := ["self"]
abbrev p_Tower_small : List Str := ["self"]
theorem sc_Tower_small : FnScope n_Tower_small p_Tower_small (defScope s_Tower_small) := ⟨rfl, rfl, rfl, by decide +kernel, rfl, by decide +kernel, by decide +kernel⟩
abbrev s_Tower_length : Stmt := inClass (top 22) 5
abbrev n_Tower_length : List Str := ["self", "first", "exponent", "guess"]
abbrev p_Tower_length : List Str := ["self"]
theorem sc_Tower_length : FnScope n_Tower_length p_Tower_length (defScope s_Tower_length) := ⟨rfl, rfl, rfl, by decide +kernel, rfl, by decide +kernel, by decide +kernel⟩
abbrev s_Tower_text : Stmt := inClass (top 22) 6
abbrev n_Tower_text : List Str := ["self", "plain", "size", "head"]
abbrev p_Tower_text : List Str := ["self"]
theorem sc_Tower_text : FnScope n_Tower_text p_Tower_text (defScope s_Tower_text) := ⟨rfl, rfl, rfl, by decide +kernel, rfl, by decide +kernel, by decide +kernel⟩
abbrev s_Tower___add__ : Stmt := inClass (top 22) 7
abbrev n_Tower___add__ : List Str := ["self", "other"]
abbrev p_Tower___add__ : List Str := ["self", "other"]
theorem sc_Tower___add__ : FnScope n_Tower___add__ p_Tower___add__ (defScope s_Tower___add__) := ⟨rfl, rfl, rfl, by decide +kernel, rfl, by decide +kernel, by decide +kernel⟩
abbrev s_Tower___radd__ : Stmt := inClass (top 22) 8
abbrev n_Tower___radd__ : List Str := ["self", "other"]
abbrev p_Tower___radd__ : List Str := ["self", "other"]
theorem sc_Tower___radd__ : FnScope n_Tower___radd__ p_Tower___radd__ (defScope s_Tower___radd__) := ⟨rfl, rfl, rfl, by decide +kernel, rfl, by decide +kernel, by decide +kernel⟩
abbrev s_Tower___sub__ : Stmt := inClass (top 22) 9
abbrev n_Tower___sub__ : List Str := ["self", "other"]
abbrev p_Tower___sub__ : List Str := ["self", "other"]
theorem sc_Tower___sub__ : FnScope n_Tower___sub__ p_Tower___sub__ (defScope s_Tower___sub__) := ⟨rfl, rfl, rfl, by decide +kernel, rfl, by decide +kernel, by decide +kernel⟩
abbrev s_Tower___rsub__ : Stmt := inClass (top 22) 10
abbrev n_Tower___rsub__ : List Str := ["self", "other"]
abbrev p_Tower___rsub__ : List Str := ["self", "other"]
theorem sc_Tower___rsub__ : FnScope n_Tower___rsub__ p_Tower___rsub__ (defScope s_Tower___rsub__) := ⟨rfl, rfl, rfl, by decide +kernel, rfl, by decide +kernel, by decide +kernel⟩
abbrev s_Tower___neg__ : Stmt := inClass (top 22) 11
abbrev n_Tower___neg__ : List Str := ["self"]
abbrev p_Tower___neg__ : List Str := ["self"]
theorem sc_Tower___neg__ : FnScope n_Tower___neg__ p_Tower___neg__ (defScope s_Tower___neg__) := ⟨rfl, rfl, rfl, by decide +kernel, rfl, by decide +kernel, by decide +kernel⟩
abbrev s_Tower___abs__ : Stmt := inClass (top 22) 12
abbrev n_Tower___abs__ : List Str := ["self"]
abbrev p_Tower___abs__ : List Str := ["self"]
theorem sc_Tower___abs__ : FnScope n_Tower___abs__ p_Tower___abs__ (defScope s_Tower___abs__) := ⟨rfl, rfl, rfl, by decide +kernel, rfl, by decide +kernel, by decide +kernel⟩
abbrev s_Tower___mul__ : Stmt := inClass (top 22) 13
abbrev n_Tower___mul__ : List Str := ["self", "other"]
abbrev p_Tower___mul__ : List Str := ["self", "other"]
theorem sc_Tower___mul__ : FnScope n_Tower___mul__ p_Tower___mul__ (defScope s_Tower___mul__) := ⟨rfl, rfl, rfl, by decide +kernel, rfl, by decide +kernel, by decide +kernel⟩
abbrev s_Tower___rmul__ : Stmt := inClass (top 22) 14
abbrev n_Tower___rmul__ : List Str := ["self", "other"]
abbrev p_Tower___rmul__ : List Str := ["self", "other"]
theorem sc_Tower___rmul__ : FnScope n_Tower___rmul__ p_Tower___rmul__ (defScope s_Tower___rmul__) := ⟨rfl, rfl, rfl, by decide +kernel, rfl, by decide +kernel, by decide +kernel⟩
abbrev s_Tower___mod__ : Stmt := inClass (top 22) 15
abbrev n_Tower___mod__ : List Str := ["self", "other"]
abbrev p_Tower___mod__ : List Str := ["self", "other"]
theorem sc_Tower___mod__ : FnScope n_Tower___mod__ p_Tower___mod__ (defScope s_Tower___mod__) := ⟨rfl, rfl, rfl, by decide +kernel, rfl, by decide +kernel, by decide +kernel⟩
abbrev s_Tower___floordiv__ : Stmt := inClass (top 22) 16
abbrev n_Tower___floordiv__ : List Str := ["self", "other", "rest"]
abbrev p_Tower___floordiv__ : List Str := ["self", "other"]
theorem sc_Tower___floordiv__ : FnScope n_Tower___floordiv__ p_Tower___floordiv__ (defScope s_Tower___floordiv__) := ⟨rfl, rfl, rfl, by decide +kernel, rfl, by decide +kernel, by decide +kernel⟩
abbrev s_Tower___eq__ : Stmt := inClass (top 22) 17
abbrev n_Tower___eq__ : List Str := ["self", "other"]
abbrev p_Tower___eq__ : List Str := ["self", "other"]
theorem sc_Tower___eq__ : FnScope n_Tower___eq__ p_Tower___eq__ (defScope s_Tower___eq__) := ⟨rfl, rfl, rfl, by decide +kernel, rfl, by decide +kernel, by decide +kernel⟩
abbrev s_Tower___repr__ : Stmt := inClass (top 22) 18
abbrev n_Tower___repr__ : List Str := ["self"]
abbrev p_Tower___repr__ : List Str := ["self"]
theorem sc_Tower___repr__ : FnScope n_Tower___repr__ p_Tower___repr__ (defScope s_Tower___repr__) := ⟨rfl, rfl, rfl, by decide +kernel, rfl, by decide +kernel, by decide +kernel⟩
abbrev s_InvalidNumber___init__ : Stmt := inClass (top 3) 0
abbrev dx_InvalidNumber : DefX := ⟨"InvalidNumber", "InvalidNumber.__init__", defArgs s_InvalidNumber___init__, defBody s_InvalidNumber___init__, defScope s_InvalidNumber___init__⟩
/-! ### what the top has made -/
structure Txt (K : PySem.W.Frag) (mg : Str → Option Value) : Prop where
  g_is_whole : mg "is_whole" = some (.ref (He.ga K "is_whole"))
  g_common : mg "common" = some (.ref (He.ga K "common"))
  g_bits : mg "bits" = some (.ref (He.ga K "bits"))
  g_doubled : mg "doubled" = some (.ref (He.ga K "doubled"))
  g_power_rest : mg "power_rest" = some (.ref (He.ga K "power_rest"))
  g_totient : mg "totient" = some (.ref (He.ga K "totient"))
  g_ordered : mg "ordered" = some (.ref (He.ga K "ordered"))
  g_gathered : mg "gathered" = some (.ref (He.ga K "gathered"))
  g_settled : mg "settled" = some (.ref (He.ga K "settled"))
  g_tower_of : mg "tower_of" = some (.ref (He.ga K "tower_of"))
  g_is_number : mg "is_number" = some (.ref (He.ga K "is_number"))
  g_total : mg "total" = some (.ref (He.ga K "total"))
  g_rest_of : mg "rest_of" = some (.ref (He.ga K "rest_of"))
  g__law_pull : mg "_law_pull" = some (.ref (He.ga K "_law_pull"))
  g__law_of : mg "_law_of" = some (.ref (He.ga K "_law_of"))
  g__law_same : mg "_law_same" = some (.ref (He.ga K "_law_same"))
  g__law_whys : mg "_law_whys" = some (.ref (He.ga K "_law_whys"))
  g__law_bag : mg "_law_bag" = some (.ref (He.ga K "_law_bag"))
  g__law_field : mg "_law_field" = some (.ref (He.ga K "_law_field"))
  g__law_why : mg "_law_why" = some (.ref (He.ga K "_law_why"))
  g__law_two : mg "_law_two" = some (.ref (He.ga K "_law_two"))
  g__law_size : mg "_law_size" = some (.ref (He.ga K "_law_size"))
  g__law_sign : mg "_law_sign" = some (.ref (He.ga K "_law_sign"))
  g__law_whole : mg "_law_whole" = some (.ref (He.ga K "_law_whole"))
  g__law_is : mg "_law_is" = some (.ref (He.ga K "_law_is"))
  g__law_made : mg "_law_made" = some (.ref (He.ga K "_law_made"))
  g__law_divided_down : mg "_law_divided_down" = some (.ref (He.ga K "_law_divided_down"))
  g_law : mg "law" = some (.ref (He.ga K "law"))
  g_WishError : mg "WishError" = some (.ref (He.ga K "WishError"))
  g_Missing : mg "Missing" = some (.ref (He.ga K "Missing"))
  g_InvalidNumber : mg "InvalidNumber" = some (.ref (He.ga K "InvalidNumber"))
  g_NothingLeft : mg "NothingLeft" = some (.ref (He.ga K "NothingLeft"))
  g_Tower : mg "Tower" = some (.ref (He.ga K "Tower"))
  c_PLAIN : ∃ t, mg "PLAIN" = some (.int 256 t)
  c_SMALL : ∃ t, mg "SMALL" = some (.int 18446744073709551616 t)
  c_MOST_DIVISOR : ∃ t, mg "MOST_DIVISOR" = some (.int 1000 t)
  f_isinstance : mg "isinstance" = none
  f_int : mg "int" = none
  f_bool : mg "bool" = none
  f_abs : mg "abs" = none
  f_len : mg "len" = none
  f_tuple : mg "tuple" = none
  f_sum : mg "sum" = none
  f_list : mg "list" = none
  f_all : mg "all" = none
  f_str : mg "str" = none
  f_zip : mg "zip" = none
  f_range : mg "range" = none
  f_max : mg "max" = none
  f_super : mg "super" = none
  f_staticmethod : mg "staticmethod" = none
  f_NotImplemented : mg "NotImplemented" = none
  d_is_whole : FunD K "is_whole" "is_whole" (defArgs s_is_whole) (defBody s_is_whole) (defScope s_is_whole) [] [] (He.fAd K ("is_whole", none)) (fdOf K (He.fAd K ("is_whole", none)))
  d_common : FunD K "common" "common" (defArgs s_common) (defBody s_common) (defScope s_common) [] [] (He.fAd K ("common", none)) (fdOf K (He.fAd K ("common", none)))
  d_bits : FunD K "bits" "bits" (defArgs s_bits) (defBody s_bits) (defScope s_bits) [] [] (He.fAd K ("bits", none)) (fdOf K (He.fAd K ("bits", none)))
  d_doubled : FunD K "doubled" "doubled" (defArgs s_doubled) (defBody s_doubled) (defScope s_doubled) [] [] (He.fAd K ("doubled", none)) (fdOf K (He.fAd K ("doubled", none)))
  d_power_rest : FunD K "power_rest" "power_rest" (defArgs s_power_rest) (defBody s_power_rest) (defScope s_power_rest) [] [] (He.fAd K ("power_rest", none)) (fdOf K (He.fAd K ("power_rest", none)))
  d_totient : FunD K "totient" "totient" (defArgs s_totient) (defBody s_totient) (defScope s_totient) [] [] (He.fAd K ("totient", none)) (fdOf K (He.fAd K ("totient", none)))
  d_ordered : FunD K "ordered" "ordered" (defArgs s_ordered) (defBody s_ordered) (defScope s_ordered) [] [] (He.fAd K ("ordered", none)) (fdOf K (He.fAd K ("ordered", none)))
  d_gathered : FunD K "gathered" "gathered" (defArgs s_gathered) (defBody s_gathered) (defScope s_gathered) [] [] (He.fAd K ("gathered", none)) (fdOf K (He.fAd K ("gathered", none)))
  d_settled : FunD K "settled" "settled" (defArgs s_settled) (defBody s_settled) (defScope s_settled) [] [] (He.fAd K ("settled", none)) (fdOf K (He.fAd K ("settled", none)))
  d_tower_of : FunD K "tower_of" "tower_of" (defArgs s_tower_of) (defBody s_tower_of) (defScope s_tower_of) [] [] (He.fAd K ("tower_of", none)) (fdOf K (He.fAd K ("tower_of", none)))
  d_is_number : FunD K "is_number" "is_number" (defArgs s_is_number) (defBody s_is_number) (defScope s_is_number) [] [] (He.fAd K ("is_number", none)) (fdOf K (He.fAd K ("is_number", none)))
  d_total : FunD K "total" "total" (defArgs s_total) (defBody s_total) (defScope s_total) [] [] (He.fAd K ("total", none)) (fdOf K (He.fAd K ("total", none)))
  d_rest_of : FunD K "rest_of" "rest_of" (defArgs s_rest_of) (defBody s_rest_of) (defScope s_rest_of) [] [] (He.fAd K ("rest_of", none)) (fdOf K (He.fAd K ("rest_of", none)))
  d__law_pull : FunD K "_law_pull" "_law_pull" (defArgs s__law_pull) (defBody s__law_pull) (defScope s__law_pull) [] [] (He.fAd K ("_law_pull", none)) (fdOf K (He.fAd K ("_law_pull", none)))
  d__law_of : FunD K "_law_of" "_law_of" (defArgs s__law_of) (defBody s__law_of) (defScope s__law_of) [] [] (He.fAd K ("_law_of", none)) (fdOf K (He.fAd K ("_law_of", none)))
  d__law_same : FunD K "_law_same" "_law_same" (defArgs s__law_same) (defBody s__law_same) (defScope s__law_same) [] [] (He.fAd K ("_law_same", none)) (fdOf K (He.fAd K ("_law_same", none)))
  d__law_whys : FunD K "_law_whys" "_law_whys" (defArgs s__law_whys) (defBody s__law_whys) (defScope s__law_whys) [] [] (He.fAd K ("_law_whys", none)) (fdOf K (He.fAd K ("_law_whys", none)))
  d__law_bag : FunD K "_law_bag" "_law_bag" (defArgs s__law_bag) (defBody s__law_bag) (defScope s__law_bag) [] [] (He.fAd K ("_law_bag", none)) (fdOf K (He.fAd K ("_law_bag", none)))
  d__law_field : FunD K "_law_field" "_law_field" (defArgs s__law_field) (defBody s__law_field) (defScope s__law_field) [] [] (He.fAd K ("_law_field", none)) (fdOf K (He.fAd K ("_law_field", none)))
  d__law_why : FunD K "_law_why" "_law_why" (defArgs s__law_why) (defBody s__law_why) (defScope s__law_why) [] [] (He.fAd K ("_law_why", none)) (fdOf K (He.fAd K ("_law_why", none)))
  d__law_two : FunD K "_law_two" "_law_two" (defArgs s__law_two) (defBody s__law_two) (defScope s__law_two) [] [] (He.fAd K ("_law_two", none)) (fdOf K (He.fAd K ("_law_two", none)))
  d__law_size : FunD K "_law_size" "_law_size" (defArgs s__law_size) (defBody s__law_size) (defScope s__law_size) [] [] (He.fAd K ("_law_size", none)) (fdOf K (He.fAd K ("_law_size", none)))
  d__law_sign : FunD K "_law_sign" "_law_sign" (defArgs s__law_sign) (defBody s__law_sign) (defScope s__law_sign) [] [] (He.fAd K ("_law_sign", none)) (fdOf K (He.fAd K ("_law_sign", none)))
  d__law_whole : FunD K "_law_whole" "_law_whole" (defArgs s__law_whole) (defBody s__law_whole) (defScope s__law_whole) [] [] (He.fAd K ("_law_whole", none)) (fdOf K (He.fAd K ("_law_whole", none)))
  d__law_is : FunD K "_law_is" "_law_is" (defArgs s__law_is) (defBody s__law_is) (defScope s__law_is) [] [] (He.fAd K ("_law_is", none)) (fdOf K (He.fAd K ("_law_is", none)))
  d__law_made : FunD K "_law_made" "_law_made" (defArgs s__law_made) (defBody s__law_made) (defScope s__law_made) [] [] (He.fAd K ("_law_made", none)) (fdOf K (He.fAd K ("_law_made", none)))
  d__law_divided_down : FunD K "_law_divided_down" "_law_divided_down" (defArgs s__law_divided_down) (defBody s__law_divided_down) (defScope s__law_divided_down) [] [] (He.fAd K ("_law_divided_down", none)) (fdOf K (He.fAd K ("_law_divided_down", none)))
  d_law : FunD K "law" "law" (defArgs s_law) (defBody s_law) (defScope s_law) [] [] (He.fAd K ("law", none)) (fdOf K (He.fAd K ("law", none)))
  k_Tower : Cls K (He.ga K "Tower")
  i_Tower : C8.InsC K (He.ga K "Tower")
  it_Tower : IsTys K (He.ga K "Tower")
  n_Tower_low : NoAttr K (He.ga K "Tower") "low"
  n_Tower_parts : NoAttr K (He.ga K "Tower") "parts"
  n_Tower_share : NoAttr K (He.ga K "Tower") "share"
  mk_Tower : Mk K (He.ga K "Tower") (He.ma K (He.ga K "Tower") "__init__")
  d_Tower___init__ : FunD K "__init__" "Tower.__init__" (defArgs s_Tower___init__) (defBody s_Tower___init__) (defScope s_Tower___init__) [(.int 0)] [("parts", (.ref (kwA ("Tower", some "__init__") "parts" K))), ("share", (.int 1))] (He.fAd K ("Tower", some "__init__")) (fdOf K (He.fAd K ("Tower", some "__init__")))
  e_Tower___init___parts : ∀ H : Hp, SqT K H (kwA ("Tower", some "__init__") "parts" K) []
  m_Tower___init__ : Meth K (He.ga K "Tower") "__init__" (He.ma K (He.ga K "Tower") "__init__")
  d_Tower_power : FunD K "power" "Tower.power" (defArgs s_Tower_power) (defBody s_Tower_power) (defScope s_Tower_power) [] [] (sgA "Tower" "power" K) (fdOf K (sgA "Tower" "power" K))
  sm_Tower_power : SMet K (He.ga K "Tower") "power" (He.ma K (He.ga K "Tower") "power") (sgA "Tower" "power" K)
  d_Tower_sign : FunD K "sign" "Tower.sign" (defArgs s_Tower_sign) (defBody s_Tower_sign) (defScope s_Tower_sign) [] [] (He.fAd K ("Tower", some "sign")) (fdOf K (He.fAd K ("Tower", some "sign")))
  m_Tower_sign : Meth K (He.ga K "Tower") "sign" (He.ma K (He.ga K "Tower") "sign")
  d_Tower_above : FunD K "above" "Tower.above" (defArgs s_Tower_above) (defBody s_Tower_above) (defScope s_Tower_above) [] [] (He.fAd K ("Tower", some "above")) (fdOf K (He.fAd K ("Tower", some "above")))
  m_Tower_above : Meth K (He.ga K "Tower") "above" (He.ma K (He.ga K "Tower") "above")
  d_Tower_small : FunD K "small" "Tower.small" (defArgs s_Tower_small) (defBody s_Tower_small) (defScope s_Tower_small) [] [] (He.fAd K ("Tower", some "small")) (fdOf K (He.fAd K ("Tower", some "small")))
  m_Tower_small : Meth K (He.ga K "Tower") "small" (He.ma K (He.ga K "Tower") "small")
  d_Tower_length : FunD K "length" "Tower.length" (defArgs s_Tower_length) (defBody s_Tower_length) (defScope s_Tower_length) [] [] (He.fAd K ("Tower", some "length")) (fdOf K (He.fAd K ("Tower", some "length")))
  m_Tower_length : Meth K (He.ga K "Tower") "length" (He.ma K (He.ga K "Tower") "length")
  d_Tower_text : FunD K "text" "Tower.text" (defArgs s_Tower_text) (defBody s_Tower_text) (defScope s_Tower_text) [] [] (He.fAd K ("Tower", some "text")) (fdOf K (He.fAd K ("Tower", some "text")))
  m_Tower_text : Meth K (He.ga K "Tower") "text" (He.ma K (He.ga K "Tower") "text")
  d_Tower___add__ : FunD K "__add__" "Tower.__add__" (defArgs s_Tower___add__) (defBody s_Tower___add__) (defScope s_Tower___add__) [] [] (He.fAd K ("Tower", some "__add__")) (fdOf K (He.fAd K ("Tower", some "__add__")))
  m_Tower___add__ : Meth K (He.ga K "Tower") "__add__" (He.ma K (He.ga K "Tower") "__add__")
  o_Tower___add__ : OwnB K (He.ga K "Tower") .Add (He.ma K (He.ga K "Tower") "__add__")
  d_Tower___radd__ : FunD K "__radd__" "Tower.__radd__" (defArgs s_Tower___radd__) (defBody s_Tower___radd__) (defScope s_Tower___radd__) [] [] (He.fAd K ("Tower", some "__radd__")) (fdOf K (He.fAd K ("Tower", some "__radd__")))
  m_Tower___radd__ : Meth K (He.ga K "Tower") "__radd__" (He.ma K (He.ga K "Tower") "__radd__")
  o_Tower___radd__ : OwnR K (He.ga K "Tower") .Add (He.ma K (He.ga K "Tower") "__radd__")
  d_Tower___sub__ : FunD K "__sub__" "Tower.__sub__" (defArgs s_Tower___sub__) (defBody s_Tower___sub__) (defScope s_Tower___sub__) [] [] (He.fAd K ("Tower", some "__sub__")) (fdOf K (He.fAd K ("Tower", some "__sub__")))
  m_Tower___sub__ : Meth K (He.ga K "Tower") "__sub__" (He.ma K (He.ga K "Tower") "__sub__")
  o_Tower___sub__ : OwnB K (He.ga K "Tower") .Sub (He.ma K (He.ga K "Tower") "__sub__")
  d_Tower___rsub__ : FunD K "__rsub__" "Tower.__rsub__" (defArgs s_Tower___rsub__) (defBody s_Tower___rsub__) (defScope s_Tower___rsub__) [] [] (He.fAd K ("Tower", some "__rsub__")) (fdOf K (He.fAd K ("Tower", some "__rsub__")))
  m_Tower___rsub__ : Meth K (He.ga K "Tower") "__rsub__" (He.ma K (He.ga K "Tower") "__rsub__")
  o_Tower___rsub__ : OwnR K (He.ga K "Tower") .Sub (He.ma K (He.ga K "Tower") "__rsub__")
  d_Tower___neg__ : FunD K "__neg__" "Tower.__neg__" (defArgs s_Tower___neg__) (defBody s_Tower___neg__) (defScope s_Tower___neg__) [] [] (He.fAd K ("Tower", some "__neg__")) (fdOf K (He.fAd K ("Tower", some "__neg__")))
  m_Tower___neg__ : Meth K (He.ga K "Tower") "__neg__" (He.ma K (He.ga K "Tower") "__neg__")
  d_Tower___abs__ : FunD K "__abs__" "Tower.__abs__" (defArgs s_Tower___abs__) (defBody s_Tower___abs__) (defScope s_Tower___abs__) [] [] (He.fAd K ("Tower", some "__abs__")) (fdOf K (He.fAd K ("Tower", some "__abs__")))
  m_Tower___abs__ : Meth K (He.ga K "Tower") "__abs__" (He.ma K (He.ga K "Tower") "__abs__")
  d_Tower___mul__ : FunD K "__mul__" "Tower.__mul__" (defArgs s_Tower___mul__) (defBody s_Tower___mul__) (defScope s_Tower___mul__) [] [] (He.fAd K ("Tower", some "__mul__")) (fdOf K (He.fAd K ("Tower", some "__mul__")))
  m_Tower___mul__ : Meth K (He.ga K "Tower") "__mul__" (He.ma K (He.ga K "Tower") "__mul__")
  o_Tower___mul__ : OwnB K (He.ga K "Tower") .Mult (He.ma K (He.ga K "Tower") "__mul__")
  d_Tower___rmul__ : FunD K "__rmul__" "Tower.__rmul__" (defArgs s_Tower___rmul__) (defBody s_Tower___rmul__) (defScope s_Tower___rmul__) [] [] (He.fAd K ("Tower", some "__rmul__")) (fdOf K (He.fAd K ("Tower", some "__rmul__")))
  m_Tower___rmul__ : Meth K (He.ga K "Tower") "__rmul__" (He.ma K (He.ga K "Tower") "__rmul__")
  o_Tower___rmul__ : OwnR K (He.ga K "Tower") .Mult (He.ma K (He.ga K "Tower") "__rmul__")
  d_Tower___mod__ : FunD K "__mod__" "Tower.__mod__" (defArgs s_Tower___mod__) (defBody s_Tower___mod__) (defScope s_Tower___mod__) [] [] (He.fAd K ("Tower", some "__mod__")) (fdOf K (He.fAd K ("Tower", some "__mod__")))
  m_Tower___mod__ : Meth K (He.ga K "Tower") "__mod__" (He.ma K (He.ga K "Tower") "__mod__")
  o_Tower___mod__ : OwnB K (He.ga K "Tower") .Mod (He.ma K (He.ga K "Tower") "__mod__")
  d_Tower___floordiv__ : FunD K "__floordiv__" "Tower.__floordiv__" (defArgs s_Tower___floordiv__) (defBody s_Tower___floordiv__) (defScope s_Tower___floordiv__) [] [] (He.fAd K ("Tower", some "__floordiv__")) (fdOf K (He.fAd K ("Tower", some "__floordiv__")))
  m_Tower___floordiv__ : Meth K (He.ga K "Tower") "__floordiv__" (He.ma K (He.ga K "Tower") "__floordiv__")
  o_Tower___floordiv__ : OwnB K (He.ga K "Tower") .FloorDiv (He.ma K (He.ga K "Tower") "__floordiv__")
  d_Tower___eq__ : FunD K "__eq__" "Tower.__eq__" (defArgs s_Tower___eq__) (defBody s_Tower___eq__) (defScope s_Tower___eq__) [] [] (He.fAd K ("Tower", some "__eq__")) (fdOf K (He.fAd K ("Tower", some "__eq__")))
  m_Tower___eq__ : Meth K (He.ga K "Tower") "__eq__" (He.ma K (He.ga K "Tower") "__eq__")
  d_Tower___repr__ : FunD K "__repr__" "Tower.__repr__" (defArgs s_Tower___repr__) (defBody s_Tower___repr__) (defScope s_Tower___repr__) [] [] (He.fAd K ("Tower", some "__repr__")) (fdOf K (He.fAd K ("Tower", some "__repr__")))
  m_Tower___repr__ : Meth K (He.ga K "Tower") "__repr__" (He.ma K (He.ga K "Tower") "__repr__")
  x_InvalidNumber : MkC .ve K (He.ga K "InvalidNumber") ["tag", "value"]
  xm_InvalidNumber : PySem.W.exmAny K (.ref (He.ga K "InvalidNumber")) [.ref (He.ga K "WishError"), .ref (He.ga K "Missing"), .ref (He.ga K "NothingLeft")] = some true
  xi_InvalidNumber : ∀ {P : Program}, IsPG P → PySem.W.InitFn .ve K P (He.ga K "InvalidNumber") (He.ma K (He.ga K "InvalidNumber") "__init__") "InvalidNumber.__init__" (defArgs s_InvalidNumber___init__) (defBody s_InvalidNumber___init__) (defScope s_InvalidNumber___init__)
section
variable {K : PySem.W.Frag} {mg : Str → Option Value}
theorem b_is_whole (T : Txt K mg) : Binds K (fdOf K (He.fAd K ("is_whole", none))) p_is_whole [] := FunD.bindsN (ps := p_is_whole) T.d_is_whole fun _ _ _ _ _ _ us hl => match us, hl with | [_], _ => rfl
theorem b_common (T : Txt K mg) : Binds K (fdOf K (He.fAd K ("common", none))) p_common [] := FunD.bindsN (ps := p_common) T.d_common fun _ _ _ _ _ _ us hl => match us, hl with | [_, _], _ => rfl
theorem b_bits (T : Txt K mg) : Binds K (fdOf K (He.fAd K ("bits", none))) p_bits [] := FunD.bindsN (ps := p_bits) T.d_bits fun _ _ _ _ _ _ us hl => match us, hl with | [_], _ => rfl
theorem b_doubled (T : Txt K mg) : Binds K (fdOf K (He.fAd K ("doubled", none))) p_doubled [] := FunD.bindsN (ps := p_doubled) T.d_doubled fun _ _ _ _ _ _ us hl => match us, hl with | [_], _ => rfl
theorem b_power_rest (T : Txt K mg) : Binds K (fdOf K (He.fAd K ("power_rest", none))) p_power_rest [] := FunD.bindsN (ps := p_power_rest) T.d_power_rest fun _ _ _ _ _ _ us hl => match us, hl with | [_, _], _ => rfl
theorem b_totient (T : Txt K mg) : Binds K (fdOf K (He.fAd K ("totient", none))) p_totient [] := FunD.bindsN (ps := p_totient) T.d_totient fun _ _ _ _ _ _ us hl => match us, hl with | [_], _ => rfl
theorem b_ordered (T : Txt K mg) : Binds K (fdOf K (He.fAd K ("ordered", none))) p_ordered [] := FunD.bindsN (ps := p_ordered) T.d_ordered fun _ _ _ _ _ _ us hl => match us, hl with | [_], _ => rfl
theorem b_gathered (T : Txt K mg) : Binds K (fdOf K (He.fAd K ("gathered", none))) p_gathered [] := FunD.bindsN (ps := p_gathered) T.d_gathered fun _ _ _ _ _ _ us hl => match us, hl with | [_, _], _ => rfl
theorem b_settled (T : Txt K mg) : Binds K (fdOf K (He.fAd K ("settled", none))) p_settled [] := FunD.bindsN (ps := p_settled) T.d_settled fun _ _ _ _ _ _ us hl => match us, hl with | [_, _, _], _ => rfl
theorem b_tower_of (T : Txt K mg) : Binds K (fdOf K (He.fAd K ("tower_of", none))) p_tower_of [] := FunD.bindsN (ps := p_tower_of) T.d_tower_of fun _ _ _ _ _ _ us hl => match us, hl with | [_], _ => rfl
theorem b_is_number (T : Txt K mg) : Binds K (fdOf K (He.fAd K ("is_number", none))) p_is_number [] := FunD.bindsN (ps := p_is_number) T.d_is_number fun _ _ _ _ _ _ us hl => match us, hl with | [_], _ => rfl
theorem b_total (T : Txt K mg) : Binds K (fdOf K (He.fAd K ("total", none))) p_total [] := FunD.bindsN (ps := p_total) T.d_total fun _ _ _ _ _ _ us hl => match us, hl with | [_, _, _], _ => rfl
theorem b_rest_of (T : Txt K mg) : Binds K (fdOf K (He.fAd K ("rest_of", none))) p_rest_of [] := FunD.bindsN (ps := p_rest_of) T.d_rest_of fun _ _ _ _ _ _ us hl => match us, hl with | [_, _], _ => rfl
theorem b__law_pull (T : Txt K mg) : Binds K (fdOf K (He.fAd K ("_law_pull", none))) p__law_pull [] := FunD.bindsN (ps := p__law_pull) T.d__law_pull fun _ _ _ _ _ _ us hl => match us, hl with | [_, _], _ => rfl
theorem b__law_of (T : Txt K mg) : Binds K (fdOf K (He.fAd K ("_law_of", none))) p__law_of [] := FunD.bindsN (ps := p__law_of) T.d__law_of fun _ _ _ _ _ _ us hl => match us, hl with | [_, _], _ => rfl
theorem b__law_same (T : Txt K mg) : Binds K (fdOf K (He.fAd K ("_law_same", none))) p__law_same [] := FunD.bindsN (ps := p__law_same) T.d__law_same fun _ _ _ _ _ _ us hl => match us, hl with | [_, _], _ => rfl
theorem b__law_whys (T : Txt K mg) : Binds K (fdOf K (He.fAd K ("_law_whys", none))) p__law_whys [] := FunD.bindsN (ps := p__law_whys) T.d__law_whys fun _ _ _ _ _ _ us hl => match us, hl with | [_], _ => rfl
theorem b__law_bag (T : Txt K mg) : Binds K (fdOf K (He.fAd K ("_law_bag", none))) p__law_bag [] := FunD.bindsN (ps := p__law_bag) T.d__law_bag fun _ _ _ _ _ _ us hl => match us, hl with | [_], _ => rfl
theorem b__law_field (T : Txt K mg) : Binds K (fdOf K (He.fAd K ("_law_field", none))) p__law_field [] := FunD.bindsN (ps := p__law_field) T.d__law_field fun _ _ _ _ _ _ us hl => match us, hl with | [_], _ => rfl
theorem b__law_why (T : Txt K mg) : Binds K (fdOf K (He.fAd K ("_law_why", none))) p__law_why [] := FunD.bindsN (ps := p__law_why) T.d__law_why fun _ _ _ _ _ _ us hl => match us, hl with | [_], _ => rfl
theorem b__law_two (T : Txt K mg) : Binds K (fdOf K (He.fAd K ("_law_two", none))) p__law_two [] := FunD.bindsN (ps := p__law_two) T.d__law_two fun _ _ _ _ _ _ us hl => match us, hl with | [_], _ => rfl
theorem b__law_size (T : Txt K mg) : Binds K (fdOf K (He.fAd K ("_law_size", none))) p__law_size [] := FunD.bindsN (ps := p__law_size) T.d__law_size fun _ _ _ _ _ _ us hl => match us, hl with | [_], _ => rfl
theorem b__law_sign (T : Txt K mg) : Binds K (fdOf K (He.fAd K ("_law_sign", none))) p__law_sign [] := FunD.bindsN (ps := p__law_sign) T.d__law_sign fun _ _ _ _ _ _ us hl => match us, hl with | [_], _ => rfl
theorem b__law_whole (T : Txt K mg) : Binds K (fdOf K (He.fAd K ("_law_whole", none))) p__law_whole [] := FunD.bindsN (ps := p__law_whole) T.d__law_whole fun _ _ _ _ _ _ us hl => match us, hl with | [_], _ => rfl
theorem b__law_is (T : Txt K mg) : Binds K (fdOf K (He.fAd K ("_law_is", none))) p__law_is [] := FunD.bindsN (ps := p__law_is) T.d__law_is fun _ _ _ _ _ _ us hl => match us, hl with | [_, _], _ => rfl
theorem b__law_made (T : Txt K mg) : Binds K (fdOf K (He.fAd K ("_law_made", none))) p__law_made [] := FunD.bindsN (ps := p__law_made) T.d__law_made fun _ _ _ _ _ _ us hl => match us, hl with | [_, _], _ => rfl
theorem b__law_divided_down (T : Txt K mg) : Binds K (fdOf K (He.fAd K ("_law_divided_down", none))) p__law_divided_down [] := FunD.bindsN (ps := p__law_divided_down) T.d__law_divided_down fun _ _ _ _ _ _ us hl => match us, hl with | [_], _ => rfl
theorem b_law (T : Txt K mg) : Binds K (fdOf K (He.fAd K ("law", none))) p_law [] := FunD.bindsN (ps := p_law) T.d_law fun _ _ _ _ _ _ us hl => match us, hl with | [_], _ => rfl
theorem bx_Tower___init___1 (T : Txt K mg) : ∃ ds, Vals ([(.int 0), (.ref (kwA ("Tower", some "__init__") "parts" K)), (.int 1)] : List V) ds ∧ Binds K (fdOf K (He.fAd K ("Tower", some "__init__"))) p_Tower___init__ ds := FunD.binds (ps := p_Tower___init__) T.d_Tower___init__ 1 0 (List.cons_ne_nil _ _) rfl (fun _ _ _ _ _ _ _ us its ks h1 h2 h3 => match us, h1, its, h2, ks, h3 with | [_], _, [_], _, [_, _], _ => ⟨_, rfl, by first | rfl | exact ⟨_, _, _, _, _, _, rfl, rfl, _, _, _, _, _, _, rfl, rfl, rfl⟩⟩) (List.cons_ne_nil _ _)
noncomputable def ds_Tower___init___1 (T : Txt K mg) : List Value := (bx_Tower___init___1 T).choose
theorem dv_Tower___init___1 (T : Txt K mg) : Vals ([(.int 0), (.ref (kwA ("Tower", some "__init__") "parts" K)), (.int 1)] : List V) (ds_Tower___init___1 T) := (bx_Tower___init___1 T).choose_spec.1
theorem b_Tower___init___1 (T : Txt K mg) : Binds K (fdOf K (He.fAd K ("Tower", some "__init__"))) p_Tower___init__ (ds_Tower___init___1 T) := (bx_Tower___init___1 T).choose_spec.2
theorem bx_Tower___init___2 (T : Txt K mg) : ∃ ds, Vals ([(.ref (kwA ("Tower", some "__init__") "parts" K)), (.int 1)] : List V) ds ∧ Binds K (fdOf K (He.fAd K ("Tower", some "__init__"))) p_Tower___init__ ds := FunD.binds (ps := p_Tower___init__) T.d_Tower___init__ 2 1 (List.cons_ne_nil _ _) rfl (fun _ _ _ _ _ _ _ us its ks h1 h2 h3 => match us, h1, its, h2, ks, h3 with | [_, _], _, [_], _, [_, _], _ => ⟨_, rfl, by first | rfl | exact ⟨_, _, _, _, _, _, rfl, rfl, _, _, _, _, _, _, rfl, rfl, rfl⟩⟩) (List.cons_ne_nil _ _)
noncomputable def ds_Tower___init___2 (T : Txt K mg) : List Value := (bx_Tower___init___2 T).choose
theorem dv_Tower___init___2 (T : Txt K mg) : Vals ([(.ref (kwA ("Tower", some "__init__") "parts" K)), (.int 1)] : List V) (ds_Tower___init___2 T) := (bx_Tower___init___2 T).choose_spec.1
theorem b_Tower___init___2 (T : Txt K mg) : Binds K (fdOf K (He.fAd K ("Tower", some "__init__"))) p_Tower___init__ (ds_Tower___init___2 T) := (bx_Tower___init___2 T).choose_spec.2
def kg_Tower___init___1_parts_share {α : Type} : List α → List α → List α → List α → List α | [p0, p1], [d0], [], [w0, w1] => [p0, p1, w0, w1] | _, _, _, _ => []
theorem kr_Tower___init___1_parts_share {vs ds mz zs : List V} {us its mv ws : List Value} (h1 : Vals vs us) (h2 : Vals ds its) (h3 : Vals mz mv) (h4 : Vals zs ws) : Vals (kg_Tower___init___1_parts_share vs ds mz zs) (kg_Tower___init___1_parts_share us its mv ws) := by
  rcases h1 with _ | ⟨p0, h1⟩ <;> (try rcases h1 with _ | ⟨p1, h1⟩) <;> (try rcases h1 with _ | ⟨p2, h1⟩) <;> (try rcases h2 with _ | ⟨d0, h2⟩) <;> (try rcases h2 with _ | ⟨d1, h2⟩) <;> (try rcases h3 with _ | ⟨m0, h3⟩) <;> (try rcases h3 with _ | ⟨m1, h3⟩) <;> (try rcases h4 with _ | ⟨w0, h4⟩) <;> (try rcases h4 with _ | ⟨w1, h4⟩) <;> (try rcases h4 with _ | ⟨w2, h4⟩) <;> first | exact .nil | exact .cons p0 (.cons p1 (.cons w0 (.cons w1 (.nil))))
theorem kx_Tower___init___1_parts_share (T : Txt K mg) : ∃ its mv : List Value, KBn K (fdOf K (He.fAd K ("Tower", some "__init__"))) p_Tower___init__ 2 ["parts", "share"] (fun us ws => kg_Tower___init___1_parts_share us its mv ws) (fun vs zs => kg_Tower___init___1_parts_share vs [(.int 0)] [] zs) := FunD.kbinds (ps := p_Tower___init__) T.d_Tower___init__ 2 ["parts", "share"] [] (fun a b c e => kg_Tower___init___1_parts_share a b c e) (List.cons_ne_nil _ _) (List.cons_ne_nil _ _) (fun q hq => by exact nomatch hq) kr_Tower___init___1_parts_share (fun _ _ _ _ _ _ _ us its mv ws h1 h2 h3 h4 => match us, h1, its, h2, mv, h3, ws, h4 with | [_, _], _, [_], _, [], _, [_, _], _ => ⟨_, rfl, by first | rfl | exact ⟨_, _, _, _, _, _, rfl, rfl, rfl⟩⟩)
noncomputable def ki_Tower___init___1_parts_share (T : Txt K mg) : List Value := (kx_Tower___init___1_parts_share T).choose
noncomputable def km_Tower___init___1_parts_share (T : Txt K mg) : List Value := (kx_Tower___init___1_parts_share T).choose_spec.choose
theorem kb_Tower___init___1_parts_share (T : Txt K mg) : KBn K (fdOf K (He.fAd K ("Tower", some "__init__"))) p_Tower___init__ 2 ["parts", "share"] (fun us ws => kg_Tower___init___1_parts_share us (ki_Tower___init___1_parts_share T) (km_Tower___init___1_parts_share T) ws) (fun vs zs => kg_Tower___init___1_parts_share vs [(.int 0)] [] zs) := (kx_Tower___init___1_parts_share T).choose_spec.choose_spec
def kg_Tower___init___1_parts {α : Type} : List α → List α → List α → List α → List α | [p0, p1], [d0], [m0], [w0] => [p0, p1, w0, m0] | _, _, _, _ => []
theorem kr_Tower___init___1_parts {vs ds mz zs : List V} {us its mv ws : List Value} (h1 : Vals vs us) (h2 : Vals ds its) (h3 : Vals mz mv) (h4 : Vals zs ws) : Vals (kg_Tower___init___1_parts vs ds mz zs) (kg_Tower___init___1_parts us its mv ws) := by
  rcases h1 with _ | ⟨p0, h1⟩ <;> (try rcases h1 with _ | ⟨p1, h1⟩) <;> (try rcases h1 with _ | ⟨p2, h1⟩) <;> (try rcases h2 with _ | ⟨d0, h2⟩) <;> (try rcases h2 with _ | ⟨d1, h2⟩) <;> (try rcases h3 with _ | ⟨m0, h3⟩) <;> (try rcases h3 with _ | ⟨m1, h3⟩) <;> (try rcases h4 with _ | ⟨w0, h4⟩) <;> (try rcases h4 with _ | ⟨w1, h4⟩) <;> (try rcases h4 with _ | ⟨w2, h4⟩) <;> first | exact .nil | exact .cons p0 (.cons p1 (.cons w0 (.cons m0 (.nil))))
theorem kx_Tower___init___1_parts (T : Txt K mg) : ∃ its mv : List Value, KBn K (fdOf K (He.fAd K ("Tower", some "__init__"))) p_Tower___init__ 2 ["parts"] (fun us ws => kg_Tower___init___1_parts us its mv ws) (fun vs zs => kg_Tower___init___1_parts vs [(.int 0)] [(.int 1)] zs) := FunD.kbinds (ps := p_Tower___init__) T.d_Tower___init__ 2 ["parts"] [("share", (.int 1))] (fun a b c e => kg_Tower___init___1_parts a b c e) (List.cons_ne_nil _ _) (List.cons_ne_nil _ _) (fun q hq => by rcases List.mem_cons.mp hq with rfl | hq; exact List.mem_of_getElem? (i := 1) rfl; exact nomatch hq) kr_Tower___init___1_parts (fun _ _ _ _ _ _ _ us its mv ws h1 h2 h3 h4 => match us, h1, its, h2, mv, h3, ws, h4 with | [_, _], _, [_], _, [_], _, [_], _ => ⟨_, rfl, by first | rfl | exact ⟨_, _, _, _, _, _, rfl, rfl, rfl⟩⟩)
noncomputable def ki_Tower___init___1_parts (T : Txt K mg) : List Value := (kx_Tower___init___1_parts T).choose
noncomputable def km_Tower___init___1_parts (T : Txt K mg) : List Value := (kx_Tower___init___1_parts T).choose_spec.choose
theorem kb_Tower___init___1_parts (T : Txt K mg) : KBn K (fdOf K (He.fAd K ("Tower", some "__init__"))) p_Tower___init__ 2 ["parts"] (fun us ws => kg_Tower___init___1_parts us (ki_Tower___init___1_parts T) (km_Tower___init___1_parts T) ws) (fun vs zs => kg_Tower___init___1_parts vs [(.int 0)] [(.int 1)] zs) := (kx_Tower___init___1_parts T).choose_spec.choose_spec
theorem b_Tower_power (T : Txt K mg) : Binds K (fdOf K (sgA "Tower" "power" K)) p_Tower_power [] := FunD.bindsN (ps := p_Tower_power) T.d_Tower_power fun _ _ _ _ _ _ us hl => match us, hl with | [_], _ => rfl
theorem b_Tower_sign (T : Txt K mg) : Binds K (fdOf K (He.fAd K ("Tower", some "sign"))) p_Tower_sign [] := FunD.bindsN (ps := p_Tower_sign) T.d_Tower_sign fun _ _ _ _ _ _ us hl => match us, hl with | [_], _ => rfl
theorem b_Tower_above (T : Txt K mg) : Binds K (fdOf K (He.fAd K ("Tower", some "above"))) p_Tower_above [] := FunD.bindsN (ps := p_Tower_above) T.d_Tower_above fun _ _ _ _ _ _ us hl => match us, hl with | [_, _], _ => rfl
theorem b_Tower_small (T : Txt K mg) : Binds K (fdOf K (He.fAd K ("Tower", some "small"))) p_Tower_small [] := FunD.bindsN (ps := p_Tower_small) T.d_Tower_small fun _ _ _ _ _ _ us hl => match us, hl with | [_], _ => rfl
theorem b_Tower_length (T : Txt K mg) : Binds K (fdOf K (He.fAd K ("Tower", some "length"))) p_Tower_length [] := FunD.bindsN (ps := p_Tower_length) T.d_Tower_length fun _ _ _ _ _ _ us hl => match us, hl with | [_], _ => rfl
theorem b_Tower_text (T : Txt K mg) : Binds K (fdOf K (He.fAd K ("Tower", some "text"))) p_Tower_text [] := FunD.bindsN (ps := p_Tower_text) T.d_Tower_text fun _ _ _ _ _ _ us hl => match us, hl with | [_], _ => rfl
theorem b_Tower___add__ (T : Txt K mg) : Binds K (fdOf K (He.fAd K ("Tower", some "__add__"))) p_Tower___add__ [] := FunD.bindsN (ps := p_Tower___add__) T.d_Tower___add__ fun _ _ _ _ _ _ us hl => match us, hl with | [_, _], _ => rfl
theorem b_Tower___radd__ (T : Txt K mg) : Binds K (fdOf K (He.fAd K ("Tower", some "__radd__"))) p_Tower___radd__ [] := FunD.bindsN (ps := p_Tower___radd__) T.d_Tower___radd__ fun _ _ _ _ _ _ us hl => match us, hl with | [_, _], _ => rfl
theorem b_Tower___sub__ (T : Txt K mg) : Binds K (fdOf K (He.fAd K ("Tower", some "__sub__"))) p_Tower___sub__ [] := FunD.bindsN (ps := p_Tower___sub__) T.d_Tower___sub__ fun _ _ _ _ _ _ us hl => match us, hl with | [_, _], _ => rfl
theorem b_Tower___rsub__ (T : Txt K mg) : Binds K (fdOf K (He.fAd K ("Tower", some "__rsub__"))) p_Tower___rsub__ [] := FunD.bindsN (ps := p_Tower___rsub__) T.d_Tower___rsub__ fun _ _ _ _ _ _ us hl => match us, hl with | [_, _], _ => rfl
theorem b_Tower___neg__ (T : Txt K mg) : Binds K (fdOf K (He.fAd K ("Tower", some "__neg__"))) p_Tower___neg__ [] := FunD.bindsN (ps := p_Tower___neg__) T.d_Tower___neg__ fun _ _ _ _ _ _ us hl => match us, hl with | [_], _ => rfl
theorem b_Tower___abs__ (T : Txt K mg) : Binds K (fdOf K (He.fAd K ("Tower", some "__abs__"))) p_Tower___abs__ [] := FunD.bindsN (ps := p_Tower___abs__) T.d_Tower___abs__ fun _ _ _ _ _ _ us hl => match us, hl with | [_], _ => rfl
theorem b_Tower___mul__ (T : Txt K mg) : Binds K (fdOf K (He.fAd K ("Tower", some "__mul__"))) p_Tower___mul__ [] := FunD.bindsN (ps := p_Tower___mul__) T.d_Tower___mul__ fun _ _ _ _ _ _ us hl => match us, hl with | [_, _], _ => rfl
theorem b_Tower___rmul__ (T : Txt K mg) : Binds K (fdOf K (He.fAd K ("Tower", some "__rmul__"))) p_Tower___rmul__ [] := FunD.bindsN (ps := p_Tower___rmul__) T.d_Tower___rmul__ fun _ _ _ _ _ _ us hl => match us, hl with | [_, _], _ => rfl
theorem b_Tower___mod__ (T : Txt K mg) : Binds K (fdOf K (He.fAd K ("Tower", some "__mod__"))) p_Tower___mod__ [] := FunD.bindsN (ps := p_Tower___mod__) T.d_Tower___mod__ fun _ _ _ _ _ _ us hl => match us, hl with | [_, _], _ => rfl
theorem b_Tower___floordiv__ (T : Txt K mg) : Binds K (fdOf K (He.fAd K ("Tower", some "__floordiv__"))) p_Tower___floordiv__ [] := FunD.bindsN (ps := p_Tower___floordiv__) T.d_Tower___floordiv__ fun _ _ _ _ _ _ us hl => match us, hl with | [_, _], _ => rfl
theorem b_Tower___eq__ (T : Txt K mg) : Binds K (fdOf K (He.fAd K ("Tower", some "__eq__"))) p_Tower___eq__ [] := FunD.bindsN (ps := p_Tower___eq__) T.d_Tower___eq__ fun _ _ _ _ _ _ us hl => match us, hl with | [_, _], _ => rfl
theorem b_Tower___repr__ (T : Txt K mg) : Binds K (fdOf K (He.fAd K ("Tower", some "__repr__"))) p_Tower___repr__ [] := FunD.bindsN (ps := p_Tower___repr__) T.d_Tower___repr__ fun _ _ _ _ _ _ us hl => match us, hl with | [_], _ => rfl
end
end PW
namespace PW
open PySem PySem.Spec PyProof.Rows L2
/-! ### the head: facts by names, the run -/
def d_is_whole : He.DefD := ⟨("is_whole", none), "is_whole", "is_whole", defArgs s_is_whole, defBody s_is_whole, defScope s_is_whole, [], []⟩
def d_common : He.DefD := ⟨("common", none), "common", "common", defArgs s_common, defBody s_common, defScope s_common, [], []⟩
def d_bits : He.DefD := ⟨("bits", none), "bits", "bits", defArgs s_bits, defBody s_bits, defScope s_bits, [], []⟩
def d_doubled : He.DefD := ⟨("doubled", none), "doubled", "doubled", defArgs s_doubled, defBody s_doubled, defScope s_doubled, [], []⟩
def d_power_rest : He.DefD := ⟨("power_rest", none), "power_rest", "power_rest", defArgs s_power_rest, defBody s_power_rest, defScope s_power_rest, [], []⟩
def d_totient : He.DefD := ⟨("totient", none), "totient", "totient", defArgs s_totient, defBody s_totient, defScope s_totient, [], []⟩
def d_ordered : He.DefD := ⟨("ordered", none), "ordered", "ordered", defArgs s_ordered, defBody s_ordered, defScope s_ordered, [], []⟩
def d_gathered : He.DefD := ⟨("gathered", none), "gathered", "gathered", defArgs s_gathered, defBody s_gathered, defScope s_gathered, [], []⟩
def d_settled : He.DefD := ⟨("settled", none), "settled", "settled", defArgs s_settled, defBody s_settled, defScope s_settled, [], []⟩
def d_tower_of : He.DefD := ⟨("tower_of", none), "tower_of", "tower_of", defArgs s_tower_of, defBody s_tower_of, defScope s_tower_of, [], []⟩
def d_is_number : He.DefD := ⟨("is_number", none), "is_number", "is_number", defArgs s_is_number, defBody s_is_number, defScope s_is_number, [], []⟩
def d_total : He.DefD := ⟨("total", none), "total", "total", defArgs s_total, defBody s_total, defScope s_total, [], []⟩
def d_rest_of : He.DefD := ⟨("rest_of", none), "rest_of", "rest_of", defArgs s_rest_of, defBody s_rest_of, defScope s_rest_of, [], []⟩
def d__law_pull : He.DefD := ⟨("_law_pull", none), "_law_pull", "_law_pull", defArgs s__law_pull, defBody s__law_pull, defScope s__law_pull, [], []⟩
def d__law_of : He.DefD := ⟨("_law_of", none), "_law_of", "_law_of", defArgs s__law_of, defBody s__law_of, defScope s__law_of, [], []⟩
def d__law_same : He.DefD := ⟨("_law_same", none), "_law_same", "_law_same", defArgs s__law_same, defBody s__law_same, defScope s__law_same, [], []⟩
def d__law_whys : He.DefD := ⟨("_law_whys", none), "_law_whys", "_law_whys", defArgs s__law_whys, defBody s__law_whys, defScope s__law_whys, [], []⟩
def d__law_bag : He.DefD := ⟨("_law_bag", none), "_law_bag", "_law_bag", defArgs s__law_bag, defBody s__law_bag, defScope s__law_bag, [], []⟩
def d__law_field : He.DefD := ⟨("_law_field", none), "_law_field", "_law_field", defArgs s__law_field, defBody s__law_field, defScope s__law_field, [], []⟩
def d__law_why : He.DefD := ⟨("_law_why", none), "_law_why", "_law_why", defArgs s__law_why, defBody s__law_why, defScope s__law_why, [], []⟩
def d__law_two : He.DefD := ⟨("_law_two", none), "_law_two", "_law_two", defArgs s__law_two, defBody s__law_two, defScope s__law_two, [], []⟩
def d__law_size : He.DefD := ⟨("_law_size", none), "_law_size", "_law_size", defArgs s__law_size, defBody s__law_size, defScope s__law_size, [], []⟩
def d__law_sign : He.DefD := ⟨("_law_sign", none), "_law_sign", "_law_sign", defArgs s__law_sign, defBody s__law_sign, defScope s__law_sign, [], []⟩
def d__law_whole : He.DefD := ⟨("_law_whole", none), "_law_whole", "_law_whole", defArgs s__law_whole, defBody s__law_whole, defScope s__law_whole, [], []⟩
def d__law_is : He.DefD := ⟨("_law_is", none), "_law_is", "_law_is", defArgs s__law_is, defBody s__law_is, defScope s__law_is, [], []⟩
def d__law_made : He.DefD := ⟨("_law_made", none), "_law_made", "_law_made", defArgs s__law_made, defBody s__law_made, defScope s__law_made, [], []⟩
def d__law_divided_down : He.DefD := ⟨("_law_divided_down", none), "_law_divided_down", "_law_divided_down", defArgs s__law_divided_down, defBody s__law_divided_down, defScope s__law_divided_down, [], []⟩
def d_law : He.DefD := ⟨("law", none), "law", "law", defArgs s_law, defBody s_law, defScope s_law, [], []⟩
def d_Tower___init__ : He.DefD := ⟨("Tower", some "__init__"), "__init__", "Tower.__init__", defArgs s_Tower___init__, defBody s_Tower___init__, defScope s_Tower___init__, [(.int 0)], [("parts", (.adr (kwA ("Tower", some "__init__") "parts"))), ("share", (.int 1))]⟩
def d_Tower_sign : He.DefD := ⟨("Tower", some "sign"), "sign", "Tower.sign", defArgs s_Tower_sign, defBody s_Tower_sign, defScope s_Tower_sign, [], []⟩
def d_Tower_above : He.DefD := ⟨("Tower", some "above"), "above", "Tower.above", defArgs s_Tower_above, defBody s_Tower_above, defScope s_Tower_above, [], []⟩
def d_Tower_small : He.DefD := ⟨("Tower", some "small"), "small", "Tower.small", defArgs s_Tower_small, defBody s_Tower_small, defScope s_Tower_small, [], []⟩
def d_Tower_length : He.DefD := ⟨("Tower", some "length"), "length", "Tower.length", defArgs s_Tower_length, defBody s_Tower_length, defScope s_Tower_length, [], []⟩
def d_Tower_text : He.DefD := ⟨("Tower", some "text"), "text", "Tower.text", defArgs s_Tower_text, defBody s_Tower_text, defScope s_Tower_text, [], []⟩
def d_Tower___add__ : He.DefD := ⟨("Tower", some "__add__"), "__add__", "Tower.__add__", defArgs s_Tower___add__, defBody s_Tower___add__, defScope s_Tower___add__, [], []⟩
def d_Tower___radd__ : He.DefD := ⟨("Tower", some "__radd__"), "__radd__", "Tower.__radd__", defArgs s_Tower___radd__, defBody s_Tower___radd__, defScope s_Tower___radd__, [], []⟩
def d_Tower___sub__ : He.DefD := ⟨("Tower", some "__sub__"), "__sub__", "Tower.__sub__", defArgs s_Tower___sub__, defBody s_Tower___sub__, defScope s_Tower___sub__, [], []⟩
def d_Tower___rsub__ : He.DefD := ⟨("Tower", some "__rsub__"), "__rsub__", "Tower.__rsub__", defArgs s_Tower___rsub__, defBody s_Tower___rsub__, defScope s_Tower___rsub__, [], []⟩
def d_Tower___neg__ : He.DefD := ⟨("Tower", some "__neg__"), "__neg__", "Tower.__neg__", defArgs s_Tower___neg__, defBody s_Tower___neg__, defScope s_Tower___neg__, [], []⟩
def d_Tower___abs__ : He.DefD := ⟨("Tower", some "__abs__"), "__abs__", "Tower.__abs__", defArgs s_Tower___abs__, defBody s_Tower___abs__, defScope s_Tower___abs__, [], []⟩
def d_Tower___mul__ : He.DefD := ⟨("Tower", some "__mul__"), "__mul__", "Tower.__mul__", defArgs s_Tower___mul__, defBody s_Tower___mul__, defScope s_Tower___mul__, [], []⟩
def d_Tower___rmul__ : He.DefD := ⟨("Tower", some "__rmul__"), "__rmul__", "Tower.__rmul__", defArgs s_Tower___rmul__, defBody s_Tower___rmul__, defScope s_Tower___rmul__, [], []⟩
def d_Tower___mod__ : He.DefD := ⟨("Tower", some "__mod__"), "__mod__", "Tower.__mod__", defArgs s_Tower___mod__, defBody s_Tower___mod__, defScope s_Tower___mod__, [], []⟩
def d_Tower___floordiv__ : He.DefD := ⟨("Tower", some "__floordiv__"), "__floordiv__", "Tower.__floordiv__", defArgs s_Tower___floordiv__, defBody s_Tower___floordiv__, defScope s_Tower___floordiv__, [], []⟩
def d_Tower___eq__ : He.DefD := ⟨("Tower", some "__eq__"), "__eq__", "Tower.__eq__", defArgs s_Tower___eq__, defBody s_Tower___eq__, defScope s_Tower___eq__, [], []⟩
def d_Tower___repr__ : He.DefD := ⟨("Tower", some "__repr__"), "__repr__", "Tower.__repr__", defArgs s_Tower___repr__, defBody s_Tower___repr__, defScope s_Tower___repr__, [], []⟩
def d_Tower_power : DefA := ⟨sgA "Tower" "power", "power", "Tower.power", defArgs s_Tower_power, defBody s_Tower_power, defScope s_Tower_power⟩
def fn0 : List He.DefD := [d_is_whole, d_common, d_bits, d_doubled, d_power_rest, d_totient, d_ordered, d_gathered, d_settled, d_tower_of, d_is_number, d_total, d_rest_of, d__law_pull, d__law_of, d__law_same, d__law_whys, d__law_bag, d__law_field, d__law_why, d__law_two, d__law_size, d__law_sign, d__law_whole, d__law_is, d__law_made, d__law_divided_down, d_law, d_Tower___init__, d_Tower_sign]
def fn1 : List He.DefD := [d_Tower_above, d_Tower_small, d_Tower_length, d_Tower_text, d_Tower___add__, d_Tower___radd__, d_Tower___sub__, d_Tower___rsub__, d_Tower___neg__, d_Tower___abs__, d_Tower___mul__, d_Tower___rmul__, d_Tower___mod__, d_Tower___floordiv__, d_Tower___eq__, d_Tower___repr__]
def fn : List He.DefD := fn0 ++ fn1
def fs : List DefA := [d_Tower_power]
def fa0 : List He.Fa := [.glo "is_whole", .glo "common", .glo "bits", .glo "doubled", .glo "power_rest", .glo "totient", .glo "ordered", .glo "gathered", .glo "settled", .glo "tower_of", .glo "is_number", .glo "total", .glo "rest_of", .glo "_law_pull", .glo "_law_of", .glo "_law_same", .glo "_law_whys", .glo "_law_bag", .glo "_law_field", .glo "_law_why", .glo "_law_two", .glo "_law_size", .glo "_law_sign", .glo "_law_whole", .glo "_law_is", .glo "_law_made", .glo "_law_divided_down", .glo "law", .glo "WishError", .glo "Missing"]
def fa1 : List He.Fa := [.glo "InvalidNumber", .glo "NothingLeft", .glo "Tower", .int "PLAIN" 256, .int "SMALL" 18446744073709551616, .int "MOST_DIVISOR" 1000, .free "isinstance", .free "int", .free "bool", .free "abs", .free "len", .free "tuple", .free "sum", .free "list", .free "all", .free "str", .free "zip", .free "range", .free "max", .free "super", .free "staticmethod", .free "NotImplemented", .cls "Tower", .noat "Tower" "low", .noat "Tower" "parts", .noat "Tower" "share", .mkr "Tower", .meth "Tower" "__init__", .meth "Tower" "sign", .meth "Tower" "above"]
def fa2 : List He.Fa := [.meth "Tower" "small", .meth "Tower" "length", .meth "Tower" "text", .meth "Tower" "__add__", .meth "Tower" "__radd__", .meth "Tower" "__sub__", .meth "Tower" "__rsub__", .meth "Tower" "__neg__", .meth "Tower" "__abs__", .meth "Tower" "__mul__", .meth "Tower" "__rmul__", .meth "Tower" "__mod__", .meth "Tower" "__floordiv__", .meth "Tower" "__eq__", .meth "Tower" "__repr__"]
def fa : List He.Fa := fa0 ++ fa1 ++ fa2
def ex (K : PySem.W.Frag) : List Bool := [insB K (He.ga K "Tower"), isTysB K (He.ga K "Tower"), emptyT K (kwA ("Tower", some "__init__") "parts" K), smetB K (He.ga K "Tower") "power" (He.ma K (He.ga K "Tower") "power") (sgA "Tower" "power" K), ownB K (He.ga K "Tower") .Add (He.ma K (He.ga K "Tower") "__add__"), ownR K (He.ga K "Tower") .Add (He.ma K (He.ga K "Tower") "__radd__"), ownB K (He.ga K "Tower") .Sub (He.ma K (He.ga K "Tower") "__sub__"), ownR K (He.ga K "Tower") .Sub (He.ma K (He.ga K "Tower") "__rsub__"), ownB K (He.ga K "Tower") .Mult (He.ma K (He.ga K "Tower") "__mul__"), ownR K (He.ga K "Tower") .Mult (He.ma K (He.ga K "Tower") "__rmul__"), ownB K (He.ga K "Tower") .Mod (He.ma K (He.ga K "Tower") "__mod__"), ownB K (He.ga K "Tower") .FloorDiv (He.ma K (He.ga K "Tower") "__floordiv__"), mkB .ve K (He.ga K "InvalidNumber") ["tag", "value"], decide (PySem.W.exmAny K (.ref (He.ga K "InvalidNumber")) [.ref (He.ga K "WishError"), .ref (He.ga K "Missing"), .ref (He.ga K "NothingLeft")] = some true)]
def loose0 : List PySem.Str := ["WishError", "Missing", "InvalidNumber", "NothingLeft", "PLAIN", "SMALL", "MOST_DIVISOR", "is_whole", "common", "bits", "doubled", "power_rest", "totient", "ordered", "gathered", "settled", "tower_of", "is_number", "total", "rest_of", "Tower", "_law_pull", "_law_of", "_law_same", "_law_whys", "_law_bag", "_law_field", "_law_why", "_law_two", "_law_size"]
def loose1 : List PySem.Str := ["_law_sign", "_law_whole", "_law_is", "_law_made", "_law_divided_down"]
def loose : List PySem.Str := loose0 ++ loose1
abbrev R : PySem.W.OpenRow := PySem.W.OpenLaw.row PySem.Challenge.rw_powerwish_k05_quotients_and_remainders
def fx : List DefX := [dx_InvalidNumber]
def tf : List He.Defn := [("law", none)]
abbrev hk : PySem.W.Hook := hookN 6 fa fn fs fx tf ex
def ob (s : PySem.W.SharedT) : AlN := obsN 6 fa fn fs fx tf ex (HandSHeadRun.getT s)
theorem ob_eq (s : PySem.W.SharedT) : ob s = hk.obs s.abs := obsN_eq (HandSHeadRun.getT_eq s)
theorem run (w : World) : HandSHeadRun.RunEq R (PySem.W.view R.prog [38]) hk ob 6000 loose w := by
  intro os
  kernel_rfl
theorem txt_of {K : PySem.W.Frag} {h : Heap} {mg : Str → Option Value} (X : K.In h) (G : h.Ns mainGlobals mg) (c0 : SaysN fa fn fs fx tf ex h K) (c : SaysM fa fn fs ex K) : Txt K mg where
  g_is_whole := He.glo_ok X G (c.d.fact 0 (f := .glo "is_whole") rfl)
  g_common := He.glo_ok X G (c.d.fact 1 (f := .glo "common") rfl)
  g_bits := He.glo_ok X G (c.d.fact 2 (f := .glo "bits") rfl)
  g_doubled := He.glo_ok X G (c.d.fact 3 (f := .glo "doubled") rfl)
  g_power_rest := He.glo_ok X G (c.d.fact 4 (f := .glo "power_rest") rfl)
  g_totient := He.glo_ok X G (c.d.fact 5 (f := .glo "totient") rfl)
  g_ordered := He.glo_ok X G (c.d.fact 6 (f := .glo "ordered") rfl)
  g_gathered := He.glo_ok X G (c.d.fact 7 (f := .glo "gathered") rfl)
  g_settled := He.glo_ok X G (c.d.fact 8 (f := .glo "settled") rfl)
  g_tower_of := He.glo_ok X G (c.d.fact 9 (f := .glo "tower_of") rfl)
  g_is_number := He.glo_ok X G (c.d.fact 10 (f := .glo "is_number") rfl)
  g_total := He.glo_ok X G (c.d.fact 11 (f := .glo "total") rfl)
  g_rest_of := He.glo_ok X G (c.d.fact 12 (f := .glo "rest_of") rfl)
  g__law_pull := He.glo_ok X G (c.d.fact 13 (f := .glo "_law_pull") rfl)
  g__law_of := He.glo_ok X G (c.d.fact 14 (f := .glo "_law_of") rfl)
  g__law_same := He.glo_ok X G (c.d.fact 15 (f := .glo "_law_same") rfl)
  g__law_whys := He.glo_ok X G (c.d.fact 16 (f := .glo "_law_whys") rfl)
  g__law_bag := He.glo_ok X G (c.d.fact 17 (f := .glo "_law_bag") rfl)
  g__law_field := He.glo_ok X G (c.d.fact 18 (f := .glo "_law_field") rfl)
  g__law_why := He.glo_ok X G (c.d.fact 19 (f := .glo "_law_why") rfl)
  g__law_two := He.glo_ok X G (c.d.fact 20 (f := .glo "_law_two") rfl)
  g__law_size := He.glo_ok X G (c.d.fact 21 (f := .glo "_law_size") rfl)
  g__law_sign := He.glo_ok X G (c.d.fact 22 (f := .glo "_law_sign") rfl)
  g__law_whole := He.glo_ok X G (c.d.fact 23 (f := .glo "_law_whole") rfl)
  g__law_is := He.glo_ok X G (c.d.fact 24 (f := .glo "_law_is") rfl)
  g__law_made := He.glo_ok X G (c.d.fact 25 (f := .glo "_law_made") rfl)
  g__law_divided_down := He.glo_ok X G (c.d.fact 26 (f := .glo "_law_divided_down") rfl)
  g_law := He.glo_ok X G (c.d.fact 27 (f := .glo "law") rfl)
  g_WishError := He.glo_ok X G (c.d.fact 28 (f := .glo "WishError") rfl)
  g_Missing := He.glo_ok X G (c.d.fact 29 (f := .glo "Missing") rfl)
  g_InvalidNumber := He.glo_ok X G (c.d.fact 30 (f := .glo "InvalidNumber") rfl)
  g_NothingLeft := He.glo_ok X G (c.d.fact 31 (f := .glo "NothingLeft") rfl)
  g_Tower := He.glo_ok X G (c.d.fact 32 (f := .glo "Tower") rfl)
  c_PLAIN := He.int_ok X G (c.d.fact 33 (f := .int "PLAIN" 256) rfl)
  c_SMALL := He.int_ok X G (c.d.fact 34 (f := .int "SMALL" 18446744073709551616) rfl)
  c_MOST_DIVISOR := He.int_ok X G (c.d.fact 35 (f := .int "MOST_DIVISOR" 1000) rfl)
  f_isinstance := He.free_ok X G (c.d.fact 36 (f := .free "isinstance") rfl)
  f_int := He.free_ok X G (c.d.fact 37 (f := .free "int") rfl)
  f_bool := He.free_ok X G (c.d.fact 38 (f := .free "bool") rfl)
  f_abs := He.free_ok X G (c.d.fact 39 (f := .free "abs") rfl)
  f_len := He.free_ok X G (c.d.fact 40 (f := .free "len") rfl)
  f_tuple := He.free_ok X G (c.d.fact 41 (f := .free "tuple") rfl)
  f_sum := He.free_ok X G (c.d.fact 42 (f := .free "sum") rfl)
  f_list := He.free_ok X G (c.d.fact 43 (f := .free "list") rfl)
  f_all := He.free_ok X G (c.d.fact 44 (f := .free "all") rfl)
  f_str := He.free_ok X G (c.d.fact 45 (f := .free "str") rfl)
  f_zip := He.free_ok X G (c.d.fact 46 (f := .free "zip") rfl)
  f_range := He.free_ok X G (c.d.fact 47 (f := .free "range") rfl)
  f_max := He.free_ok X G (c.d.fact 48 (f := .free "max") rfl)
  f_super := He.free_ok X G (c.d.fact 49 (f := .free "super") rfl)
  f_staticmethod := He.free_ok X G (c.d.fact 50 (f := .free "staticmethod") rfl)
  f_NotImplemented := He.free_ok X G (c.d.fact 51 (f := .free "NotImplemented") rfl)
  d_is_whole := funD_of (c.d.def_ 0 (d := d_is_whole) rfl)
  d_common := funD_of (c.d.def_ 1 (d := d_common) rfl)
  d_bits := funD_of (c.d.def_ 2 (d := d_bits) rfl)
  d_doubled := funD_of (c.d.def_ 3 (d := d_doubled) rfl)
  d_power_rest := funD_of (c.d.def_ 4 (d := d_power_rest) rfl)
  d_totient := funD_of (c.d.def_ 5 (d := d_totient) rfl)
  d_ordered := funD_of (c.d.def_ 6 (d := d_ordered) rfl)
  d_gathered := funD_of (c.d.def_ 7 (d := d_gathered) rfl)
  d_settled := funD_of (c.d.def_ 8 (d := d_settled) rfl)
  d_tower_of := funD_of (c.d.def_ 9 (d := d_tower_of) rfl)
  d_is_number := funD_of (c.d.def_ 10 (d := d_is_number) rfl)
  d_total := funD_of (c.d.def_ 11 (d := d_total) rfl)
  d_rest_of := funD_of (c.d.def_ 12 (d := d_rest_of) rfl)
  d__law_pull := funD_of (c.d.def_ 13 (d := d__law_pull) rfl)
  d__law_of := funD_of (c.d.def_ 14 (d := d__law_of) rfl)
  d__law_same := funD_of (c.d.def_ 15 (d := d__law_same) rfl)
  d__law_whys := funD_of (c.d.def_ 16 (d := d__law_whys) rfl)
  d__law_bag := funD_of (c.d.def_ 17 (d := d__law_bag) rfl)
  d__law_field := funD_of (c.d.def_ 18 (d := d__law_field) rfl)
  d__law_why := funD_of (c.d.def_ 19 (d := d__law_why) rfl)
  d__law_two := funD_of (c.d.def_ 20 (d := d__law_two) rfl)
  d__law_size := funD_of (c.d.def_ 21 (d := d__law_size) rfl)
  d__law_sign := funD_of (c.d.def_ 22 (d := d__law_sign) rfl)
  d__law_whole := funD_of (c.d.def_ 23 (d := d__law_whole) rfl)
  d__law_is := funD_of (c.d.def_ 24 (d := d__law_is) rfl)
  d__law_made := funD_of (c.d.def_ 25 (d := d__law_made) rfl)
  d__law_divided_down := funD_of (c.d.def_ 26 (d := d__law_divided_down) rfl)
  d_law := funD_of (c.d.def_ 27 (d := d_law) rfl)
  k_Tower := He.cls_ok (c.d.fact 52 (f := .cls "Tower") rfl)
  i_Tower := insB_ok (He.cls_ok (c.d.fact 52 (f := .cls "Tower") rfl)) (exN c.b 0 rfl)
  it_Tower := isTysB_ok (exN c.b 1 rfl)
  n_Tower_low := He.noat_ok (c.d.fact 53 (f := .noat "Tower" "low") rfl)
  n_Tower_parts := He.noat_ok (c.d.fact 54 (f := .noat "Tower" "parts") rfl)
  n_Tower_share := He.noat_ok (c.d.fact 55 (f := .noat "Tower" "share") rfl)
  mk_Tower := He.mkr_ok (c.d.fact 56 (f := .mkr "Tower") rfl)
  d_Tower___init__ := funD_of (c.d.def_ 28 (d := d_Tower___init__) rfl)
  e_Tower___init___parts := fun H => emptyT_ok (exN c.b 2 rfl) H
  m_Tower___init__ := He.meth_ok (c.d.fact 57 (f := .meth "Tower" "__init__") rfl)
  d_Tower_power := funD_of (c.s d_Tower_power (List.mem_of_getElem? (i := 0) rfl))
  sm_Tower_power := smetB_ok (exN c.b 3 rfl)
  d_Tower_sign := funD_of (c.d.def_ 29 (d := d_Tower_sign) rfl)
  m_Tower_sign := He.meth_ok (c.d.fact 58 (f := .meth "Tower" "sign") rfl)
  d_Tower_above := funD_of (c.d.def_ 30 (d := d_Tower_above) rfl)
  m_Tower_above := He.meth_ok (c.d.fact 59 (f := .meth "Tower" "above") rfl)
  d_Tower_small := funD_of (c.d.def_ 31 (d := d_Tower_small) rfl)
  m_Tower_small := He.meth_ok (c.d.fact 60 (f := .meth "Tower" "small") rfl)
  d_Tower_length := funD_of (c.d.def_ 32 (d := d_Tower_length) rfl)
  m_Tower_length := He.meth_ok (c.d.fact 61 (f := .meth "Tower" "length") rfl)
  d_Tower_text := funD_of (c.d.def_ 33 (d := d_Tower_text) rfl)
  m_Tower_text := He.meth_ok (c.d.fact 62 (f := .meth "Tower" "text") rfl)
  d_Tower___add__ := funD_of (c.d.def_ 34 (d := d_Tower___add__) rfl)
  m_Tower___add__ := He.meth_ok (c.d.fact 63 (f := .meth "Tower" "__add__") rfl)
  o_Tower___add__ := ownB_ok (exN c.b 4 rfl)
  d_Tower___radd__ := funD_of (c.d.def_ 35 (d := d_Tower___radd__) rfl)
  m_Tower___radd__ := He.meth_ok (c.d.fact 64 (f := .meth "Tower" "__radd__") rfl)
  o_Tower___radd__ := ownR_ok (exN c.b 5 rfl)
  d_Tower___sub__ := funD_of (c.d.def_ 36 (d := d_Tower___sub__) rfl)
  m_Tower___sub__ := He.meth_ok (c.d.fact 65 (f := .meth "Tower" "__sub__") rfl)
  o_Tower___sub__ := ownB_ok (exN c.b 6 rfl)
  d_Tower___rsub__ := funD_of (c.d.def_ 37 (d := d_Tower___rsub__) rfl)
  m_Tower___rsub__ := He.meth_ok (c.d.fact 66 (f := .meth "Tower" "__rsub__") rfl)
  o_Tower___rsub__ := ownR_ok (exN c.b 7 rfl)
  d_Tower___neg__ := funD_of (c.d.def_ 38 (d := d_Tower___neg__) rfl)
  m_Tower___neg__ := He.meth_ok (c.d.fact 67 (f := .meth "Tower" "__neg__") rfl)
  d_Tower___abs__ := funD_of (c.d.def_ 39 (d := d_Tower___abs__) rfl)
  m_Tower___abs__ := He.meth_ok (c.d.fact 68 (f := .meth "Tower" "__abs__") rfl)
  d_Tower___mul__ := funD_of (c.d.def_ 40 (d := d_Tower___mul__) rfl)
  m_Tower___mul__ := He.meth_ok (c.d.fact 69 (f := .meth "Tower" "__mul__") rfl)
  o_Tower___mul__ := ownB_ok (exN c.b 8 rfl)
  d_Tower___rmul__ := funD_of (c.d.def_ 41 (d := d_Tower___rmul__) rfl)
  m_Tower___rmul__ := He.meth_ok (c.d.fact 70 (f := .meth "Tower" "__rmul__") rfl)
  o_Tower___rmul__ := ownR_ok (exN c.b 9 rfl)
  d_Tower___mod__ := funD_of (c.d.def_ 42 (d := d_Tower___mod__) rfl)
  m_Tower___mod__ := He.meth_ok (c.d.fact 71 (f := .meth "Tower" "__mod__") rfl)
  o_Tower___mod__ := ownB_ok (exN c.b 10 rfl)
  d_Tower___floordiv__ := funD_of (c.d.def_ 43 (d := d_Tower___floordiv__) rfl)
  m_Tower___floordiv__ := He.meth_ok (c.d.fact 72 (f := .meth "Tower" "__floordiv__") rfl)
  o_Tower___floordiv__ := ownB_ok (exN c.b 11 rfl)
  d_Tower___eq__ := funD_of (c.d.def_ 44 (d := d_Tower___eq__) rfl)
  m_Tower___eq__ := He.meth_ok (c.d.fact 73 (f := .meth "Tower" "__eq__") rfl)
  d_Tower___repr__ := funD_of (c.d.def_ 45 (d := d_Tower___repr__) rfl)
  m_Tower___repr__ := He.meth_ok (c.d.fact 74 (f := .meth "Tower" "__repr__") rfl)
  x_InvalidNumber := mkB_ok (exN c.b 12 rfl)
  xm_InvalidNumber := of_decide_eq_true (exN c.b 13 rfl)
  xi_InvalidNumber := fun {P} hP => DefX.init (d := dx_InvalidNumber) (c0.x dx_InvalidNumber (List.mem_of_getElem? (i := 0) rfl)).1 (c0.x dx_InvalidNumber (List.mem_of_getElem? (i := 0) rfl)).2 (mkB_ok (exN c.b 12 rfl)) hP
end PW
/-! ### lambdas as values: made anywhere, kept as known objects, called from any def -/
namespace PW
open PySem PySem.Spec PyProof.Rows L2
open LamX (CodeO TabS Tabs ExtN TabB LamS)
abbrev lamFn (q : Str) (params : Arguments) (body : Expr) (scope : Scope) (cl : List (Str × Addr)) (dv pm cdv ct : Value) : FuncData :=
  { name := "<lambda>", qualname := q, params, body := .expr body, scope, globals := mainGlobals, closure := cl, defaults := dv, kwdefaults := .none, doc := .none, pyModule := pm, annotations := none, code := cdv, closureTuple := ct, builtins := builtinsNs }
abbrev lamObj (q : Str) (params : Arguments) (body : Expr) (scope : Scope) (cl : List (Str × Addr)) (dv pm : Value) (c' : Addr) (ct : Value) : Obj :=
  { cls := .type "function", data := .func (lamFn q params body scope cl dv pm (.ref c') ct) }
/-- a known function object -/
def LamAt (H : Hp) (f : Addr) (o : Obj) : Prop := H f = some (.frz o (.own 0))
section
variable {M : Model} {A : Around} {E : Value → Shared → Prop} {s : Shared} {q : Str} {params : Arguments} {body : Expr} {scope : Scope} {env : Env} {c P : Addr} {ps : Array Value} {pos : Pos} {firstLine : Nat} {mg : Str → Option Value} {dv : Value}
  {clos : List (Str × Addr)} {Q : Value → Shared → Prop}
/-- the last step of the making: all that it wants of the code object is told -/
theorem lam_tail (hcl : closureFor scope env = pure clos) (hge : env.globals = mainGlobals) (hg : s.heap.Ns mainGlobals mg) (hcode : env.code = .ref c) (C : PySem.W.CodeHd s.heap c P) (hP : s.heap.get? P = some { cls := .none, data := .fields ps }) (ht : TriplesOk ps.toList)
    (hgP : mainGlobals ≠ P) (hb : s.heap.BuiltinsAt mg P)
    (hnew : codeAmong pos ps.toList = none → ∀ (c' : Addr) (ct : Value) (h' : Heap) (tk : Nat), Heap.ExtBut P s.heap h' → s.heap.objs.size ≤ c' → c' < h'.objs.size → h'.CodeRec (.ref c') q → h'.get? P = some { cls := .none, data := .fields (ps ++ #[rawInt pos.line, rawInt pos.col, .ref c']) } →
      Q (.ref h'.objs.size) { s with heap := h'.push (lamObj q params body scope clos dv ((mg "__name__").getD .none) c' ct), toks := tk })
    (hhit : ∀ c' : Addr, codeAmong pos ps.toList = some (.ref c') → ∀ (ct : Value) (h' : Heap) (tk : Nat), (∀ b o, s.heap.get? b = some o → h'.get? b = some o) → s.heap.objs.size ≤ h'.objs.size →
      Q (.ref h'.objs.size) { s with heap := h'.push (lamObj q params body scope clos dv ((mg "__name__").getD .none) c' ct), toks := tk })
    (href : ∀ cv, codeAmong pos ps.toList = some cv → ∃ c' : Addr, cv = .ref c') :
    wpAny M A (makeTail "<lambda>" q params (.expr body) scope env dv .none none pos firstLine) Q E s := by
  obtain ⟨bm, ob, hbm, hne0, _, hneP, hbo, hcls, hdict, hdata⟩ := hb
  -- the rest, behind the closure's tuple: h1 holds all of s
  have rest : ∀ (ct : Value) (h1 : Heap), (∀ b o, s.heap.get? b = some o → h1.get? b = some o) → s.heap.objs.size ≤ h1.objs.size → wpAny M A (do
      let code ← functionCode env pos firstLine "<lambda>" q params scope (.expr body)
      let bt ← builtinsFor env.globals env.builtins
      let pm ← nsGet env.globals "__name__"
      let doc ← (pure .none : Sem Value)
      newObj (.type "function") (.func { name := "<lambda>", qualname := q, params, body := .expr body, scope, globals := env.globals, closure := clos, defaults := dv, kwdefaults := .none, doc := doc, pyModule := pm.getD .none, annotations := none, code := code, closureTuple := ct, builtins := bt })) Q E { s with heap := h1 } := by
    intro ct h1 k hz
    have hg1 : h1.Ns mainGlobals mg := hg.keeps k
    rw [hge]
    cases hc : codeAmong pos ps.toList with
    | none =>
      refine wpAny_bind (wpAny_functionCodeX hcode ((C.keeps k).code (k _ _ hP) ht) ((C.keeps k).tab (k _ _ hP)) hc fun c' h' tk hx hge' hlt _ hrec htb _ => ?_)
      have hx' : Heap.ExtBut P s.heap h' := fun b o hb' e => hx b o hb' (k b o e)
      have hg' : h'.Ns mainGlobals mg := hg1.extBut hx hgP
      refine wpAny_bind (wpAny_builtinsFor hg' hbm hne0 (hx' _ _ hneP hbo) hcls hdict hdata ?_)
      refine wpAny_bind (wpAny_nsGet hg' ?_)
      exact wpAny_bind (wpAny_pure (wpAny_newObj_type (hnew hc c' ct h' tk hx' (Nat.le_trans hz hge') hlt hrec htb.2) (by size_fits)))
    | some cv =>
      obtain ⟨c', rfl⟩ := href cv hc
      refine wpAny_bind (wpAny_functionCode_hit hcode ((C.keeps k).code (k _ _ hP) ht) hc ?_)
      refine wpAny_bind (wpAny_builtinsFor hg1 hbm hne0 (k _ _ hbo) hcls hdict hdata ?_)
      refine wpAny_bind (wpAny_nsGet hg1 ?_)
      exact wpAny_bind (wpAny_pure (wpAny_newObj_type (hhit c' hc ct h1 s.toks k hz) (by size_fits)))
  unfold makeTail
  rw [hcl]
  refine wpAny_bind (wpAny_pure ?_)
  cases clos with
  | nil =>
    simp only [List.isEmpty_nil, if_true]
    refine wpAny_bind (wpAny_pure ?_)
    have z := rest .none s.heap (fun _ _ e => e) (Nat.le_refl _)
    exact z
  | cons y r =>
    simp only [List.isEmpty_cons, Bool.false_eq_true, if_false]
    refine wpAny_bind (wpAny_newTextTuple ?_)
    have z := rest (.ref s.heap.objs.size) (s.heap.push { cls := .type "tuple", data := .seq (((y :: r).mergeSort fun a b => a.1.cps.toList ≤ b.1.cps.toList).map (.ref ·.2)).toArray }) (fun b o e => Heap.get?_push_of_some _ e) (by rw [Heap.size_push]; omega)
    exact z
end
section
variable {X : Cx} {pins : List (Addr × Obj)} {σ : L2.St} {H : Hp} {s : Shared}
theorem frz_ne {H : Hp} {b f : Addr} {o : HO} (e : H b = some o) (n : H f = none) : b ≠ f := ne_of_none e n
/-- the function object, made and known -/
theorem lam_make {dv : Value} {T : List (Addr × Str)} {c P : Addr} {params : Arguments} {body : Expr} {scope : Scope} {pos : Pos} {E : Value → Shared → Prop} {Q : Value → Shared → Prop} (I : Inv X pins σ H s) (TB : TabB X.base X.mg c P) (hcode : X.env.code = .ref c)
    (hm : (P, X.env.qual ++ "<lambda>") ∈ T) (hu : ∀ p ∈ T, p.1 = P → p.2 = X.env.qual ++ "<lambda>") (hT : Tabs T H) (hfree : ∀ y ∈ scope.names, y.2 = .free → ∃ c, X.env.cells.lookup y.1 = some c)
    (h : ∀ (f c' : Addr) (pm ct : Value) (H1 : Hp) (s' : Shared), Inv X pins σ H1 s' → ExtN H H1 → Tabs T H1 → LamAt H1 f (lamObj (X.env.qual ++ "<lambda>") params body scope (cloFrom X.env.cells scope.names []) dv pm c' ct) → H f = none →
      H1 c' = some (CodeO c' (X.env.qual ++ "<lambda>")) → Q (.ref f) s') :
    wpAny (model X.prog X.w) X.A (makeTail "<lambda>" (X.env.qual ++ "<lambda>") params (.expr body) scope X.env dv .none none pos pos.line) Q E s := by
  obtain ⟨ps, hP, ht, ha⟩ := hT _ hm
  have bP : s.heap.BuiltinsAt X.mg P := TB.bm.keeps I.bk
  have hP' : s.heap.get? P = some { cls := .none, data := .fields ps } := I.hok P _ hP
  refine lam_tail (mg := X.mg) (c := c) (P := P) (ps := ps) (closure_ok hfree) I.ok.glob (I.mod.glob.keeps I.bk) hcode (TB.code.keeps I.bk) hP' ht TB.gP bP (fun hc c' ct h' tk hx hge hlt hrec htb => ?_) (fun c' hc ct h' tk hx hsz => ?_) fun cv hc => ?_
  · obtain ⟨c2, oc, vs, t, e2, hoc, hd, hv⟩ := hrec
    cases e2
    have hsz : s.heap.objs.size ≤ h'.objs.size := Nat.le_trans hge (Nat.le_of_lt hlt)
    have nC : H c' = none := I.hok.fresh hge
    have nF : H h'.objs.size = none := I.hok.fresh hsz
    have n1 : h'.objs.size ≠ c' := Nat.ne_of_gt hlt
    have n2 : h'.objs.size ≠ P := Nat.ne_of_gt (Nat.lt_of_lt_of_le (Heap.lt_size hP') hsz)
    have I1 := LamX.inv_table (t' := tk) (more := #[rawInt pos.line, rawInt pos.col, .ref c']) (h' := h') I hP (fun b o hb e => hx b o hb e) htb hge ⟨oc, vs, t, hoc, hd, hv⟩
    have I2 := I1.laid (a := h'.objs.size) (o := .frz (lamObj (X.env.qual ++ "<lambda>") params body scope (cloFrom X.env.cells scope.names []) dv ((X.mg "__name__").getD .none) c' ct) (.own 0)) (t' := tk)
      (h' := h'.push (lamObj (X.env.qual ++ "<lambda>") params body scope (cloFrom X.env.cells scope.names []) dv ((X.mg "__name__").getD .none) c' ct)) (fun b u e => Heap.get?_push_of_some _ e) (Nat.le_refl _) ⟨Heap.get?_push_size _ rfl, _, Heap.get?_push_size _ rfl⟩
    have eL : (ps ++ #[rawInt pos.line, rawInt pos.col, .ref c']).toList = ps.toList ++ [rawInt pos.line, rawInt pos.col, .ref c'] := by simp
    have hE : ExtN H (L2.upd (L2.upd (L2.upd H P (.tbl (ps ++ #[rawInt pos.line, rawInt pos.col, .ref c']))) c' (CodeO c' (X.env.qual ++ "<lambda>"))) h'.objs.size (.frz (lamObj (X.env.qual ++ "<lambda>") params body scope (cloFrom X.env.cells scope.names []) dv ((X.mg "__name__").getD .none) c' ct) (.own 0))) := fun b o e n => by
      rw [upd_ne (ne_of_none e nF), upd_ne (ne_of_none e nC), upd_ne (fun z => n ps (Option.some.inj (e.symm.trans (by rw [z]; exact hP))))]
      exact e
    refine h h'.objs.size c' ((X.mg "__name__").getD .none) ct _ _ I2 hE (fun p hp => ?_) upd_same nF (by rw [upd_ne (Ne.symm n1), upd_same])
    by_cases hb : p.1 = P
    · rw [hu p hp hb, hb]
      refine ⟨_, by rw [upd_ne (Ne.symm n2), upd_ne (ne_of_none hP nC), upd_same], by rw [eL]; exact PySem.TriplesOk_snoc _ _ _ _ ht, fun p' cv hcv => ?_⟩
      rw [eL] at hcv
      rcases LamX.among_app _ ht hcv with z | z
      · obtain ⟨c0, e1, e2⟩ := ha p' cv z
        exact ⟨c0, e1, hE _ _ e2 LamX.codeO_ne⟩
      · exact ⟨c', z, by rw [upd_ne (Ne.symm n1), upd_same]⟩
    · obtain ⟨ps', a1, a2, a3⟩ := hT p hp
      refine ⟨ps', by rw [upd_ne (ne_of_none a1 nF), upd_ne (ne_of_none a1 nC), upd_ne hb]; exact a1, a2, fun p' cv hcv => ?_⟩
      obtain ⟨c0, e1, e2⟩ := a3 p' cv hcv
      exact ⟨c0, e1, hE _ _ e2 LamX.codeO_ne⟩
  · obtain ⟨c0, e, hco⟩ := ha pos _ hc
    cases e
    have nF : H h'.objs.size = none := I.hok.fresh hsz
    have I2 := I.laid (a := h'.objs.size) (o := .frz (lamObj (X.env.qual ++ "<lambda>") params body scope (cloFrom X.env.cells scope.names []) dv ((X.mg "__name__").getD .none) c' ct) (.own 0)) (t' := tk)
      (h' := h'.push (lamObj (X.env.qual ++ "<lambda>") params body scope (cloFrom X.env.cells scope.names []) dv ((X.mg "__name__").getD .none) c' ct)) (fun b u e => Heap.get?_push_of_some _ (hx b u e)) hsz ⟨Heap.get?_push_size _ rfl, _, Heap.get?_push_size _ rfl⟩
    have hE : ∀ b o, H b = some o → (L2.upd H h'.objs.size (.frz (lamObj (X.env.qual ++ "<lambda>") params body scope (cloFrom X.env.cells scope.names []) dv ((X.mg "__name__").getD .none) c' ct) (.own 0))) b = some o := fun b o e => by
      rw [upd_ne (ne_of_none e nF)]
      exact e
    exact h h'.objs.size c' ((X.mg "__name__").getD .none) ct _ _ I2 (ExtN.of hE) (hT.ext hE) upd_same nF (hE _ _ hco)
  · obtain ⟨c0, e, _⟩ := ha pos cv hc
    exact ⟨c0, e⟩
/-- its defaults: none, or a known tuple -/
def DvAt (H : Hp) (dv : Value) (ds : List V) : Prop := (ds = [] ∧ dv = .none) ∨ (ds ≠ [] ∧ ∃ Tt : Addr, dv = .ref Tt ∧ H Tt = some (.tup ds))
end
end PW
/-! ### known cells during a call; a known lambda called -/
namespace PW
open PySem PySem.Spec PyProof.Rows L2
open LamX (CodeO TabS Tabs ExtN TabB)
/-- the cells cs are known during the call; .. are not -/
def showC (cs : List (Addr × Obj)) (H : Hp) : Hp := fun b => match cs.lookup b with
  | some o => some (.frz o (.own 0))
  | none => H b
def hideC (cs : List (Addr × Obj)) (H : Hp) : Hp := fun b => match cs.lookup b with
  | some _ => none
  | none => H b
def NoC (cs : List (Addr × Obj)) (H : Hp) : Prop := ∀ b o, cs.lookup b = some o → H b = none
section
variable {cs : List (Addr × Obj)} {H H' H2 : Hp} {b : Addr} {o : Obj} {u : HO}
theorem showC_in (h : cs.lookup b = some o) : showC cs H b = some (.frz o (.own 0)) := by
  unfold showC
  rw [h]
theorem showC_out (h : cs.lookup b = none) : showC cs H b = H b := by
  unfold showC
  rw [h]
theorem hideC_in (h : cs.lookup b = some o) : hideC cs H b = none := by
  unfold hideC
  rw [h]
theorem hideC_out (h : cs.lookup b = none) : hideC cs H b = H b := by
  unfold hideC
  rw [h]
theorem NoC.out (n : NoC cs H) (h : H b = some u) : cs.lookup b = none := by
  cases e : cs.lookup b with
  | none => rfl
  | some o =>
    rw [n b o e] at h
    cases h
theorem NoC.show (n : NoC cs H) (h : H b = some u) : showC cs H b = some u := (showC_out (n.out h)).trans h
theorem NoC.ex (n : NoC cs H) : Ex H (showC cs H) := fun _ _ h => n.show h
theorem noC_hide : NoC cs (hideC cs H) := fun _ _ h => hideC_in h
theorem hideC_some (h : hideC cs H b = some u) : cs.lookup b = none ∧ H b = some u := by
  cases e : cs.lookup b with
  | none => exact ⟨rfl, (hideC_out e).symm.trans h⟩
  | some o =>
    rw [hideC_in e] at h
    cases h
theorem show_hide (h : ∀ b o, cs.lookup b = some o → H b = some (.frz o (.own 0))) : showC cs (hideC cs H) = H := by
  funext b
  cases e : cs.lookup b with
  | none => rw [showC_out e, hideC_out e]
  | some o => rw [showC_in e, h b o e]
theorem hide_show (n : NoC cs H) : hideC cs (showC cs H) = H := by
  funext b
  cases e : cs.lookup b with
  | none => rw [hideC_out e, showC_out e]
  | some o => rw [hideC_in e, n b o e]
theorem ex_show (x : Ex (showC cs H) H') : showC cs (hideC cs H') = H' := show_hide fun b o e => x b _ (showC_in e)
theorem ex_hideC (n : NoC cs H) (x : Ex (showC cs H) H') : Ex H (hideC cs H') := fun b u e => by
  rw [hideC_out (n.out e)]
  exact x b u (n.show e)
theorem ex_showC (x : Ex H H') : Ex (showC cs H) (showC cs H') := fun b u e => by
  cases q : cs.lookup b with
  | none =>
    rw [showC_out q] at e ⊢
    exact x b u e
  | some o =>
    rw [showC_in q] at e ⊢
    exact e
theorem showC_upd (h : showC cs H b = none) : upd (showC cs H) b u = showC cs (upd H b u) := by
  funext c
  by_cases hc : c = b
  · subst hc
    have q : cs.lookup c = none := by
      cases q : cs.lookup c with
      | none => rfl
      | some o =>
        rw [showC_in q] at h
        cases h
    rw [upd_same, showC_out q, upd_same]
  · rw [upd_ne hc]
    cases q : cs.lookup c with
    | none => rw [showC_out q, showC_out q, upd_ne hc]
    | some o => rw [showC_in q, showC_in q]
theorem showC_none (h : showC cs H b = none) : cs.lookup b = none ∧ H b = none := by
  cases q : cs.lookup b with
  | none => exact ⟨rfl, (showC_out q).symm.trans h⟩
  | some o =>
    rw [showC_in q] at h
    cases h
end
section
variable {P : Program} {w : World} {K : PySem.W.Frag} {mg : Str → Option Value} {base : Heap} {A : Around} {outer : List Env} {cs : List (Addr × Obj)} {H H' : Hp} {s s' : Shared} {h : Heap}
theorem hokC (x : HOk P w (showC cs H) h) (n : NoC cs H) : HOk P w H h := fun b u e => (x b u (n.show e)).stay (fun _ _ _ q => q) (fun c q => by
  cases z : cs.lookup c with
  | none => exact (showC_out z).symm.trans q
  | some o =>
    rw [showC_in z] at q
    cases q) fun c xs q => by
  cases z : cs.lookup c with
  | none => exact (showC_out z).symm.trans q
  | some o =>
    rw [showC_in z] at q
    cases q
theorem hokS (x : HOk P w H h) (n : NoC cs H) (k : ∀ b o, cs.lookup b = some o → h.get? b = some o) : HOk P w (showC cs H) h := fun b u e => by
  cases z : cs.lookup b with
  | none =>
    rw [showC_out z] at e
    exact (x b u e).stay (fun _ _ _ q => q) (fun c q => n.show q) fun c xs q => n.show q
  | some o =>
    rw [showC_in z] at e
    cases e
    exact ⟨k b o z, o, k b o z⟩
theorem env_show (e : Env0 P w K mg base A outer s H) (n : NoC cs H) (k : ∀ b o, cs.lookup b = some o → s.heap.get? b = some o) (hb : ∀ b o, cs.lookup b = some o → base.get? b = none) (hf : ∀ b ∈ frs outer, cs.lookup b = none) : Env0 P w K mg base A outer s (showC cs H) :=
  ⟨e.frames, e.mod, fun b o q => ⟨(e.bs b o q).1, by
    have z : cs.lookup b = none := by
      cases z : cs.lookup b with
      | none => rfl
      | some o' =>
        rw [hb b o' z] at q
        cases q
    rw [showC_out z]
    exact (e.bs b o q).2⟩, e.bsz, e.funs, fun b q => by
    rw [showC_out (hf b q)]
    exact e.frf b q, hokS e.hok n k, e.bare⟩
theorem env_hide (e : Env0 P w K mg base A outer s (showC cs H)) (n : NoC cs H) : Env0 P w K mg base A outer s H :=
  ⟨e.frames, e.mod, fun b o q => ⟨(e.bs b o q).1, (showC_none (e.bs b o q).2).2⟩, e.bsz, e.funs, fun b q => (showC_none (e.frf b q)).2, hokC e.hok n, e.bare⟩
/-- the call's end, as the caller sees it who knows no cells -/
theorem ce_hide {Q Q' : VK} {u : Value} (e : Env0 P w K mg base A outer s (showC cs H)) (n : NoC cs H) (h : CE outer P w (showC cs H) s Q u s') (hq : ∀ v H2, (∀ b o, cs.lookup b = some o → H2 b = some (.frz o (.own 0))) → Q v H2 → Q' v (hideC cs H2)) : CE outer P w H s Q' u s' := by
  obtain ⟨v, H2, os, bare, un, hok, rv, q⟩ := h
  have at2 : ∀ b o, cs.lookup b = some o → H2 b = some (.frz o (.own 0)) := fun b o z => un.frzs b o _ (showC_in z)
  have E2 : showC cs (hideC cs H2) = H2 := show_hide at2
  have hs : ∀ b o, cs.lookup b = some o → s.heap.get? b = some o := fun b o z => (e.hok b _ (showC_in z)).1
  have hs' : ∀ b o, cs.lookup b = some o → s'.heap.get? b = some o := fun b o z => (hok b _ (at2 b o z)).1
  have out : ∀ b, H b = none → cs.lookup b = none → showC cs H b = none := fun b q z => (showC_out z).trans q
  refine ⟨v, hideC cs H2, os, bare, ⟨fun b o e1 nb hb hx => ?_, fun b o e1 nb hb hx => ?_, fun b o e1 nb hx => ?_, un.there, fun b xs q => ?_, fun b o u q => ?_, fun b ps q => ?_⟩, hokC (by rw [E2]; exact hok) noC_hide, rv, hq v H2 at2 q⟩
  · cases z : cs.lookup b with
    | none => exact un.keep b o e1 (out b nb z) hb hx
    | some o2 =>
      have e2 := hs b o2 z
      rw [e1] at e2
      cases e2
      exact hs' b o z
  · exact un.slot b o e1 (out b nb (showC_none (e.frf b hb)).1) hb hx
  · cases z : cs.lookup b with
    | none =>
      rw [hideC_out z]
      exact un.free b o e1 (out b nb z) hx
    | some o2 => exact hideC_in z
  · rw [hideC_out (n.out q)]
    exact un.tups b xs (n.show q)
  · rw [hideC_out (n.out q)]
    exact un.frzs b o u (n.show q)
  · rw [hideC_out (n.out q)]
    exact un.tbls b ps (n.show q)
def ShK (cs : List (Addr × Obj)) (Q : VK) : VK := fun v H2 => ∃ H3, H2 = showC cs H3 ∧ NoC cs H3 ∧ Q v H3
def ShX (cs : List (Addr × Obj)) (E : XK) : XK := fun c d H2 => ∃ H3, H2 = showC cs H3 ∧ NoC cs H3 ∧ E c d H3
section
variable (e : Env0 P w K mg base A outer s (showC cs H)) (n : NoC cs H)
include e n
theorem cs_at {b : Addr} {o : Obj} (z : cs.lookup b = some o) : s.heap.get? b = some o := (e.hok b _ (showC_in z)).1
theorem cs_nf {b : Addr} {o : Obj} (z : cs.lookup b = some o) : b ∉ frs outer := fun hb => by
  rw [(showC_none (e.frf b hb)).1] at z
  cases z
/-- the lambda's end, as the caller sees it who knows the cells -/
theorem ce_show {Q : VK} {u : Value} (h : CE outer P w H s Q u s') : CE outer P w (showC cs H) s (ShK cs Q) u s' := by
  obtain ⟨v, H2, os, bare, un, hok, rv, q⟩ := h
  have n2 : NoC cs H2 := fun b o z => un.free b o (cs_at e n z) (n b o z) (by simp)
  have at2 : ∀ b o, cs.lookup b = some o → s'.heap.get? b = some o := fun b o z => un.keep b o (cs_at e n z) (n b o z) (cs_nf e n z) (by simp)
  have sh : ∀ b u, showC cs H b = some u → (∃ o, cs.lookup b = some o ∧ u = .frz o (.own 0)) ∨ (cs.lookup b = none ∧ H b = some u) := fun b u q => by
    cases z : cs.lookup b with
    | none => exact .inr ⟨rfl, (showC_out z).symm.trans q⟩
    | some o =>
      rw [showC_in z] at q
      exact .inl ⟨o, rfl, (Option.some.inj q).symm⟩
  refine ⟨v, showC cs H2, os, bare, ⟨fun b o e1 nb hb hx => un.keep b o e1 (showC_none nb).2 hb hx, fun b o e1 nb hb hx => un.slot b o e1 (showC_none nb).2 hb hx, fun b o e1 nb hx => ?_, un.there, fun b xs q => ?_, fun b o u q => ?_, fun b ps q => ?_⟩, hokS hok n2 at2, rv, H2, rfl, n2, q⟩
  · rw [showC_out (showC_none nb).1]
    exact un.free b o e1 (showC_none nb).2 hx
  · rcases sh b _ q with ⟨o, _, z⟩ | ⟨z, q⟩
    · cases z
    · rw [showC_out z]
      exact un.tups b xs q
  · rcases sh b _ q with ⟨o2, z, z2⟩ | ⟨z, q⟩
    · rw [showC_in z, z2]
    · rw [showC_out z]
      exact un.frzs b o u q
  · rcases sh b _ q with ⟨o, _, z⟩ | ⟨z, q⟩
    · cases z
    · rw [showC_out z]
      exact un.tbls b ps q
theorem cx_show {E : XK} {u : Value} (h : L2.CX P w outer H s E u s') : L2.CX P w outer (showC cs H) s (ShX cs E) u s' := by
  obtain ⟨a, B, H2, cls, d, rfl, fl, hok, ub, na, os, ag, hE⟩ := h
  have n2 : NoC cs H2 := fun b o z => ub.free b o (cs_at e n z) (n b o z)
  have at2 : ∀ b o, cs.lookup b = some o → B.get? b = some o := fun b o z => ub.keep b o (cs_at e n z) (n b o z) (cs_nf e n z)
  have sh : ∀ b u, showC cs H b = some u → (∃ o, cs.lookup b = some o ∧ u = .frz o (.own 0)) ∨ (cs.lookup b = none ∧ H b = some u) := fun b u q => by
    cases z : cs.lookup b with
    | none => exact .inr ⟨rfl, (showC_out z).symm.trans q⟩
    | some o =>
      rw [showC_in z] at q
      exact .inl ⟨o, rfl, (Option.some.inj q).symm⟩
  have ac : cs.lookup a = none := by
    cases z : cs.lookup a with
    | none => rfl
    | some o =>
      have z2 := at2 a o z
      rw [fl.2.1] at z2
      cases z2
  refine ⟨a, B, showC cs H2, cls, d, rfl, fl, hokS hok n2 at2, ⟨fun b o e1 nb hb => ub.keep b o e1 (showC_none nb).2 hb, ub.slot, fun b o e1 nb => ?_, ub.there, fun b xs q => ?_, fun b o u q => ?_, fun b ps q => ?_⟩, (showC_out ac).trans na, os, ag, H2, rfl, n2, hE⟩
  · rw [showC_out (showC_none nb).1]
    exact ub.free b o e1 (showC_none nb).2
  · rcases sh b _ q with ⟨o, _, z⟩ | ⟨z, q⟩
    · cases z
    · rw [showC_out z]
      exact ub.tups b xs q
  · rcases sh b _ q with ⟨o2, z, z2⟩ | ⟨z, q⟩
    · rw [showC_in z, z2]
    · rw [showC_out z]
      exact ub.frzs b o u q
  · rcases sh b _ q with ⟨o, _, z⟩ | ⟨z, q⟩
    · cases z
    · rw [showC_out z]
      exact ub.tbls b ps q
end
end
/-- no cell of its own; its parameters are no names of the def's -/
structure LamS1 (N : List Str) (sc scope : Scope) : Prop where
  kind : scope.kind = .function
  co : scope.isCoroutine = false
  gen : scope.isGenerator = false
  own : ∀ y ∈ scope.names, y.2 ≠ .cell ∧ (y.2 = .local → y.1 ∉ N)
  free : ∀ y ∈ scope.names, y.2 = .free → sc.names.lookup y.1 = some .cell ∨ sc.names.lookup y.1 = some .free
def lamSB1 (N : List Str) (sc scope : Scope) : Bool :=
  decide (scope.kind = .function) && !scope.isCoroutine && !scope.isGenerator && scope.names.all fun y => !decide (y.2 = .cell) && (!decide (y.2 = .local) || !N.contains y.1) && (!decide (y.2 = .free) || decide (sc.names.lookup y.1 = some .cell) || decide (sc.names.lookup y.1 = some .free))
theorem lamS1_by {N : List Str} {sc scope : Scope} (h : lamSB1 N sc scope = true) : LamS1 N sc scope := by
  unfold lamSB1 at h
  simp only [Bool.and_eq_true, Bool.or_eq_true, Bool.not_eq_true', decide_eq_true_eq, decide_eq_false_iff_not, List.all_eq_true, List.contains_iff_mem] at h
  obtain ⟨⟨⟨h1, h2⟩, h3⟩, h4⟩ := h
  refine ⟨h1, h2, h3, fun y hy => ⟨(h4 y hy).1.1, fun e => ?_⟩, fun y hy e => ?_⟩
  · rcases (h4 y hy).1.2 with z | z
    · exact absurd e z
    · intro hm
      rw [List.contains_iff_mem.mpr hm] at z
      cases z
  · rcases (h4 y hy).2 with (z | z) | z
    · exact absurd e z
    · exact .inl z
    · exact .inr z
/-- how a lambda's parameters are bound when it is called with nothing -/
def LamB (params : Arguments) (body : Expr) (scope : Scope) (ds : List V) : Prop := ∀ (P : Program) (w : World) (s : Shared) (H : Hp) (dv : Value) (q : Str) (cl : List (Str × Addr)) (pm cv ct : Value), HOk P w H s.heap → DvAt H dv ds →
  ∃ binds : List (Str × Value), BindsTo s (lamFn q params body scope cl dv pm cv ct) ⟨[], []⟩ binds ∧ ∀ y ∈ binds, scope.names.lookup y.1 = some .local
theorem lamB0 {params : Arguments} {body : Expr} {scope : Scope} (h : ∀ (q : Str) (cl : List (Str × Addr)) (pm cv ct : Value), bindArgs (lamFn q params body scope cl .none pm cv ct) ⟨[], []⟩ = pure []) : LamB params body scope [] := fun P w s H dv q cl pm cv ct _ hd => by
  rcases hd with ⟨_, rfl⟩ | ⟨ne, _⟩
  · exact ⟨[], .of_eq (h q cl pm cv ct), fun y hy => nomatch hy⟩
  · exact absurd rfl ne
theorem lamB1 {params : Arguments} {body : Expr} {scope : Scope} {x : Str} {d : V} (hx : scope.names.lookup x = some .local)
    (h : ∀ (T : Addr) (q : Str) (cl : List (Str × Addr)) (pm cv ct : Value), ∃ k, bindArgs (lamFn q params body scope cl (.ref T) pm cv ct) ⟨[], []⟩ = seqItems? (.ref T) >>= k ∧ ∀ u : Value, k (some #[u]) = pure [(x, u)]) : LamB params body scope [d] := fun P w s H dv q cl pm cv ct ok hd => by
  rcases hd with ⟨z, _⟩ | ⟨_, Tt, rfl, e⟩
  · cases z
  · obtain ⟨_, its, rv, o, ho, hc, n, hs⟩ := ok Tt _ e
    obtain ⟨k, k1, k2⟩ := h Tt q cl pm cv ct
    cases rv with
    | cons r rn =>
      rename_i u us
      cases rn
      refine ⟨[(x, u)], BindsTo.of_defaults (T := Tt) rfl ho hs k1 (k2 u), fun y hy => ?_⟩
      rcases List.mem_cons.mp hy with rfl | hy
      · exact hx
      · exact nomatch hy
section
variable {X : Cx} {pins : List (Addr × Obj)} {σ : L2.St} {H HZ : Hp} {s s1 : Shared} {cs : List (Addr × Obj)}
/-- the def's cells, as they are known -/
structure CellsOf (X : Cx) (σ : L2.St) (cs : List (Addr × Obj)) : Prop where
  cell : ∀ (x : Str) (c : Addr), X.env.cells.lookup x = some c → ∃ o v, cs.lookup c = some o ∧ o.data = .cell v
  val : ∀ (i : Nat) (x : Str) (v : V), X.N[i]? = some x → σ[i]? = some (some v) → (X.env.kindOf x = some .cell ∨ X.env.kindOf x = some .free) → ∃ u c o, RelV v u ∧ X.env.cells.lookup x = some c ∧ cs.lookup c = some o ∧ o.data = .cell (some u)
  inj : ∀ x y c, X.env.cells.lookup x = some c → X.env.cells.lookup y = some c → x = y
  has : ∀ x, (X.env.kindOf x = some .cell ∨ X.env.kindOf x = some .free) → ∃ c, X.env.cells.lookup x = some c
  len : σ.length = X.N.length
theorem lk_mem {α : Type} : ∀ {l : List (Addr × α)} {b : Addr} {o : α}, l.lookup b = some o → (b, o) ∈ l
  | [], _, _, h => by cases h
  | (c, u) :: l, b, o, h => by
    by_cases e : b = c
    · subst e
      rw [List.lookup_cons_self] at h
      cases h
      exact List.mem_cons_self
    · have e2 : (b == c) = false := by simpa using e
      rw [List.lookup_cons, e2] at h
      exact List.mem_cons_of_mem _ (lk_mem h)
def csOf (X : Cx) (h : Heap) : List (Addr × Obj) := (X.env.cells.map (·.1)).filterMap fun x => (X.env.cells.lookup x).bind fun c => (h.get? c).map fun o => (c, o)
theorem csOf_mem {h : Heap} {c : Addr} {o : Obj} (hm : (c, o) ∈ csOf X h) : h.get? c = some o ∧ ∃ x, X.env.cells.lookup x = some c := by
  obtain ⟨x, _, e⟩ := List.mem_filterMap.mp hm
  cases q : X.env.cells.lookup x with
  | none =>
    rw [q] at e
    cases e
  | some c' =>
    rw [q] at e
    cases q2 : h.get? c' with
    | none =>
      simp only [Option.bind_some, q2, Option.map_none] at e
      cases e
    | some o' =>
      simp only [Option.bind_some, q2, Option.map_some, Option.some.injEq, Prod.mk.injEq] at e
      obtain ⟨rfl, rfl⟩ := e
      exact ⟨q2, x, q⟩
theorem csOf_of {h : Heap} {x : Str} {c : Addr} {o : Obj} (hx : X.env.cells.lookup x = some c) (ho : h.get? c = some o) : (csOf X h).lookup c = some o := by
  have hm : (c, o) ∈ csOf X h := by
    refine List.mem_filterMap.mpr ⟨x, List.mem_map.mpr ⟨_, PySem.mem_of_lookup hx, rfl⟩, ?_⟩
    rw [hx]
    simp only [Option.bind_some, ho, Option.map_some]
  cases q : (csOf X h).lookup c with
  | some o' =>
    have z := (csOf_mem (lk_mem q)).1
    rw [ho] at z
    exact z.symm
  | none =>
    have z := List.lookup_eq_none_iff.mp q _ hm
    simp at z
theorem cells_of (I : Inv X pins σ H s) (hfn : ∀ x, X.fn x = true) : CellsOf X σ (csOf X s.heap) ∧ NoC (csOf X s.heap) H ∧ (∀ b o, (csOf X s.heap).lookup b = some o → s.heap.get? b = some o) ∧ (∀ b o, (csOf X s.heap).lookup b = some o → X.base.get? b = none) ∧ ∀ b ∈ frs X.stack, (csOf X s.heap).lookup b = none := by
  have fwd : ∀ {b o}, (csOf X s.heap).lookup b = some o → s.heap.get? b = some o ∧ ∃ x, X.env.cells.lookup x = some b := fun {b o} e => csOf_mem (lk_mem e)
  refine ⟨⟨fun x c e => ?_, fun i x v e1 e2 e3 => ?_, I.ok.inj, I.ok.has, I.len⟩, fun b o e => ?_, fun b o e => (fwd e).1, fun b o e => ?_, fun b hb => ?_⟩
  · obtain ⟨v, o, ho, hd⟩ := I.cell x c e
    exact ⟨o, v, csOf_of e ho, hd⟩
  · obtain ⟨m, hn, hl⟩ := I.loc
    obtain ⟨u, r, l⟩ := hl i x v e1 e2 (e3.elim (fun k => .inr (.inl k)) (fun k => .inr (.inr k)))
    rcases l with ⟨k, _⟩ | ⟨_, c, e, o, ho, hd⟩
    · rcases e3 with k2 | k2 <;> rw [k2] at k <;> cases k
    · exact ⟨u, c, o, r, e, csOf_of e ho, hd⟩
  · obtain ⟨_, x, e⟩ := fwd e
    exact I.freeC x b e
  · obtain ⟨_, x, e⟩ := fwd e
    have h1 := I.ok.cab x b (hfn x) e
    exact Heap.get?_none_of_le (Nat.le_trans I.ok.bsz h1)
  · cases q : (csOf X s.heap).lookup b with
    | none => rfl
    | some o =>
      obtain ⟨_, x, e⟩ := fwd q
      rcases List.mem_cons.mp (I.stkSub b hb) with z | hb
      · exact absurd z (I.cne x b e)
      · obtain ⟨_, o', ho, _⟩ := I.ok.funs.mem hb
        exact absurd (Nat.lt_of_lt_of_le (Heap.lt_size ho) (I.ok.cab x b (hfn x) e)) (Nat.lt_irrefl _)
theorem lam_start3 {A : Around} {outer : List Env} {E : XK} {scope : Scope} {f c' : Addr} {h₁ : Heap} {tk : Nat} {binds : List (Str × Value)} (C : CellsOf X σ cs) (L : LamS1 X.N X.env.scope scope) (e : Env0 X.prog X.w X.K X.mg X.base A outer s1 (showC cs HZ)) (n : NoC cs HZ) (hd : A.handled = none)
    (hns : h₁.Ns s1.heap.objs.size fun y => binds.reverse.lookup y) (kp : ∀ b o, s1.heap.get? b = some o → h₁.get? b = some o) :
    Inv (LamX.lamCx X A outer s1 HZ E scope f c') [] σ HZ { s1 with heap := h₁, toks := tk } := by
  have e0 := env_hide e n
  have hfree : ∀ y ∈ scope.names, y.2 = .free → ∃ c, X.env.cells.lookup y.1 = some c := fun y hy z => C.has _ (L.free y hy z)
  have cm : ∀ {y c}, (cloFrom X.env.cells scope.names []).lookup y = some c → X.env.cells.lookup y = some c := fun {y c} e => by
    rcases cloFrom_mem (PySem.mem_of_lookup e) with hm | ⟨h1, h2⟩
    · cases hm
    · obtain ⟨c1, hc⟩ := hfree _ h1 rfl
      have hc : X.env.cells.lookup y = some c1 := hc
      have e2 : c = c1 := by
        rw [h2, hc] <;> rfl
      rw [e2]
      exact hc
  have look : ∀ {y}, scope.names.lookup y = some .free → ∃ c, (cloFrom X.env.cells scope.names []).lookup y = some c := fun {y} hl => by
    have hy : (y, NameKind.free) ∈ scope.names := PySem.mem_of_lookup hl
    exact mem_lookup (cloFrom_has (cells := X.env.cells) (acc := []) hy)
  have cellAt : ∀ {c : Addr} {o : Obj}, cs.lookup c = some o → h₁.get? c = some o := fun {c o} z => kp _ _ (cs_at e n z)
  have noA : ∀ b : Addr, b ∉ (LamX.lamCx X A outer s1 HZ E scope f c').ex := fun b z => absurd (show b ∈ ([] : List Addr) from z) (by simp)
  refine ⟨⟨e0.mod, L.kind, rfl, rfl, Nat.le_refl _, fun y z c e1 e2 => C.inj y z c (cm e1) (cm e2), fun y hy => ?_, fun y c z _ => ?_, fun _ => hd, Around.frames_deeper e0.frames, .inr ⟨rfl, rfl⟩, fun b z => absurd z (noA b), e0.bs, e0.bsz, fun b _ _ => noA b,
      fun b z => absurd z (noA b), e0.funs, e0.frf⟩,
    rfl, e0.bare, Un.kept kp, ⟨_, hns, fun i y v e1 e2 e3 => ?_⟩, fun y c e => ?_, e0.hok.fresh (Nat.le_refl _), fun y c e => ?_, fun q hq => absurd (show q ∈ ([] : List (Addr × Obj)) ++ [] from hq) (by simp), e0.hok.kept kp, C.len⟩
  · have hy : scope.names.lookup y = some .cell ∨ scope.names.lookup y = some .free := hy
    rcases hy with hy | hy
    · exact absurd rfl (L.own _ (PySem.mem_of_lookup hy)).1
    · exact look hy
  · have z : false = true := z
    cases z
  · have e3 : Vis scope y := e3
    rcases e3 with k | k | k
    · exact absurd (List.mem_of_getElem? e1) ((L.own _ (PySem.mem_of_lookup k)).2 rfl)
    · exact absurd rfl (L.own _ (PySem.mem_of_lookup k)).1
    · obtain ⟨u, c, o, r, ec, eo, ed⟩ := C.val i y v e1 e2 (L.free _ (PySem.mem_of_lookup k) rfl)
      obtain ⟨c2, h2⟩ := look k
      have c1 := cm h2
      rw [ec] at c1
      cases c1
      exact ⟨u, r, .inr ⟨.inr k, c, h2, o, cellAt eo, ed⟩⟩
  · obtain ⟨o, v, eo, ed⟩ := C.cell y c (cm e)
    exact ⟨v, o, cellAt eo, ed⟩
  · obtain ⟨o, v, eo, _⟩ := C.cell y c (cm e)
    exact n c o eo
/-- a known function object that is a lambda of X, with its reading t -/
def IsLam (X : Cx) (k : Nat) (H : Hp) (f : Addr) (t : XK → L2.TE) : Prop :=
  ∃ (params : Arguments) (body : Expr) (scope : Scope) (dv pm ct : Value) (c' : Addr) (q : Str) (ds : List V), LamAt H f (lamObj (X.env.qual ++ "<lambda>") params body scope (cloFrom X.env.cells scope.names []) dv pm c' ct) ∧ H c' = some (CodeO c' (X.env.qual ++ "<lambda>")) ∧ DvAt H dv ds ∧
    LamS1 X.N X.env.scope scope ∧ LamB params body scope ds ∧ ∀ (A : Around) (outer : List Env) (s : Shared) (H : Hp) (E : XK) (f c' : Addr), Room k (A.deeper (LamX.lamEnv X scope s.heap.objs.size f c')) → PE (LamX.lamCx X A outer s H E scope f c') body (t E)
theorem DvAt.ex {H H' : Hp} {dv : Value} {ds : List V} (x : Ex H H') (h : DvAt H dv ds) : DvAt H' dv ds := by
  rcases h with ⟨a, b⟩ | ⟨a, T, b, c⟩
  · exact .inl ⟨a, b⟩
  · exact .inr ⟨a, T, b, x _ _ c⟩
theorem IsLam.ex {k : Nat} {H H' : Hp} {f : Addr} {t : XK → L2.TE} (x : Ex H H') (h : IsLam X k H f t) : IsLam X k H' f t := by
  obtain ⟨params, body, scope, dv, pm, ct, c', q, ds, h1, h2, h3, h4, h5, h6⟩ := h
  exact ⟨params, body, scope, dv, pm, ct, c', q, ds, x _ _ h1, x _ _ h2, h3.ex x, h4, h5, h6⟩
theorem IsLam.extN {k : Nat} {H H' : Hp} {f : Addr} {t : XK → L2.TE} (x : ExtN H H') (h : IsLam X k H f t) : IsLam X k H' f t := by
  obtain ⟨params, body, scope, dv, pm, ct, c', q, ds, h1, h2, h3, h4, h5, h6⟩ := h
  refine ⟨params, body, scope, dv, pm, ct, c', q, ds, x _ _ h1 (fun _ z => by cases z), x _ _ h2 LamX.codeO_ne, ?_, h4, h5, h6⟩
  rcases h3 with ⟨a, b⟩ | ⟨a, T, b, c⟩
  · exact .inl ⟨a, b⟩
  · exact .inr ⟨a, T, b, x _ _ c (fun _ z => by cases z)⟩
/-- what a call of f does, wherever the heap has grown to -/
def CallD (P : Program) (w : World) (K : PySem.W.Frag) (mg : Str → Option Value) (base : Heap) (k : Nat) (cs : List (Addr × Obj)) (H0 : Hp) (f : Addr) (tl : XK → Hp → VK → Prop) : Prop :=
  (∃ o fd, LamAt H0 f o ∧ o.data = .func fd) ∧ ∀ (A : Around) (outer : List Env) (s : Shared) (H : Hp) (Q : VK) (E : XK), Ex H0 H → NoC cs H → Room (k + 1) A → Env0 P w K mg base A outer s (showC cs H) → tl E H Q →
    codeAny (model P w) A (.call (.ref f) ⟨[], []⟩) (CR (L2.CX P w) outer P w (showC cs H) s (ShK cs Q) (ShX cs E)) s
theorem CallD.ex {P : Program} {w : World} {K : PySem.W.Frag} {mg : Str → Option Value} {base : Heap} {k : Nat} {H0 H1 : Hp} {f : Addr} {tl : XK → Hp → VK → Prop} (x : Ex H0 H1) (h : CallD P w K mg base k cs H0 f tl) : CallD P w K mg base k cs H1 f tl := by
  obtain ⟨⟨o, fd, h1, h2⟩, h3⟩ := h
  exact ⟨⟨o, fd, x _ _ h1, h2⟩, fun A outer s H Q E x2 => h3 A outer s H Q E (x.trans x2)⟩
theorem IsLam.call {k : Nat} {f : Addr} {t : XK → L2.TE} (C : CellsOf X σ cs) (h : IsLam X k H f t) : CallD X.prog X.w X.K X.mg X.base k cs H f fun E H' Q' => t E σ H' Q' := by
  obtain ⟨params, body, scope, dv, pm, ct, c', q, ds, h1, h2, h3, L, hB, hbody⟩ := h
  refine ⟨⟨_, _, h1, rfl⟩, fun A outer s H2 Q E x n hr e ht => ?_⟩
  have e0 := env_hide e n
  have of1 : s.heap.get? f = some (lamObj (X.env.qual ++ "<lambda>") params body scope (cloFrom X.env.cells scope.names []) dv pm c' ct) := (e0.hok f _ (x _ _ h1)).1
  obtain ⟨⟨oc, vs, t2, hoc, hdc, hvc⟩, _, _⟩ := e0.hok c' _ (x _ _ h2)
  have lim : s.heap.NoLimit := e0.mod.nolimit.keeps fun b o e => (e0.bs b o e).1
  obtain ⟨binds, hb, hbl⟩ := hB X.prog X.w s H2 dv (X.env.qual ++ "<lambda>") (cloFrom X.env.cells scope.names []) pm (.ref c') ct e0.hok (h3.ex x)
  have rc : codeAny (model X.prog X.w) A (.call (.ref f) ⟨[], []⟩) (CR (L2.CX X.prog X.w) outer X.prog X.w H2 s Q E) s := by
    refine PySem.W.kla_callFunE hr.depth of1 rfl L.co L.gen rfl ⟨c', oc, vs, t2, rfl, hoc, hdc, hvc⟩ (hb _ _ _ _ ?_)
    refine wpAny_newFunctionEnv (fun y hy => (L.own y hy).1) hbl (fun h₁ hns hsb => ⟨lim.fresh _ hsb, ?_⟩) L.kind
    show codeAny _ _ (.expr body (LamX.lamEnv X scope s.heap.objs.size f c')) _ _
    have kp : ∀ b o, s.heap.get? b = some o → h₁.get? b = some o := fun b o e => hsb.extBut b o (Nat.ne_of_lt (Heap.lt_size e)) (Heap.get?_push_of_some _ e)
    have J : Inv (LamX.lamCx X A outer s H2 E scope f c') [] σ H2 { s with heap := h₁, toks := s.toks + binds.length } := lam_start3 C L e n hr.hd hns kp
    refine PySem.W.kla_codeExpr (wpAny_mono ((hbody A outer s H2 E f c' (hr.deeper _)).run [] _ _ H2 Q J ht) (fun v s' hq => ?_) fun e s' hq => hq)
    obtain ⟨w', H', J', rv, q⟩ := hq
    exact ⟨w', H', J'.os, J'.bare, J'.base, J'.hok, rv, q⟩
  refine codeAny_mono rc fun r s' hq => ?_
  cases r with
  | error u => exact cx_show e n hq
  | ok fl =>
    cases fl with
    | ret u => exact ce_show e n hq
    | next => exact False.elim hq
    | brk => exact False.elim hq
    | cont => exact False.elim hq
end
end PW
/-! ### lambdas made as values (no default; an int as the one default); a local that holds one, called -/
namespace PW
open PySem PySem.Spec PyProof.Rows L2
open LamX (CodeO TabS Tabs ExtN TabB)
def tLamV (X : Cx) (T : List (Addr × Str)) (k : Nat) (t : XK → L2.TE) : L2.TE := fun _ H Q => Tabs T H ∧ ∀ f H1, ExtN H H1 → Tabs T H1 → H f = none → IsLam X k H1 f t → Q (.ref f) H1
section
variable {X : Cx} {c Pt : Addr} {k : Nat} {params : Arguments} {body : Expr} {scope : Scope} {t : XK → L2.TE} {pos : Pos}
theorem pe_lam0 (TB : TabB X.base X.mg c Pt) (hcode : X.env.code = .ref c) (hdef : defaultsOf params X.env = ([], [])) (L : LamS1 X.N X.env.scope scope) (hB : LamB params body scope [])
    (hbody : ∀ (A : Around) (outer : List Env) (s : Shared) (H : Hp) (E : XK) (f c' : Addr), Room k (A.deeper (LamX.lamEnv X scope s.heap.objs.size f c')) → PE (LamX.lamCx X A outer s H E scope f c') body (t E)) :
    PE X (.Lambda params body scope pos) (tLamV X [(Pt, X.env.qual ++ "<lambda>")] k t) := by
  refine ⟨fun pins s σ H Q I h => ?_⟩
  obtain ⟨hT, h⟩ := h
  refine PySem.W.kla_eval hdef ?_
  rw [makeFunction_eq]
  simp only [List.zip_nil_right, List.filterMap_nil, List.isEmpty_nil, if_true, pure_bind]
  refine lam_make I TB hcode List.mem_cons_self (fun q hq _ => by
    rcases List.mem_cons.mp hq with rfl | hq
    · rfl
    · exact nomatch hq) hT (fun y hy z => I.ok.has _ (L.free y hy z)) fun f c' pm ct H1 s' I1 x T1 l nf hc => ?_
  exact ⟨.ref f, H1, I1, rfl, h f H1 x T1 nf ⟨params, body, scope, .none, pm, ct, c', X.env.qual ++ "<lambda>", [], l, hc, .inl ⟨rfl, rfl⟩, L, hB, hbody⟩⟩
theorem pe_lam1 {e : Expr} {n : Int} (TB : TabB X.base X.mg c Pt) (hcode : X.env.code = .ref c) (hd : params.defaults = [e]) (hk0 : params.kw_defaults = []) (he : PE X e (tC (.int n))) (L : LamS1 X.N X.env.scope scope) (hB : LamB params body scope [.int n])
    (hbody : ∀ (A : Around) (outer : List Env) (s : Shared) (H : Hp) (E : XK) (f c' : Addr), Room k (A.deeper (LamX.lamEnv X scope s.heap.objs.size f c')) → PE (LamX.lamCx X A outer s H E scope f c') body (t E)) :
    PE X (.Lambda params body scope pos) (tLamV X [(Pt, X.env.qual ++ "<lambda>")] k t) := by
  refine ⟨fun pins s σ H Q I h => ?_⟩
  obtain ⟨hT, h⟩ := h
  refine PySem.W.kdv_lam (by rw [hd]; rfl) hk0 ?_
  rw [hd]
  refine PySem.W.kdv_all1 (thn (he.run pins s σ H (fun v H1 => v = .int n ∧ H1 = H) I ⟨rfl, rfl⟩) fun u s1 ⟨v, H0, I1, r1, q1⟩ => ?_)
  obtain ⟨rfl, rfl⟩ := q1
  refine PySem.W.kdv_all0 ?_
  rw [makeFunction_eq]
  simp only [List.zip_nil_right, List.filterMap_nil, List.isEmpty_nil, List.isEmpty_cons, if_true, pure_bind, Bool.false_eq_true, if_false]
  refine wpAny_bind (wpAny_newTextTuple ?_)
  have I2 := I1.laid (a := s1.heap.objs.size) (o := .tup [.int n]) (t' := s1.toks) (h' := s1.heap.push (PySem.W.kdv_tup [u])) (fun b o e => Heap.get?_push_of_some _ e) (Nat.le_refl _) ⟨by show 1 ≤ sizeLine; decide, [u], .cons r1 .nil, _, Heap.get?_push_size _ rfl, rfl, _, rfl⟩
  have nT : H0 s1.heap.objs.size = none := I1.hok.fresh (Nat.le_refl _)
  have x0 : ∀ b o, H0 b = some o → upd H0 s1.heap.objs.size (.tup [.int n]) b = some o := fun b o e => (upd_ne (ne_of_none e nT)).trans e
  refine lam_make I2 TB hcode List.mem_cons_self (fun q hq _ => by
    rcases List.mem_cons.mp hq with rfl | hq
    · rfl
    · exact nomatch hq) (hT.ext x0) (fun y hy z => I.ok.has _ (L.free y hy z)) fun f c' pm ct H1 s' I3 x T1 l nf hc => ?_
  have nf0 : H0 f = none := by
    cases z : H0 f with
    | none => rfl
    | some o =>
      rw [x0 f o z] at nf
      cases nf
  exact ⟨.ref f, H1, I3, rfl, h f H1 ((ExtN.of x0).trans x) T1 nf0 ⟨params, body, scope, .ref s1.heap.objs.size, pm, ct, c', X.env.qual ++ "<lambda>", [.int n], l, hc, .inr ⟨by simp, _, rfl, x _ _ upd_same (fun _ z => by cases z)⟩, L, hB, hbody⟩⟩
end
section
variable {Z : Cx} {k i : Nat} {a : Str} {p1 p2 : Pos} {W : WX}
theorem pe_dyn (tk : Takes Z W) (hr : Room (k + 1) Z.A) (hN : Z.N[i]? = some a) (hv : Vis Z.env.scope a) (hd : (a == ("__debug__" : Str)) = false := by decide) (hcd : (a == ("__classdict__" : Str)) = false := by decide) :
    PE Z (.Call (.Name a p1) [] [] p2) (fun σ H Q => ∃ (f : Addr) (cs : List (Addr × Obj)) (H0 : Hp) (tl : XK → Hp → VK → Prop) (E : XK) (Q0 : VK), σ[i]? = some (some (.ref f)) ∧ H = showC cs H0 ∧ NoC cs H0 ∧ CallD Z.prog Z.w Z.K Z.mg Z.base k cs H0 f tl ∧
      (∀ cls d H', ShX cs E cls d H' → W cls d σ H') ∧ tl E H0 Q0 ∧ ∀ v H3, NoC cs H3 → Q0 v H3 → Q v (showC cs H3)) := by
  refine ⟨fun pins s σ H Q I h => ?_⟩
  obtain ⟨f, cs, H0, tl, E, Q0, hs, rfl, n, ⟨⟨o, fd, hl, ho⟩, hrun⟩, hW, ht, hq0⟩ := h
  refine wpAny_Call_Name_kw (thn ((pe_var (pos := p1) (i := i) hN hv hd hcd).run pins s σ _ (fun v H1 => v = .ref f ∧ H1 = showC cs H0) I ⟨.ref f, hs, rfl, rfl⟩) fun u s1 ⟨v, H1, I1, r1, q1⟩ => ?_)
  obtain ⟨rfl, rfl⟩ := q1
  obtain rfl : u = Value.ref f := r1
  have of1 : s1.heap.get? f = some o := (I1.hok f _ (n.show hl)).1
  obtain ⟨oc, od, dt, sl⟩ := o
  have ho : dt = .func fd := ho
  subst ho
  refine PySem.W.callWith_F0 ⟨_, _, _, _, of1⟩ ?_
  refine wpAny_call (codeAny_mono (hrun Z.A Z.stack s1 H0 Q0 E (Ex.refl _) n hr I1.env0 ht) fun r s' hq => ?_)
  cases r with
  | error e => exact tk e s' (XE.of_call I1 hW hq)
  | ok fl =>
    cases fl with
    | ret u =>
      obtain ⟨v, H2, I2, r2, H3, rfl, n3, q⟩ := I1.after hq
      exact ⟨v, _, I2, r2, hq0 v H3 n3 q⟩
    | next => exact False.elim hq
    | brk => exact False.elim hq
    | cont => exact False.elim hq
end
end PW
/-! ### %, // of an own class, the right side of another kind -/
namespace PW
open PySem PySem.Spec PyProof.Rows L2
def rOwnBX (C : Addr) (sp : Sp) (E : XK) : R2 := fun x y H Q => ∃ a dx fs, x = .ref a ∧ H a = some (.ins C dx fs) ∧ (((∃ i, y = .int i) ∨ ∃ b dy gs, y = .ref b ∧ H b = some (.ins C dy gs)) ∨ y = .non ∨ (∃ z, y = .str z) ∨ ∃ c, y = .bl c) ∧ sp [x, y] H Q E
theorem look_x {op : Operator} (h : op = .Mod ∨ op = .FloorDiv) {T : String} (hT : T = "NoneType" ∨ T = "str" ∨ T = "bool") {K : PySem.W.Frag} : (∃ fo, PySem.W.findIn K (.type T) (PySem.dunder op.info.2) = some fo) ∧ ∃ ro, PySem.W.findIn K (.type T) (dunderR op.info.2) = some ro := by
  have go : ∀ {T : String} {x : Str}, (fastLookup T x).isSome = true → ∃ fo, PySem.W.findIn K (.type T) x = some fo := fun {T x} e => Option.isSome_iff_exists.mp e
  rcases h with rfl | rfl <;> rcases hT with rfl | rfl | rfl <;> exact ⟨go (by decide +kernel), go (by decide +kernel)⟩
theorem sub_x {K : PySem.W.Frag} {C : Addr} {T : String} (hT : T = "NoneType" ∨ T = "str" ∨ T = "bool") : PySem.W.subIn K (.type T) (.ref C) = some false := by
  rcases hT with rfl | rfl | rfl
  · show (fastBuiltinMro "NoneType").map (·.contains (Value.ref C)) = some false
    have e : fastBuiltinMro "NoneType" = some [.type "NoneType", .type "object"] := by decide +kernel
    rw [e]
    rfl
  · show (fastBuiltinMro "str").map (·.contains (Value.ref C)) = some false
    have e : fastBuiltinMro "str" = some [.type "str", .type "object"] := by decide +kernel
    rw [e]
    rfl
  · show (fastBuiltinMro "bool").map (·.contains (Value.ref C)) = some false
    have e : fastBuiltinMro "bool" = some [.type "bool", .type "int", .type "object"] := by decide +kernel
    rw [e]
    rfl
section
variable {X : Cx} {CX : CXT} {k : Nat} {C g : Addr} {fd : FuncData} {ps : List Str} {sp : Sp} {E : XK}
theorem op_ownBX {op : Operator} (h : op = .Mod ∨ op = .FloorDiv) (O : OwnB X.K C op g) (F : FnOk X.prog X.w X.K X.mg X.base CX k g fd ps sp) (hr : Room k X.A) (hb : Binds X.K fd ps []) (hx : Passes CX X E) : OpR X (binaryOp op) (rOwnBX C sp E) := by
  intro pins s σ H x y v u Q I rx ry hh
  obtain ⟨a, dx, fs, rfl, ha, hy, q⟩ := hh
  rcases hy with hy | hy
  · exact op_ownB O F hr hb hx pins s σ H _ y v u Q I rx ry ⟨a, dx, fs, rfl, ha, hy, q⟩
  cases (show v = Value.ref a from rx)
  obtain ⟨od, J⟩ := inst_of I ha
  obtain ⟨m, hF⟩ := I.fr
  obtain ⟨rc, e1, e2⟩ := O.r
  have fin : ∀ w s', EP X pins σ Q w s' → PySem.W.CmpBack (EP X pins σ Q) w s' := fun w s' z => by
    have z' := z
    obtain ⟨z1, H', I', rz, qz⟩ := z'
    exact SlX.cmpback rz z
  have go : ∀ {T : String} {y : V} {u : Value}, RelV y u → typeOf u = pure (.type T) → (T = "NoneType" ∨ T = "str" ∨ T = "bool") → sp [.ref a, y] H Q E → wpAny (model X.prog X.w) X.A (binaryOp op (.ref a) u) (EP X pins σ Q) X.xe s := fun {T y u} ry ht hT q => by
    obtain ⟨⟨fo, e3⟩, ro, e4⟩ := look_x (K := X.K) h hT
    refine PySem.W.ksp_binT (T := T) hF I.ok.mod.kin J ht O.sf O.at_ O.fn e1 e2 e3 e4 (sub_x hT) ?_
    exact wpAny_mono (run_fn (us := [.ref a, u]) (vs := [.ref a, y]) (dvs := []) (ds := []) F hr hb .nil hx I (.cons rfl (.cons ry .nil)) q) fin fun _ _ e => e
  rcases hy with rfl | ⟨z, rfl⟩ | ⟨c, rfl⟩
  · have e : u = Value.none := ry
    exact go ry (by rw [e]; rfl) (.inl rfl) q
  · obtain ⟨t, e⟩ := (show ∃ t, u = Value.str z t from ry)
    exact go ry (by rw [e]; rfl) (.inr (.inl rfl)) q
  · have e : u = Value.bool c := ry
    exact go ry (by rw [e]; rfl) (.inr (.inr rfl)) q
end
end PW
/-! ### bits -/
namespace PW
open PySem PySem.Spec PyProof.Rows L2
abbrev bt (i : Int) : Nat := Builtin.Int.intBits i
theorem bt_le {k : Nat} {i : Int} : bt i ≤ k ↔ i.natAbs < 2 ^ k := by
  unfold bt Builtin.Int.intBits
  by_cases h0 : i = 0
  · subst h0
    have hp : 0 < 2 ^ k := Nat.two_pow_pos k
    simp [hp]
  · have hb : (i == 0) = false := by simpa using h0
    have hne : i.natAbs ≠ 0 := by omega
    rw [hb]
    simp only [Bool.false_eq_true, if_false]
    rw [← Nat.log2_lt hne]
    exact Nat.succ_le_iff
theorem bt_self (i : Int) : i.natAbs < 2 ^ bt i := bt_le.mp (Nat.le_refl _)
theorem bt_zero : bt 0 = 0 := rfl
theorem bt_neg (i : Int) : bt (-i) = bt i := by
  have h1 : bt (-i) ≤ bt i := bt_le.mpr (by rw [Int.natAbs_neg]; exact bt_self i)
  have h2 : bt i ≤ bt (-i) := bt_le.mpr (by have := bt_self (-i); rwa [Int.natAbs_neg] at this)
  omega
theorem bt_pos {i : Int} (h : i ≠ 0) : 1 ≤ bt i := by
  rcases Nat.eq_zero_or_pos (bt i) with e | e
  · have := bt_self i
    rw [e] at this
    omega
  · exact e
theorem bt_low {i : Int} (h : i ≠ 0) : 2 ^ (bt i - 1) ≤ i.natAbs := by
  rcases Nat.lt_or_ge i.natAbs (2 ^ (bt i - 1)) with q | q
  · have h1 := bt_le.mpr q
    have h2 := bt_pos h
    omega
  · exact q
theorem bt_add (i j : Int) : bt (i + j) ≤ max (bt i) (bt j) + 1 := by
  refine bt_le.mpr ?_
  have h1 := bt_self i
  have h2 := bt_self j
  have h3 : 2 ^ bt i ≤ 2 ^ max (bt i) (bt j) := Nat.pow_le_pow_right (by decide) (Nat.le_max_left ..)
  have h4 : 2 ^ bt j ≤ 2 ^ max (bt i) (bt j) := Nat.pow_le_pow_right (by decide) (Nat.le_max_right ..)
  rw [Nat.pow_succ]
  omega
theorem bt_mul (i j : Int) : bt (i * j) ≤ bt i + bt j := by
  refine bt_le.mpr ?_
  rw [Int.natAbs_mul, Nat.pow_add]
  exact Nat.mul_lt_mul'' (bt_self i) (bt_self j)
/-- times a factor that is not above 2 ^ k -/
theorem bt_mulK (i : Int) {j : Int} {k : Nat} (h : j.natAbs ≤ 2 ^ k) : bt (i * j) ≤ bt i + k := by
  refine bt_le.mpr ?_
  rw [Int.natAbs_mul, Nat.pow_add]
  rcases Nat.eq_zero_or_pos j.natAbs with e | e
  · rw [e, Nat.mul_zero]
    exact Nat.mul_pos (Nat.pow_pos (by decide)) (Nat.pow_pos (by decide))
  · exact Nat.lt_of_lt_of_le ((Nat.mul_lt_mul_right e).mpr (bt_self i)) (Nat.mul_le_mul_left _ h)
theorem bt_mono {i j : Int} (h : i.natAbs ≤ j.natAbs) : bt i ≤ bt j := bt_le.mpr (Nat.lt_of_le_of_lt h (bt_self j))
theorem bt_div (i j : Int) : bt (i / j) ≤ bt i + 1 := by
  refine bt_le.mpr ?_
  have h1 := bt_self i
  have h2 : (i / j).natAbs ≤ i.natAbs + 1 := by
    have := Int.natAbs_ediv_le_natAbs i j
    omega
  rw [Nat.pow_succ]
  omega
theorem natAbs_dvd_div {i j : Int} (h : j ∣ i) : (i / j).natAbs = i.natAbs / j.natAbs := Int.natAbs_ediv_of_dvd h
theorem bt_divD {i j : Int} (h : j ∣ i) : bt (i / j) ≤ bt i := bt_mono (by rw [natAbs_dvd_div h]; exact Nat.div_le_self _ _)
theorem bt_pow (k : Nat) : bt (2 ^ k) = k + 1 := by
  have h1 : bt (2 ^ k) ≤ k + 1 := bt_le.mpr (by rw [Int.natAbs_pow]; exact Nat.pow_lt_pow_right (by decide) (Nat.lt_succ_self k))
  have h2 : ¬ bt (2 ^ k) ≤ k := fun h => by
    have := bt_le.mp h
    rw [Int.natAbs_pow] at this
    exact Nat.lt_irrefl _ this
  omega
theorem bt_mulPow (i : Int) (k : Nat) : bt (i * 2 ^ k) ≤ bt i + k := bt_mulK i (by rw [Int.natAbs_pow]; exact Nat.le_refl _)
/-! ### rows: multiples of powers of two, the greatest first -/
abbrev Rw : Type := List (Int × Nat)
def sumR : Rw → Int
  | [] => 0
  | (c, e) :: r => c * 2 ^ e + sumR r
def wtR : Rw → Nat
  | [] => 0
  | (c, _) :: r => bt c + 265 + wtR r
/-- what the next exponent must be above -/
def limR : Rw → Int → Nat
  | [], low => bt low + 256
  | (c, e) :: _, _ => e + bt c + 8
def Far : Rw → Int → Prop
  | [], _ => True
  | (c, e) :: r, low => c ≠ 0 ∧ limR r low < e ∧ Far r low
theorem two_nat (k : Nat) : ((2 : Int) ^ k).natAbs = 2 ^ k := by rw [Int.natAbs_pow]; rfl
theorem Far.small : ∀ {r : Rw} {low : Int}, Far r low → (sumR r + low).natAbs < 2 ^ (limR r low - 7)
  | [], low, _ => by
    show (0 + low).natAbs < 2 ^ (bt low + 256 - 7)
    rw [Int.zero_add]
    exact Nat.lt_of_lt_of_le (bt_self low) (Nat.pow_le_pow_right (by decide) (by omega))
  | (c, e) :: r, low, ⟨h1, h2, h3⟩ => by
    have ih := h3.small
    show (c * 2 ^ e + sumR r + low).natAbs < 2 ^ (e + bt c + 8 - 7)
    have e1 : e + bt c + 8 - 7 = bt c + e + 1 := by omega
    rw [e1, Int.add_assoc]
    have h4 : (c * 2 ^ e).natAbs < 2 ^ (bt c + e) := by
      rw [Int.natAbs_mul, two_nat, Nat.pow_add]
      exact (Nat.mul_lt_mul_right (Nat.pow_pos (by decide))).mpr (bt_self c)
    have h5 : 2 ^ (limR r low - 7) ≤ 2 ^ (bt c + e) := Nat.pow_le_pow_right (by decide) (by omega)
    rw [Nat.pow_succ]
    omega
theorem far_head {c : Int} {e : Nat} {r : Rw} {low : Int} (h : Far ((c, e) :: r) low) : (sumR r + low).natAbs < 2 ^ (e - 7) := by
  have h1 := h.2.2.small
  exact Nat.lt_of_lt_of_le h1 (Nat.pow_le_pow_right (by decide) (by have := h.2.1; omega))
theorem Far.lim7 : ∀ {r : Rw} {low : Int}, Far r low → 256 ≤ limR r low
  | [], low, _ => by show 256 ≤ bt low + 256; omega
  | (c, e) :: r, low, h => by
    have := h.2.2.lim7
    have h2 := h.2.1
    show 256 ≤ e + bt c + 8
    omega
/-- the first multiple tells the sign and the size -/
theorem far_sum {c : Int} {e : Nat} {r : Rw} {low : Int} (h : Far ((c, e) :: r) low) : ∃ x : Int, sumR ((c, e) :: r) + low = c * 2 ^ e + x ∧ x.natAbs * 128 < 2 ^ e ∧ 256 < e := by
  refine ⟨sumR r + low, Int.add_assoc .., ?_, ?_⟩
  · have h1 := far_head h
    have h2 := h.2.2.lim7
    have h3 := h.2.1
    have e1 : e = (e - 7) + 7 := by omega
    rw [e1, Nat.pow_add]
    have : (2 : Nat) ^ 7 = 128 := by decide
    rw [this]
    have e2 : e - 7 + 7 - 7 = e - 7 := by omega
    exact (Nat.mul_lt_mul_right (by decide)).mpr h1
  · have h2 := h.2.2.lim7
    have h3 := h.2.1
    omega
theorem far_pos {c : Int} {e : Nat} {r : Rw} {low : Int} (h : Far ((c, e) :: r) low) : (0 < c ↔ 0 < sumR ((c, e) :: r) + low) ∧ (c < 0 ↔ sumR ((c, e) :: r) + low < 0) := by
  obtain ⟨x, e1, e2, _⟩ := far_sum h
  have hc := h.1
  have hp : (0 : Int) < 2 ^ e := Int.pow_pos (by decide)
  have hx : (x.natAbs : Int) * 128 < 2 ^ e := by
    have := Int.ofNat_lt.mpr e2
    push_cast at this
    exact this
  rw [e1]
  rcases Int.lt_or_gt_of_ne hc with q | q
  · have : c * 2 ^ e ≤ -1 * 2 ^ e := Int.mul_le_mul_of_nonneg_right (by omega) (Int.le_of_lt hp)
    constructor <;> constructor <;> intro z <;> omega
  · have : 1 * 2 ^ e ≤ c * 2 ^ e := Int.mul_le_mul_of_nonneg_right (by omega) (Int.le_of_lt hp)
    constructor <;> constructor <;> intro z <;> omega
end PW
/-! ### rows gathered and settled, in plain numbers -/
namespace PW
open PySem PySem.Spec PyProof.Rows L2
structure Sz where
  z : Nat
  n : Nat
  s : Nat
structure Sz.Le (a b : Sz) : Prop where
  z : a.z ≤ b.z
  n : a.n ≤ b.n
  s : a.s ≤ b.s
theorem Sz.Le.refl (a : Sz) : a.Le a := ⟨Nat.le_refl _, Nat.le_refl _, Nat.le_refl _⟩
structure Wf (S : Sz) (low : Int) (rows : Rw) (share v : Int) : Prop where
  far : Far rows low
  pos : 0 < share
  val : v * share = sumR rows + low
  emp : rows = [] → share = 1
  top : ∀ c e r, rows = (c, e) :: r → share = 1 ∨ 256 + bt share < e
  z : wtR rows + bt low ≤ S.z
  n : rows.length ≤ S.n
  s : share.toNat ≤ 2 ^ S.s
theorem Wf.mono {S S' : Sz} {low : Int} {rows : Rw} {share v : Int} (w : Wf S low rows share v) (h : S.Le S') : Wf S' low rows share v :=
  ⟨w.far, w.pos, w.val, w.emp, w.top, Nat.le_trans w.z h.z, Nat.le_trans w.n h.n, Nat.le_trans w.s (Nat.pow_le_pow_right (by decide) h.s)⟩
theorem Wf.plain (i : Int) : Wf ⟨bt i, 0, 0⟩ i [] 1 i :=
  ⟨trivial, (by decide), (by show i * 1 = 0 + i; omega), fun _ => rfl, fun _ _ _ h => (nomatch h), (by show 0 + bt i ≤ bt i; omega), Nat.le_refl _, (by show (1 : Int).toNat ≤ 2 ^ 0; decide)⟩
theorem Wf.low_eq {S : Sz} {low : Int} {share v : Int} (w : Wf S low [] share v) : v = low ∧ share = 1 := by
  have h1 := w.emp rfl
  have h2 := w.val
  rw [h1] at h2
  have h3 : v * 1 = 0 + low := h2
  exact ⟨by omega, h1⟩
theorem mul_pos_iff {a b : Int} (h : 0 < b) : (0 < a * b ↔ 0 < a) ∧ (a * b < 0 ↔ a < 0) := by
  rcases Int.lt_trichotomy a 0 with q | q | q
  · have : a * b < 0 := Int.mul_neg_of_neg_of_pos q h
    constructor <;> constructor <;> intro z <;> omega
  · subst q
    rw [Int.zero_mul]
    constructor <;> constructor <;> intro z <;> omega
  · have : 0 < a * b := Int.mul_pos q h
    constructor <;> constructor <;> intro z <;> omega
theorem Wf.sign {S : Sz} {low : Int} {c : Int} {e : Nat} {r : Rw} {share v : Int} (w : Wf S low ((c, e) :: r) share v) : (0 < c ↔ 0 < v) ∧ (c < 0 ↔ v < 0) := by
  have h1 := far_pos w.far
  have h2 := mul_pos_iff (a := v) w.pos
  rw [w.val] at h2
  exact ⟨h1.1.trans h2.1, h1.2.trans h2.2⟩
/-- the sum's size by the first row -/
theorem far_size {c : Int} {e : Nat} {r : Rw} {low : Int} (h : Far ((c, e) :: r) low) : 2 ^ (bt c + e - 2) ≤ (sumR ((c, e) :: r) + low).natAbs ∧ (sumR ((c, e) :: r) + low).natAbs < 2 ^ (bt c + e + 1) := by
  obtain ⟨x, e1, e2, e3⟩ := far_sum h
  have hc := h.1
  have h1 := bt_low hc
  have h2 := bt_self c
  have h3 := bt_pos hc
  rw [e1]
  have h4 : (c * 2 ^ e).natAbs = c.natAbs * 2 ^ e := by rw [Int.natAbs_mul, two_nat]
  have h5 : 2 ^ (bt c - 1) * 2 ^ e ≤ c.natAbs * 2 ^ e := Nat.mul_le_mul_right _ h1
  have h6 : c.natAbs * 2 ^ e < 2 ^ bt c * 2 ^ e := (Nat.mul_lt_mul_right (Nat.pow_pos (by decide))).mpr h2
  rw [← Nat.pow_add] at h5 h6
  have h7 : 2 ^ e ≤ 2 ^ (bt c - 1 + e) := Nat.pow_le_pow_right (by decide) (by omega)
  have h8 : bt c - 1 + e = (bt c + e - 2) + 1 := by omega
  have h9 : 2 ^ (bt c - 1 + e) = 2 ^ (bt c + e - 2) * 2 := by rw [h8, Nat.pow_succ]
  have h10 : 2 ^ (bt c + e + 1) = 2 ^ (bt c + e) * 2 := Nat.pow_succ ..
  have h11 : 2 ^ e ≤ 2 ^ (bt c + e) := Nat.pow_le_pow_right (by decide) (by omega)
  constructor <;> omega
theorem natAbs_mul_pos {v share : Int} (h : 0 < share) : (v * share).natAbs = v.natAbs * share.toNat := by
  rw [Int.natAbs_mul]
  have : share.natAbs = share.toNat := by omega
  rw [this]
theorem bt_posL {i : Int} (h : 0 < i) : 2 ^ (bt i - 1) ≤ i.toNat := by
  have := bt_low (i := i) (by omega)
  omega
theorem bt_posU {i : Int} (h : 0 < i) : i.toNat < 2 ^ bt i := by
  have := bt_self i
  omega
theorem pow_split {a b c : Nat} (h : a = b + c) : 2 ^ a = 2 ^ b * 2 ^ c := by rw [h, Nat.pow_add]
/-- a number with rows is not small -/
theorem Wf.big {S : Sz} {low : Int} {c : Int} {e : Nat} {r : Rw} {share v : Int} (w : Wf S low ((c, e) :: r) share v) : 2 ^ 64 ≤ v.natAbs := by
  have h1 := (far_size w.far).1
  obtain ⟨_, _, _, e3⟩ := far_sum w.far
  have hb := bt_pos w.far.1
  rw [← w.val, natAbs_mul_pos w.pos] at h1
  have hu := bt_posU w.pos
  rcases Nat.lt_or_ge v.natAbs (2 ^ 64) with q | q
  · exfalso
    have hk : bt share + 64 ≤ bt c + e - 2 := by
      rcases w.top c e r rfl with rfl | t
      · have : bt 1 = 1 := by decide
        omega
      · omega
    have h2 : v.natAbs * share.toNat < 2 ^ 64 * 2 ^ bt share := Nat.mul_lt_mul'' q hu
    rw [← Nat.pow_add] at h2
    have h3 : 2 ^ (64 + bt share) ≤ 2 ^ (bt c + e - 2) := Nat.pow_le_pow_right (by decide) (by omega)
    omega
  · exact q
/-- the size of a number by its first row: the power of two below it -/
theorem Wf.size {S : Sz} {low : Int} {c : Int} {e : Nat} {r : Rw} {share v : Int} (w : Wf S low ((c, e) :: r) share v) : 2 ^ (bt c + e - 2) ≤ v.natAbs * 2 ^ bt share ∧ v.natAbs * 2 ^ (bt share - 1) < 2 ^ (bt c + e + 1) := by
  obtain ⟨h1, h2⟩ := far_size w.far
  rw [← w.val, natAbs_mul_pos w.pos] at h1 h2
  have hu := bt_posU w.pos
  have hl := bt_posL w.pos
  constructor
  · exact Nat.le_trans h1 (Nat.mul_le_mul_left _ (Nat.le_of_lt hu))
  · exact Nat.lt_of_le_of_lt (Nat.mul_le_mul_left _ hl) h2
theorem div_size {c : Int} {e : Nat} {r : Rw} {low share v : Int} (hf : Far ((c, e) :: r) low) (hp : 0 < share) (hv : v * share = sumR ((c, e) :: r) + low) (ht : e ≤ 256 + bt share) : bt v ≤ bt c + 258 := by
  have h2 := (far_size hf).2
  rw [← hv, natAbs_mul_pos hp] at h2
  have hl := bt_posL hp
  have hs := bt_pos (i := share) (by omega)
  refine bt_le.mpr ?_
  rcases Nat.lt_or_ge v.natAbs (2 ^ (bt c + 258)) with q | q
  · exact q
  · exfalso
    have h3 : 2 ^ (bt c + 258) * 2 ^ (bt share - 1) ≤ v.natAbs * share.toNat := Nat.mul_le_mul q hl
    rw [← Nat.pow_add] at h3
    have h4 : 2 ^ (bt c + e + 1) ≤ 2 ^ (bt c + 258 + (bt share - 1)) := Nat.pow_le_pow_right (by decide) (by omega)
    omega
/-! ### sums and weights -/
theorem sumR_append (a b : Rw) : sumR (a ++ b) = sumR a + sumR b := by
  induction a with
  | nil => show sumR b = 0 + sumR b; omega
  | cons q r ih =>
    obtain ⟨c, e⟩ := q
    show c * 2 ^ e + sumR (r ++ b) = c * 2 ^ e + sumR r + sumR b
    rw [ih]
    omega
theorem wtR_append (a b : Rw) : wtR (a ++ b) = wtR a + wtR b := by
  induction a with
  | nil => show wtR b = 0 + wtR b; omega
  | cons q r ih =>
    obtain ⟨c, e⟩ := q
    show bt c + 265 + wtR (r ++ b) = bt c + 265 + wtR r + wtR b
    rw [ih]
    omega
theorem sumR_reverse (a : Rw) : sumR a.reverse = sumR a := by
  induction a with
  | nil => rfl
  | cons q r ih =>
    obtain ⟨c, e⟩ := q
    rw [List.reverse_cons, sumR_append, ih]
    show sumR r + (c * 2 ^ e + 0) = c * 2 ^ e + sumR r
    omega
theorem wtR_reverse (a : Rw) : wtR a.reverse = wtR a := by
  induction a with
  | nil => rfl
  | cons q r ih =>
    obtain ⟨c, e⟩ := q
    rw [List.reverse_cons, wtR_append, ih]
    show wtR r + (bt c + 265 + 0) = bt c + 265 + wtR r
    omega
def nz (a : Rw) : Rw := a.filter fun q => q.1 != 0
theorem sumR_nz (a : Rw) : sumR (nz a) = sumR a := by
  induction a with
  | nil => rfl
  | cons q r ih =>
    obtain ⟨c, e⟩ := q
    show sumR (List.filter _ ((c, e) :: r)) = c * 2 ^ e + sumR r
    rw [List.filter_cons]
    by_cases h : c = 0
    · subst h
      rw [if_neg (by simp)]
      have := ih
      unfold nz at this
      rw [this, Int.zero_mul]
      omega
    · rw [if_pos (by simpa using h)]
      show c * 2 ^ e + sumR (nz r) = _
      rw [ih]
theorem wtR_nz (a : Rw) : wtR (nz a) ≤ wtR a := by
  induction a with
  | nil => exact Nat.le_refl _
  | cons q r ih =>
    obtain ⟨c, e⟩ := q
    show wtR (List.filter _ ((c, e) :: r)) ≤ bt c + 265 + wtR r
    rw [List.filter_cons]
    have h2 : wtR (List.filter (fun q => q.1 != 0) r) ≤ wtR r := ih
    split
    · show bt c + 265 + wtR (List.filter _ r) ≤ _
      omega
    · omega
/-- rows times a factor -/
def mulR (k : Int) (a : Rw) : Rw := a.map fun q => (q.1 * k, q.2)
theorem sumR_mul (k : Int) (a : Rw) : sumR (mulR k a) = sumR a * k := by
  induction a with
  | nil => show (0 : Int) = 0 * k; omega
  | cons q r ih =>
    obtain ⟨c, e⟩ := q
    show c * k * 2 ^ e + sumR (mulR k r) = (c * 2 ^ e + sumR r) * k
    rw [ih, Int.add_mul, Int.mul_assoc, Int.mul_comm k, ← Int.mul_assoc]
theorem wtR_mul {k : Int} {m : Nat} (h : k.natAbs ≤ 2 ^ m) (a : Rw) : wtR (mulR k a) ≤ wtR a + a.length * m := by
  induction a with
  | nil => exact Nat.zero_le _
  | cons q r ih =>
    obtain ⟨c, e⟩ := q
    show bt (c * k) + 265 + wtR (mulR k r) ≤ bt c + 265 + wtR r + (r.length + 1) * m
    have := bt_mulK c h
    rw [Nat.add_mul]
    omega
/-! ### gathering -/
theorem far_one {c : Int} {e : Nat} {low : Int} (hc : c ≠ 0) (h : bt low + 256 < e) : Far [(c, e)] low := ⟨hc, h, trivial⟩
theorem far_push {c f : Int} {e l : Nat} {r : Rw} {low : Int} (hc : c ≠ 0) (h : l + bt f + 8 < e) (q : Far ((f, l) :: r) low) : Far ((c, e) :: (f, l) :: r) low := ⟨hc, h, q⟩
theorem far_put {f g : Int} {l : Nat} {r : Rw} {low : Int} (hg : g ≠ 0) (q : Far ((f, l) :: r) low) : Far ((g, l) :: r) low := ⟨hg, q.2.1, q.2.2⟩
theorem low_wt {c low : Int} {e : Nat} (h : e ≤ bt low + 256) : bt (low + c * 2 ^ e) ≤ bt low + (bt c + 265) := by
  have h1 := bt_add low (c * 2 ^ e)
  have h2 := bt_mulPow c e
  omega
theorem put_wt {c f : Int} {g : Nat} (h : g ≤ bt f + 8) : bt (f + c * 2 ^ g) ≤ bt f + bt c + 9 := by
  have h1 := bt_add f (c * 2 ^ g)
  have h2 := bt_mulPow c g
  omega
theorem put_sum {c f : Int} {g l : Nat} : (f + c * 2 ^ g) * 2 ^ l = f * 2 ^ l + c * 2 ^ (l + g) := by
  rw [Int.add_mul, Int.mul_assoc, ← Int.pow_add, Nat.add_comm g l]
/-! ### divided by a common divisor -/
def divR (g : Int) (a : Rw) : Rw := a.map fun q => (q.1 / g, q.2)
theorem sumR_div {g : Int} : ∀ {a : Rw}, (∀ q ∈ a, g ∣ q.1) → sumR (divR g a) * g = sumR a
  | [], _ => by show (0 : Int) * g = 0; omega
  | (c, e) :: r, h => by
    have ih := sumR_div (a := r) fun q hq => h q (List.mem_cons_of_mem _ hq)
    show (c / g * 2 ^ e + sumR (divR g r)) * g = c * 2 ^ e + sumR r
    have h1 : c / g * g = c := Int.ediv_mul_cancel (h (c, e) (List.mem_cons_self ..))
    rw [Int.add_mul, ih, Int.mul_assoc, Int.mul_comm (2 ^ e), ← Int.mul_assoc, h1]
theorem wtR_div {g : Int} : ∀ {a : Rw}, (∀ q ∈ a, g ∣ q.1) → wtR (divR g a) ≤ wtR a
  | [], _ => Nat.le_refl _
  | (c, e) :: r, h => by
    have ih := wtR_div (a := r) fun q hq => h q (List.mem_cons_of_mem _ hq)
    have h1 := bt_divD (h (c, e) (List.mem_cons_self ..))
    show bt (c / g) + 265 + wtR (divR g r) ≤ bt c + 265 + wtR r
    have h2 : bt (c / g) ≤ bt c := h1
    omega
theorem div_ne {c g : Int} (hc : c ≠ 0) (h : g ∣ c) : c / g ≠ 0 := fun e => by
  have := Int.ediv_mul_cancel h
  rw [e, Int.zero_mul] at this
  exact hc this.symm
theorem far_div {g low : Int} (hl : g ∣ low) : ∀ {a : Rw}, (∀ q ∈ a, g ∣ q.1) → Far a low → Far (divR g a) (low / g)
  | [], _, _ => trivial
  | [(c, e)], h, f => by
    have h1 := h (c, e) (List.mem_cons_self ..)
    have h2 := bt_divD hl
    refine ⟨div_ne f.1 h1, ?_, trivial⟩
    have := f.2.1
    show bt (low / g) + 256 < e
    have h3 : bt low + 256 < e := this
    omega
  | (c, e) :: (c', e') :: r, h, f => by
    have h1 := h (c, e) (List.mem_cons_self ..)
    have h2 := h (c', e') (List.mem_cons_of_mem _ (List.mem_cons_self ..))
    have ih := far_div hl (a := (c', e') :: r) (fun q hq => h q (List.mem_cons_of_mem _ hq)) f.2.2
    refine ⟨div_ne f.1 h1, ?_, ih⟩
    have h3 : e' + bt c' + 8 < e := f.2.1
    have h4 := bt_divD h2
    show e' + bt (c' / g) + 8 < e
    have h5 : bt (c' / g) ≤ bt c' := h4
    omega
/-- settled by a divisor -/
theorem Wf.settle {S : Sz} {ap : Rw} {low share g v : Int} (hf : Far ap low) (hne : ap ≠ []) (hg : 0 < g) (hs : g ∣ share) (hl : g ∣ low) (ha : ∀ q ∈ ap, g ∣ q.1) (hp : 0 < share) (hv : v * share = sumR ap + low)
    (ht : ∀ c e r, divR g ap = (c, e) :: r → share / g = 1 ∨ 256 + bt (share / g) < e) (hz : wtR ap + bt low ≤ S.z) (hn : ap.length ≤ S.n) (h2 : share.toNat ≤ 2 ^ S.s) : Wf S (low / g) (divR g ap) (share / g) v := by
  have e1 : share / g * g = share := Int.ediv_mul_cancel hs
  have e2 : low / g * g = low := Int.ediv_mul_cancel hl
  have e3 := sumR_div ha
  have hp2 : 0 < share / g := by
    by_cases q0 : 0 < share / g
    · exact q0
    · have q : share / g ≤ 0 := by omega
      have : share / g * g ≤ 0 := Int.mul_nonpos_of_nonpos_of_nonneg q (Int.le_of_lt hg)
      omega
  refine ⟨far_div hl ha hf, hp2, ?_, fun e => ?_, ht, ?_, ?_, ?_⟩
  · have : v * (share / g) * g = (sumR (divR g ap) + low / g) * g := by rw [Int.mul_assoc, e1, Int.add_mul, e2, e3, hv]
    exact Int.eq_of_mul_eq_mul_right (by omega) this
  · have h3 : (divR g ap).length = 0 := by rw [e]; rfl
    unfold divR at h3
    rw [List.length_map] at h3
    exact absurd (List.eq_nil_of_length_eq_zero h3) hne
  · have h3 := wtR_div ha
    have h4 := bt_divD hl
    omega
  · unfold divR
    rw [List.length_map]
    exact hn
  · have : share / g ≤ share := Int.ediv_le_self _ (Int.le_of_lt hp)
    omega
end PW
/-! ### is_whole, common, bits, doubled -/
namespace PW
open PySem PySem.Spec PyProof.Rows L2
/-- the class Tower -/
abbrev TwC (K : PySem.W.Frag) : Addr := He.ga K "Tower"
/-- the kind of a value, as far as is_whole and is_number ask -/
inductive Wh (K : PySem.W.Frag) (H : Hp) : V → Bool → Bool → Prop where
  | int (i : Int) : Wh K H (.int i) true false
  | tw {a dx : Addr} {fs : List (Str × V)} (h : H a = some (.ins (TwC K) dx fs)) : Wh K H (.ref a) false true
  | other {x : V} {n : String} (h : TyX K H x (.type n)) (m : n ∈ ["bool", "str", "NoneType", "list", "tuple", "dict"]) : Wh K H x false false
def spWhole (K : PySem.W.Frag) : Sp := fun vs H Q _ => ∃ x b t, vs = [x] ∧ Wh K H x b t ∧ Q (.bl b) H
def spNumber (K : PySem.W.Frag) : Sp := fun vs H Q _ => ∃ x b t, vs = [x] ∧ Wh K H x b t ∧ Q (.bl (t || b)) H
def spCommon : Sp := fun vs H Q _ => ∃ a b : Int, vs = [.int a, .int b] ∧ 0 < a ∧ ∀ g : Int, 0 < g → g ∣ a → g ∣ b → Q (.int g) H
def spBits : Sp := fun vs H Q _ => ∃ a : Int, vs = [.int a] ∧ Q (.int (bt a : Nat)) H
def spDoubled : Sp := fun vs H Q _ => ∃ a : Nat, vs = [.int (a : Nat)] ∧ a ≤ 60000000 ∧ Q (.int (2 ^ a)) H
theorem abs_int (a : Int) : (if a < 0 then -a else a) = (a.natAbs : Int) := by
  split <;> omega
theorem two_odd {s m : Nat} (h : m % 2 = 1) : s * m = (s + s) * (m / 2) + s := by
  have e : m = 2 * (m / 2) + 1 := by omega
  generalize m / 2 = k at e
  subst e
  rw [Nat.mul_add, Nat.mul_one, ← Nat.mul_assoc, Nat.mul_comm s 2, Nat.two_mul]
theorem two_even {s m : Nat} (h : m % 2 = 0) : s * m = (s + s) * (m / 2) := by
  have e : m = 2 * (m / 2) := by omega
  generalize m / 2 = k at e
  subst e
  rw [← Nat.mul_assoc, Nat.mul_comm s 2, Nat.two_mul]
section
variable {P : Program} {w : World} {K : PySem.W.Frag} {mg : Str → Option Value} {base : Heap}
theorem ok_is_whole (T : Txt K mg) : FnOk P w K mg base CX0 1 (He.ga K "is_whole") (fdOf K (He.ga K "is_whole")) p_is_whole (spWhole K) := by
  refine FunD.ok T.d_is_whole sc_is_whole (fun vs H Q E h => ?_) (fun cdv A outer s H vs Q E hr h => ?_)
  · obtain ⟨x, b, t, rfl, _⟩ := h
    rfl
  · obtain ⟨x, b, t, rfl, hw, q⟩ := h
    refine ⟨_, PSs.nox ((pss_one (ps_ret (pe_and (pe_callB call_isi (by rfl) T.f_isinstance (by decide +kernel) (pa_cons (pv 0) (pa_cons (pe_bltn (v := .ty "int") (u := .type "int") (by rfl) T.f_int (by decide +kernel) rfl) pa_nil))) (pe_one (pe_not (pe_callB call_isi (by rfl) T.f_isinstance (by decide +kernel) (pa_cons (pv 0) (pa_cons (pe_bltn (v := .ty "bool") (u := .type "bool") (by rfl) T.f_bool (by decide +kernel) rfl) pa_nil))))))))), ?_⟩
    show tRet _ _ [some x] H
    cases hw with
    | int i =>
      walk_at "go"
      exact q
    | tw h =>
      have ty := ty_ins T.i_Tower h
      have k1 : PySem.W.kitOne K (.ref (TwC K)) (.type "int") = some false := T.it_Tower.r "int" (by decide)
      walk_at "go"
      exact q
    | other h m =>
      simp only [List.mem_cons, List.not_mem_nil, or_false] at m
      rcases m with rfl | rfl | rfl | rfl | rfl | rfl
      all_goals
        walk_at "go"
        exact q
theorem ok_is_number (T : Txt K mg) : FnOk P w K mg base CX0 2 (He.ga K "is_number") (fdOf K (He.ga K "is_number")) p_is_number (spNumber K) := by
  refine FunD.ok T.d_is_number sc_is_number (fun vs H Q E h => ?_) (fun cdv A outer s H vs Q E hr h => ?_)
  · obtain ⟨x, b, t, rfl, _⟩ := h
    rfl
  · obtain ⟨x, b, t, rfl, hw, q⟩ := h
    have G_is_whole := ok_is_whole (P := P) (w := w) (base := base) T
    refine ⟨_, PSs.nox ((pss_one (ps_ret (pe_or (pe_callB call_isi (by rfl) T.f_isinstance (by decide +kernel) (pa_cons (pv 0) (pa_cons (pe_glob (v := .ref _) rfl T.g_Tower rfl) pa_nil))) (pe_one (pe_call G_is_whole hr rfl T.g_is_whole T.d_is_whole.kp (b_is_whole T) .nil pass0 (pa_cons (pv 0) pa_nil))))))), ?_⟩
    show tRet _ _ [some x] H
    have hw' := hw
    cases hw with
    | int i =>
      have k1 : PySem.W.kitOne K (.type "int") (.ref (TwC K)) = some false := T.it_Tower.l "int" (by decide)
      walk_at "go"
      exact ⟨_, _, _, rfl, hw', q⟩
    | tw h =>
      have ty := ty_ins T.i_Tower h
      have k1 := T.i_Tower.me
      walk_at "go"
      exact q
    | @other _ n h m =>
      have k1 : PySem.W.kitOne K (.type n) (.ref (TwC K)) = some false := T.it_Tower.l n (by
        simp only [List.mem_cons, List.not_mem_nil, or_false] at m ⊢
        rcases m with rfl | rfl | rfl | rfl | rfl | rfl <;> simp)
      walk_at "go"
      exact ⟨_, _, _, rfl, hw', q⟩
theorem ok_bits (T : Txt K mg) : FnOk P w K mg base CX0 1 (He.ga K "bits") (fdOf K (He.ga K "bits")) p_bits spBits := by
  refine FunD.ok T.d_bits sc_bits (fun vs H Q E h => ?_) (fun cdv A outer s H vs Q E hr h => ?_)
  · obtain ⟨x, rfl, _⟩ := h
    rfl
  · obtain ⟨a, rfl, q⟩ := h
    refine ⟨_, PSs.nox ((pss_one (ps_ret (pe_bits (pe_callB call_absN (by rfl) T.f_abs (by decide +kernel) (pa_cons (pv 0) pa_nil)))))), ?_⟩
    show tRet _ _ [some (V.int a)] H
    walk_at "go"
    rw [abs_int]
    have e : Builtin.Int.intBits ((a.natAbs : Nat) : Int) = bt a := Nat.le_antisymm (bt_mono (by omega)) (bt_mono (by omega))
    rw [e]
    exact q
theorem ok_common (T : Txt K mg) : FnOk P w K mg base CX0 1 (He.ga K "common") (fdOf K (He.ga K "common")) p_common spCommon := by
  refine FunD.ok T.d_common sc_common (fun vs H Q E h => ?_) (fun cdv A outer s H vs Q E hr h => ?_)
  · obtain ⟨a, b, rfl, _⟩ := h
    rfl
  · obtain ⟨a, b, rfl, ha, q⟩ := h
    refine ⟨_, PSs.nox ((pss_cons (ps_par (i := 0) (j := 1) (by rfl) sc_common.nd rfl rfl (by decide) rfl rfl (pa_cons (pe_callB call_absN (by rfl) T.f_abs (by decide +kernel) (pa_cons (pv 0) pa_nil)) (pa_cons (pe_callB call_absN (by rfl) T.f_abs (by decide +kernel) (pa_cons (pv 1) pa_nil)) pa_nil)) (by rfl))
    (pss_cons (ps_while PassesOwn.never (pt_cmpR op_gt (pv 1) pe_int (nomark _))
      (pss_one (ps_par (i := 0) (j := 1) (by rfl) sc_common.nd rfl rfl (by decide) rfl rfl (pa_cons (pv 1) (pa_cons (pe_op op_mod (pv 0) (pv 1)) pa_nil)) (by rfl))))
    (pss_one (ps_ret (pv 0)))))), ?_⟩
    show tSeq _ _ _ [some (V.int a), some (V.int b)] H
    walk_at "go"
    rw [abs_int, abs_int]
    refine while_it (fun m σ H' => H' = H ∧ ∃ x y : Int, σ = [some (V.int x), some (V.int y)] ∧ 0 ≤ x ∧ 0 ≤ y ∧ m = y.toNat ∧ (∀ g : Int, g ∣ x → g ∣ y → g ∣ a ∧ g ∣ b) ∧ (0 < x ∨ 0 < y)) (m0 := b.natAbs) ⟨rfl, _, _, rfl, by omega, by omega, by omega, fun g h1 h2 => ⟨Int.dvd_natAbs.mp h1, Int.dvd_natAbs.mp h2⟩, by omega⟩ ?_
    rintro m σ H' ⟨rfl, x, y, rfl, hx, hy, rfl, hg, hp⟩
    walk_at "go"
    refine r_if2 (fun e => ?_) (fun e => ?_)
    · have hy0 : 0 < y := of_decide_eq_true e
      refine r_turn ?_
      walk_at "go"
      have h1 := Int.emod_nonneg x (show y ≠ 0 by omega)
      have h2 := Int.emod_lt_of_pos x hy0
      refine ⟨(x % y).toNat, by omega, rfl, y, x % y, rfl, by omega, h1, rfl, fun g h3 h4 => hg g ?_ h3, by omega⟩
      have h5 : x = y * (x / y) + x % y := (Int.mul_ediv_add_emod x y).symm
      rw [h5]
      exact Int.dvd_add (Int.dvd_mul_of_dvd_left h3) h4
    · have hy0 : ¬ 0 < y := of_decide_eq_false e
      walk_at "go"
      have hy1 : y = 0 := by omega
      have := hg x (Int.dvd_refl x) (by rw [hy1]; exact Int.dvd_zero x)
      exact q x (by omega) this.1 this.2
theorem ok_doubled (T : Txt K mg) : FnOk P w K mg base CX0 1 (He.ga K "doubled") (fdOf K (He.ga K "doubled")) p_doubled spDoubled := by
  refine FunD.ok T.d_doubled sc_doubled (fun vs H Q E h => ?_) (fun cdv A outer s H vs Q E hr h => ?_)
  · obtain ⟨a, rfl, _⟩ := h
    rfl
  · obtain ⟨a, rfl, ha, q⟩ := h
    refine ⟨_, PSs.nox ((pss_cons (ps_par3 (i := 1) (j := 2) (l := 3) (by rfl) sc_doubled.nd rfl rfl rfl (by decide) (by decide) (by decide) rfl rfl rfl (pa_cons pe_int (pa_cons pe_int (pa_cons (pv 0) pa_nil))) (by rfl))
    (pss_cons (ps_while PassesOwn.never (pt_cmpR op_gt (pv 3) pe_int (nomark _))
      (pss_cons (ps_if (pt_cmpR op_eq (pe_op op_mod (pv 3) pe_int) pe_int (nomark _))
          (pss_one (ps_set (i := 1) sc_doubled.nd rfl (Or.inl rfl) (pe_op op_mulX (pv 1) (pv 2))))
          pss_nil)
        (pss_cons (ps_set (i := 3) sc_doubled.nd rfl (Or.inl rfl) (pe_op op_fdivW (pv 3) pe_int))
        (pss_one (ps_if (pt_cmpR op_gt (pv 3) pe_int (nomark _))
          (pss_one (ps_set (i := 2) sc_doubled.nd rfl (Or.inl rfl) (pe_op op_mulX (pv 2) (pv 2))))
          pss_nil)))))
    (pss_one (ps_ret (pv 1)))))), ?_⟩
    show tSeq _ _ _ [some (V.int (a : Nat)), none, none, none] H
    walk_at "go"
    refine while_it (fun m σ H' => H' = H ∧ ∃ f s l : Nat, σ = [some (V.int (a : Nat)), some (V.int (2 ^ f)), some (V.int (2 ^ s)), some (V.int (l : Nat))] ∧ m = l ∧ f + s * l = a ∧ (0 < l → 0 < s)) (m0 := a) ⟨rfl, 0, 1, a, rfl, rfl, by omega, fun _ => by decide⟩ ?_
    rintro m σ H' ⟨rfl, f, s, l, rfl, rfl, hf, hs⟩
    walk_at "go"
    refine r_if2 (fun e => ?_) (fun e => ?_)
    · have hl0 : (0 : Int) < (m : Nat) := of_decide_eq_true e
      have hs0 := hs (by omega)
      have hsl : s ≤ s * m := Nat.le_mul_of_pos_right _ (by omega)
      refine r_turn ?_
      have cm : ∀ x y : Nat, x + y ≤ 130000000 → CMulX (2 ^ x) (2 ^ y) := fun x y h => by
        refine mulx_ok (a := x + 1) (b := y + 1) ?_ ?_ (by omega)
        · rw [two_nat]
          exact Nat.pow_lt_pow_right (by decide) (Nat.lt_succ_self x)
        · rw [two_nat]
          exact Nat.pow_lt_pow_right (by decide) (Nat.lt_succ_self y)
      have c1 := cm f s (by omega)
      have c2 := cm s s (by omega)
      have e1 : (2 : Int) ^ f * 2 ^ s = 2 ^ (f + s) := (Int.pow_add 2 f s).symm
      have e2 : (2 : Int) ^ s * 2 ^ s = 2 ^ (s + s) := (Int.pow_add 2 s s).symm
      walk_at "go"
      refine r_if2 (fun o => ?_) (fun o => ?_)
      · have ho : ((m : Nat) : Int) % 2 = 1 := V.int.inj (of_decide_eq_true o)
        walk_at "go"
        refine r_if2 (fun z => ?_) (fun z => ?_)
        · walk_at "go"
          refine ⟨m / 2, by omega, rfl, f + s, s + s, m / 2, by rw [e1, e2]; rfl, rfl, ?_, fun _ => by omega⟩
          rw [two_odd (s := s) (show m % 2 = 1 by omega)] at hf
          omega
        · walk_at "go"
          refine ⟨m / 2, by omega, rfl, f + s, s, m / 2, by rw [e1]; rfl, rfl, ?_, fun _ => by omega⟩
          rw [two_odd (s := s) (show m % 2 = 1 by omega)] at hf
          have z0 : m / 2 = 0 := by
            have : ¬ (0 : Int) < (m : Nat) / 2 := of_decide_eq_false z
            omega
          rw [z0] at hf ⊢
          omega
      · have ho : ¬ ((m : Nat) : Int) % 2 = 1 := fun z => of_decide_eq_false o (congrArg V.int z)
        walk_at "go"
        refine r_if2 (fun z => ?_) (fun z => ?_)
        · walk_at "go"
          refine ⟨m / 2, by omega, rfl, f, s + s, m / 2, by rw [e2]; rfl, rfl, ?_, fun _ => by omega⟩
          rw [two_even (s := s) (show m % 2 = 0 by omega)] at hf
          omega
        · walk_at "go"
          refine ⟨m / 2, by omega, rfl, f, s, m / 2, rfl, rfl, ?_, fun _ => by omega⟩
          rw [two_even (s := s) (show m % 2 = 0 by omega)] at hf
          have z0 : m / 2 = 0 := by
            have : ¬ (0 : Int) < (m : Nat) / 2 := of_decide_eq_false z
            omega
          rw [z0] at hf ⊢
          omega
    · have hl0 : ¬ (0 : Int) < (m : Nat) := of_decide_eq_false e
      walk_at "go"
      have : f = a := by
        have : m = 0 := by omega
        subst this
        omega
      subst this
      exact q
end
end PW
/-! ### numbers in the heap; __init__, tower_of, sign, small -/
namespace PW
open PySem PySem.Spec PyProof.Rows L2
def fsT (low : Int) (p : Addr) (share : Int) : List (Str × V) := [("low", .int low), ("parts", .ref p), ("share", .int share)]
theorem lk_low {l s : Int} {p : Addr} : (fsT l p s).lookup ("low" : Str) = some (.int l) := rfl
theorem lk_parts {l s : Int} {p : Addr} : (fsT l p s).lookup ("parts" : Str) = some (.ref p) := rfl
theorem lk_share {l s : Int} {p : Addr} : (fsT l p s).lookup ("share" : Str) = some (.int s) := rfl
/-- at a stands the number v, of depth below d + 1 and of size S -/
def IsT (K : PySem.W.Frag) (cap : Sz) (H : Hp) : Nat → Sz → Addr → Int → Prop
  | 0, _, _, _ => False
  | d + 1, S, a, v => ∃ (dx : Addr) (low : Int) (p : Addr) (share : Int) (xs : List V) (rows : Rw), H a = some (.ins (TwC K) dx (fsT low p share)) ∧ SqT K H p xs ∧
      Paired (fun (x : V) (q : Int × Nat) => ∃ t r, x = .ref t ∧ SqT K H t [.int q.1, .ref r] ∧ IsT K cap H d cap r ((q.2 : Nat) : Int)) xs rows ∧ Wf S low rows share v
def RowV (K : PySem.W.Frag) (cap : Sz) (H : Hp) (d : Nat) (x : V) (q : Int × Nat) : Prop := ∃ t r, x = .ref t ∧ SqT K H t [.int q.1, .ref r] ∧ IsT K cap H d cap r ((q.2 : Nat) : Int)
abbrev RowsV (K : PySem.W.Frag) (cap : Sz) (H : Hp) (d : Nat) : List V → Rw → Prop := Paired (RowV K cap H d)
theorem isT_succ {K : PySem.W.Frag} {H : Hp} {d : Nat} {S : Sz} {a : Addr} {v : Int} : IsT K cap H (d + 1) S a v ↔ ∃ (dx : Addr) (low : Int) (p : Addr) (share : Int) (xs : List V) (rows : Rw), H a = some (.ins (TwC K) dx (fsT low p share)) ∧ SqT K H p xs ∧ RowsV K cap H d xs rows ∧ Wf S low rows share v := Iff.rfl
theorem IsT.ex {K : PySem.W.Frag} {H H' : Hp} (x : Ex H H') : ∀ {d : Nat} {S : Sz} {a : Addr} {v : Int}, IsT K cap H d S a v → IsT K cap H' d S a v
  | 0, _, _, _, h => h.elim
  | d + 1, S, a, v, h => by
    obtain ⟨dx, low, p, share, xs, rows, h1, h2, h3, h4⟩ := h
    refine ⟨dx, low, p, share, xs, rows, x _ _ h1, x.tup h2, L2.Paired.mapP h3 fun y q hq => ?_, h4⟩
    obtain ⟨t, r, e, k1, k2⟩ := hq
    exact ⟨t, r, e, x.tup k1, IsT.ex x k2⟩
theorem IsT.mono {K : PySem.W.Frag} {H : Hp} {S S' : Sz} (x : S.Le S') : ∀ {d : Nat} {a : Addr} {v : Int}, IsT K cap H d S a v → IsT K cap H d S' a v
  | 0, _, _, h => h.elim
  | d + 1, a, v, h => by
    obtain ⟨dx, low, p, share, xs, rows, h1, h2, h3, h4⟩ := h
    exact ⟨dx, low, p, share, xs, rows, h1, h2, h3, h4.mono x⟩
theorem IsT.up {K : PySem.W.Frag} {H : Hp} : ∀ {d : Nat} {S : Sz} {a : Addr} {v : Int}, IsT K cap H d S a v → IsT K cap H (d + 1) S a v
  | 0, _, _, _, h => h.elim
  | d + 1, S, a, v, h => by
    obtain ⟨dx, low, p, share, xs, rows, h1, h2, h3, h4⟩ := h
    refine ⟨dx, low, p, share, xs, rows, h1, h2, L2.Paired.mapP h3 fun y q hq => ?_, h4⟩
    obtain ⟨t, r, e, k1, k2⟩ := hq
    exact ⟨t, r, e, k1, IsT.up k2⟩
theorem IsT.deep {K : PySem.W.Frag} {H : Hp} {S : Sz} {a : Addr} {v : Int} {d d' : Nat} (h : IsT K cap H d S a v) (l : d ≤ d') : IsT K cap H d' S a v := by
  induction l with
  | refl => exact h
  | step _ ih => exact ih.up
theorem IsT.ins {K : PySem.W.Frag} {H : Hp} {d : Nat} {S : Sz} {a : Addr} {v : Int} (h : IsT K cap H d S a v) : ∃ dx fs, H a = some (.ins (TwC K) dx fs) := by
  cases d with
  | zero => exact h.elim
  | succ d =>
    obtain ⟨dx, low, p, share, xs, rows, h1, _⟩ := h
    exact ⟨dx, _, h1⟩
theorem RowV.ex {K : PySem.W.Frag} {H H' : Hp} (x : Ex H H') {d : Nat} {y : V} {q : Int × Nat} (h : RowV K cap H d y q) : RowV K cap H' d y q := by
  obtain ⟨t, r, e, k1, k2⟩ := h
  exact ⟨t, r, e, x.tup k1, k2.ex x⟩
theorem RowsV.ex {K : PySem.W.Frag} {H H' : Hp} (x : Ex H H') {d : Nat} {xs : List V} {rows : Rw} (h : RowsV K cap H d xs rows) : RowsV K cap H' d xs rows := L2.Paired.mapP h fun _ _ q => q.ex x
/-- a number or an integer -/
def NumV (K : PySem.W.Frag) (cap : Sz) (H : Hp) (d : Nat) (S : Sz) (x : V) (v : Int) : Prop := (∃ a, x = .ref a ∧ IsT K cap H d S a v) ∨ (x = .int v ∧ Sz.Le ⟨bt v, 0, 0⟩ S ∧ 1 ≤ d)
theorem NumV.ex {K : PySem.W.Frag} {H H' : Hp} (x : Ex H H') {d : Nat} {S : Sz} {y : V} {v : Int} (h : NumV K cap H d S y v) : NumV K cap H' d S y v := by
  rcases h with ⟨a, e, h⟩ | h
  · exact .inl ⟨a, e, h.ex x⟩
  · exact .inr h
theorem NumV.wh {K : PySem.W.Frag} {H : Hp} {d : Nat} {S : Sz} {y : V} {v : Int} (h : NumV K cap H d S y v) : ∃ b t, Wh K H y b t ∧ (t || b) = true := by
  rcases h with ⟨a, rfl, h⟩ | ⟨rfl, _⟩
  · obtain ⟨dx, fs, e⟩ := h.ins
    exact ⟨_, _, .tw e, rfl⟩
  · exact ⟨_, _, .int v, rfl⟩
def sgn (v : Int) : Int := if 0 < v then 1 else if v < 0 then -1 else 0
def smallV (v : Int) : V := if v.natAbs < 2 ^ 64 then .int v else .non
def spInit (K : PySem.W.Frag) : Sp := fun vs H Q _ => ∃ x dx i p s, vs = [.ref x, .int i, .ref p, .int s] ∧ H x = some (.ins (TwC K) dx []) ∧ Q .non (upd H x (.ins (TwC K) dx (fsT i p s)))
def spTowerOf (K : PySem.W.Frag) : Sp := fun vs H Q _ => ∃ cap x d S v, vs = [x] ∧ NumV K cap H d S x v ∧ ∀ r H', Ex H H' → IsT K cap H' d S r v → Q (.ref r) H'
def spSign (K : PySem.W.Frag) : Sp := fun vs H Q _ => ∃ cap a d S v, vs = [.ref a] ∧ IsT K cap H d S a v ∧ ∀ H', Ex H H' → Q (.int (sgn v)) H'
def spSmall (K : PySem.W.Frag) : Sp := fun vs H Q _ => ∃ cap a d S v, vs = [.ref a] ∧ IsT K cap H d S a v ∧ ∀ H', Ex H H' → Q (smallV v) H'
theorem Wf.smallV {S : Sz} {low : Int} {rows : Rw} {share v : Int} (w : Wf S low rows share v) : PW.smallV v = if rows.isEmpty && decide (low.natAbs < 2 ^ 64) then V.int low else V.non := by
  cases rows with
  | nil =>
    have := w.low_eq.1
    subst this
    unfold PW.smallV
    by_cases h : v.natAbs < 2 ^ 64
    · rw [if_pos h, if_pos (by simpa using h)]
    · rw [if_neg h, if_neg (by simpa using h)]
  | cons q r =>
    obtain ⟨c, e⟩ := q
    have := w.big
    unfold PW.smallV
    rw [if_neg (by omega), if_neg (by simp)]
theorem Wf.sgn {S : Sz} {low : Int} {rows : Rw} {share v : Int} (w : Wf S low rows share v) : PW.sgn v = PW.sgn (match rows with | [] => low | q :: _ => q.1) := by
  cases rows with
  | nil =>
    have := w.low_eq.1
    subst this
    rfl
  | cons q r =>
    obtain ⟨c, e⟩ := q
    obtain ⟨h1, h2⟩ := w.sign
    show PW.sgn v = PW.sgn c
    unfold PW.sgn
    by_cases p1 : 0 < c
    · rw [if_pos (h1.mp p1), if_pos p1]
    · rw [if_neg (fun z => p1 (h1.mpr z)), if_neg p1]
      by_cases p2 : c < 0
      · rw [if_pos (h2.mp p2), if_pos p2]
      · rw [if_neg (fun z => p2 (h2.mpr z)), if_neg p2]
section
variable {P : Program} {w : World} {K : PySem.W.Frag} {mg : Str → Option Value} {base : Heap}
theorem ok_init (T : Txt K mg) : FnOk P w K mg base CX0 2 (He.ma K (He.ga K "Tower") "__init__") (fdOf K (He.fAd K ("Tower", some "__init__"))) p_Tower___init__ (spInit K) := by
  refine FunD.ok T.d_Tower___init__ sc_Tower___init__ (fun vs H Q E h => ?_) (fun cdv A outer s H vs Q E hr h => ?_)
  · obtain ⟨x, dx, i, p, s, rfl, _⟩ := h
    rfl
  · obtain ⟨x, dx, i, p, s, rfl, hx, q⟩ := h
    have G_is_whole := ok_is_whole (P := P) (w := w) (base := base) T
    have kT := T.k_Tower
    have n1 := T.n_Tower_low
    have n2 := T.n_Tower_parts
    have n3 := T.n_Tower_share
    refine ⟨_, PSs.nox ((pss_cons (ps_if (pt_not (pt_val (pe_call G_is_whole hr rfl T.g_is_whole T.d_is_whole.kp (b_is_whole T) .nil pass0 (pa_cons (pv 1) pa_nil))))
      (pss_one ps_never)
      pss_nil)
    (pss_cons (ps_fld (pv 0) (pv 1) rfl)
    (pss_cons (ps_fld (pv 0) (pv 2) rfl)
    (pss_one (ps_fld (pv 0) (pv 3) rfl)))))), ?_⟩
    show tSeq _ _ _ [some (V.ref x), some (V.int i), some (V.ref p), some (V.int s)] H
    walk_at "K"
    walk_at "go"
    refine ⟨_, _, _, rfl, .int i, ?_⟩
    walk_at "go"
    rw [upd_upd, upd_upd]
    exact q
/-- a new number, plain -/
theorem isT_plain {H : Hp} {x dx e : Addr} {i : Int} (hx : H x = none) (hd : H dx = none) (hn : dx ≠ x) (he : ∀ H, SqT K H e []) : IsT K cap (upd (upd H dx (.own x)) x (.ins (TwC K) dx (fsT i e 1))) 1 ⟨bt i, 0, 0⟩ x i :=
  ⟨dx, i, e, 1, [], [], upd_same, he _, .nil, Wf.plain i⟩
theorem ex_made {H : Hp} {x dx : Addr} {o : HO} (hx : H x = none) (hd : H dx = none) (hn : dx ≠ x) : Ex H (upd (upd H dx (.own x)) x o) := (Ex.new hd).trans (Ex.new (by rw [upd_ne (Ne.symm hn)]; exact hx))
theorem init_made {H : Hp} {x dx p : Addr} {i s : Int} {Q : VK} {E : XK} (q : Q .non (upd (upd H dx (.own x)) x (.ins (TwC K) dx (fsT i p s)))) :
    spInit K [.ref x, .int i, .ref p, .int s] (upd (upd H dx (.own x)) x (.ins (TwC K) dx [])) Q E := ⟨x, dx, i, p, s, rfl, upd_same, by rw [upd_upd]; exact q⟩
theorem ok_tower_of (T : Txt K mg) : FnOk P w K mg base CX0 4 (He.ga K "tower_of") (fdOf K (He.ga K "tower_of")) p_tower_of (spTowerOf K) := by
  refine FunD.ok T.d_tower_of sc_tower_of (fun vs H Q E h => ?_) (fun cdv A outer s H vs Q E hr h => ?_)
  · obtain ⟨cap, x, d, S, v, rfl, _⟩ := h
    rfl
  · obtain ⟨cap, x, d, S, v, rfl, hx, q⟩ := h
    have G_Tower___init__ := ok_init (P := P) (w := w) (base := base) T
    refine ⟨_, PSs.nox ((pss_one (ps_ret (pe_ifExp (pt_val (pe_callB call_isi (by rfl) T.f_isinstance (by decide +kernel) (pa_cons (pv 0) (pa_cons (pe_glob (v := .ref _) rfl T.g_Tower rfl) pa_nil)))) (pv 0) (pe_make T.mk_Tower G_Tower___init__ hr rfl T.g_Tower (b_Tower___init___2 T) (dv_Tower___init___2 T) pass0 (pa_cons (pv 0) pa_nil)))))), ?_⟩
    show tRet _ _ [some x] H
    walk_at "K"
    rcases hx with ⟨a, rfl, h⟩ | ⟨rfl, hS, hd⟩
    · obtain ⟨dx, fs, e⟩ := h.ins
      have ty := ty_ins T.i_Tower e
      have k1 := T.i_Tower.me
      walk_at "go"
      exact q _ _ (Ex.refl _) h
    · have k1 : PySem.W.kitOne K (.type "int") (.ref (TwC K)) = some false := T.it_Tower.l "int" (by decide)
      walk_at "go"
      intro x dx hx hd2 hn
      refine init_made ⟨rfl, q _ _ (ex_made hx hd2 hn) ?_⟩
      exact ((isT_plain hx hd2 hn (fun H => T.e_Tower___init___parts H)).mono hS).deep hd
theorem ok_sign (T : Txt K mg) : FnOk P w K mg base CX0 1 (He.ma K (He.ga K "Tower") "sign") (fdOf K (He.fAd K ("Tower", some "sign"))) p_Tower_sign (spSign K) := by
  refine FunD.ok T.d_Tower_sign sc_Tower_sign (fun vs H Q E h => ?_) (fun cdv A outer s H vs Q E hr h => ?_)
  · obtain ⟨cap, a, d, S, v, rfl, _⟩ := h
    rfl
  · obtain ⟨cap, a, d, S, v, rfl, hx, q⟩ := h
    have kT := T.k_Tower
    have n1 := T.n_Tower_low
    have n2 := T.n_Tower_parts
    refine ⟨_, PSs.nox ((pss_cons (ps_set (i := 1) sc_Tower_sign.nd rfl (Or.inl rfl) (pe_ifExp (pt_cmpR (PW.op_neE hr.units0) (pe_fld (pv 0) rfl) (pe_tup pa_nil) (nomark _)) (pe_ix ix_seq (pe_ix ix_tup (pe_fld (pv 0) rfl) pe_int (fun _ _ => rfl)) pe_int (fun _ _ => rfl)) (pe_fld (pv 0) rfl)))
    (pss_one (ps_ret (pe_ifExp (pt_cmpR op_gt (pv 1) pe_int (nomark _)) pe_int (pe_ifExp (pt_cmpR op_lt (pv 1) pe_int (nomark _)) (pe_un un_neg pe_int) pe_int)))))), ?_⟩
    show tSeq _ _ _ [some (V.ref a), none] H
    walk_at "K"
    cases d with
    | zero => exact hx.elim
    | succ d =>
    obtain ⟨dx, low, p, share, xs, rows, h1, h2, h3, wf⟩ := hx
    refine r_seqP (fun σ' H' => ∃ i : Int, σ' = [some (V.ref a), some (V.int i)] ∧ Ex H H' ∧ sgn v = sgn i) ?_ ?_
    · rintro σ' H' ⟨i, rfl, x, e⟩
      have q' := q H' x
      rw [e] at q'
      unfold sgn at q'
      walk_at "go"
      refine r_if2 (fun e => ?_) (fun e => ?_)
      · rw [if_pos (of_decide_eq_true e)] at q'
        walk_at "go"
        exact q'
      · rw [if_neg (of_decide_eq_false e)] at q'
        walk_at "go"
        refine r_if2 (fun e => ?_) (fun e => ?_)
        · rw [if_pos (of_decide_eq_true e)] at q'
          walk_at "go"
          exact q'
        · rw [if_neg (of_decide_eq_false e)] at q'
          walk_at "go"
          exact q'
    · intro N hN
      walk_at "go"
      intro p0 hp0
      walk_at "go"
      cases h3 with
      | nil =>
        refine r_ifF' rfl ?_
        walk_at "go"
        exact hN _ _ ⟨low, rfl, Ex.new hp0, wf.sgn⟩
      | @cons x0 q0 xr rr hr0 hrr =>
        obtain ⟨t, r, rfl, k1, k2⟩ := hr0
        refine r_ifT' rfl ?_
        walk_at "go"
        exact hN _ _ ⟨q0.1, rfl, Ex.new hp0, wf.sgn⟩
theorem ok_small (T : Txt K mg) : FnOk P w K mg base CX0 1 (He.ma K (He.ga K "Tower") "small") (fdOf K (He.fAd K ("Tower", some "small"))) p_Tower_small (spSmall K) := by
  refine FunD.ok T.d_Tower_small sc_Tower_small (fun vs H Q E h => ?_) (fun cdv A outer s H vs Q E hr h => ?_)
  · obtain ⟨cap, a, d, S, v, rfl, _⟩ := h
    rfl
  · obtain ⟨cap, a, d, S, v, rfl, hx, q⟩ := h
    have kT := T.k_Tower
    have n1 := T.n_Tower_low
    have n2 := T.n_Tower_parts
    refine ⟨_, PSs.nox ((pss_one (ps_ret (pe_ifExp (PW.pt (pw_and (pt_cmpR (PW.op_eqE hr.units0) (pe_fld (pv 0) rfl) (pe_tup pa_nil) (nomark _)) (pw_and1 (pt_cmpR op_lt (pe_callB call_absN (by rfl) T.f_abs (by decide +kernel) (pa_cons (pe_fld (pv 0) rfl) pa_nil)) (pe_gint rfl T.c_SMALL) (nomark _))))) (pe_fld (pv 0) rfl) pe_non)))), ?_⟩
    show tRet _ _ [some (V.ref a)] H
    walk_at "K"
    cases d with
    | zero => exact hx.elim
    | succ d =>
    obtain ⟨dx, low, p, share, xs, rows, h1, h2, h3, wf⟩ := hx
    walk_at "go"
    intro p0 hp0
    walk_at "go"
    have q' := q (upd H p0 (.tup [])) (Ex.new hp0)
    rw [wf.smallV] at q'
    have e0 : xs.isEmpty = rows.isEmpty := by cases h3 <;> rfl
    rw [e0]
    refine r_if2 (fun e => ?_) (fun e => ?_)
    · walk_at "go"
      rw [abs_int]
      generalize hB : (18446744073709551616 : Int) = B
      refine r_if2 (fun e2 => ?_) (fun e2 => ?_)
      · have : low.natAbs < 2 ^ 64 := by
          have := of_decide_eq_true e2
          omega
        rw [if_pos (by rw [e, decide_eq_true this]; rfl)] at q'
        walk_at "go"
        exact q'
      · have : ¬ low.natAbs < 2 ^ 64 := by
          have := of_decide_eq_false e2
          omega
        rw [if_neg (by rw [e, decide_eq_false this]; simp)] at q'
        walk_at "go"
        exact q'
    · rw [if_neg (by rw [e]; simp)] at q'
      walk_at "go"
      exact q'
end
end PW
/-! ### above, -, ordered -/
namespace PW
open PySem PySem.Spec PyProof.Rows L2
section
variable {α β : Type} {F : α → β → Prop}
theorem prd_get : ∀ {xs : List α} {ys : List β} {i : Nat} {x : α}, Paired F xs ys → xs[i]? = some x → ∃ y, ys[i]? = some y ∧ F x y
  | _, _, _, _, .nil, h => by cases h
  | _, _, 0, _, .cons r t, h => by
    injection h with h
    subst h
    exact ⟨_, rfl, r⟩
  | _, _, i + 1, _, .cons r t, h => prd_get (i := i) t h
theorem prd_append : ∀ {xs xs' : List α} {ys ys' : List β}, Paired F xs ys → Paired F xs' ys' → Paired F (xs ++ xs') (ys ++ ys')
  | _, _, _, _, .nil, h => h
  | _, _, _, _, .cons r t, h => .cons r (prd_append t h)
theorem prd_take : ∀ {n : Nat} {xs : List α} {ys : List β}, Paired F xs ys → Paired F (xs.take n) (ys.take n)
  | 0, _, _, _ => .nil
  | _ + 1, _, _, .nil => .nil
  | _ + 1, _, _, .cons r t => .cons r (prd_take t)
theorem prd_drop : ∀ {n : Nat} {xs : List α} {ys : List β}, Paired F xs ys → Paired F (xs.drop n) (ys.drop n)
  | 0, _, _, h => h
  | _ + 1, _, _, .nil => .nil
  | n + 1, _, _, .cons r t => prd_drop (n := n) t
theorem prd_rev : ∀ {xs : List α} {ys : List β}, Paired F xs ys → Paired F xs.reverse ys.reverse
  | _, _, .nil => .nil
  | _, _, .cons r t => by
    rw [List.reverse_cons, List.reverse_cons]
    exact prd_append (prd_rev t) (.cons r .nil)
theorem prd_len {xs : List α} {ys : List β} (h : Paired F xs ys) : xs.length = ys.length := Paired.length h
end
/-- sizes that sums take -/
def LIM : Sz := ⟨4000000, 1200, 1200⟩
def totSz (a b : Sz) (m : Nat) : Sz := ⟨a.z + b.z + a.n * b.s + b.n * (m + a.s) + a.s + b.s + m + 1, a.n + b.n, a.s + b.s⟩
def spTotal (K : PySem.W.Frag) (cap : Sz) (d : Nat) : Sp := fun vs H Q _ => ∃ a b f S1 S2 m v u, vs = [.ref a, .ref b, .int f] ∧ IsT K cap H d S1 a v ∧ IsT K cap H d S2 b u ∧ S1.Le LIM ∧ S2.Le LIM ∧ f.natAbs ≤ 2 ^ m ∧ m ≤ 1200 ∧
  ∀ r H', Ex H H' → IsT K cap H' d (totSz S1 S2 m) r (v + f * u) → Q (.ref r) H'
def spSub (K : PySem.W.Frag) (cap : Sz) (d : Nat) : Sp := fun vs H Q _ => ∃ a x S1 S2 v u, vs = [.ref a, x] ∧ IsT K cap H d S1 a v ∧ NumV K cap H d S2 x u ∧ S1.Le LIM ∧ S2.Le LIM ∧ ∀ r H', Ex H H' → IsT K cap H' d (totSz S1 S2 0) r (v - u) → Q (.ref r) H'
def spAbove (K : PySem.W.Frag) (cap : Sz) (d : Nat) : Sp := fun vs H Q _ => ∃ a x S1 S2 v u, vs = [.ref a, x] ∧ IsT K cap H d S1 a v ∧ NumV K cap H d S2 x u ∧ S1.Le LIM ∧ S2.Le LIM ∧ ∀ H', Ex H H' → Q (.bl (decide (u < v))) H'
def Desc : Rw → Prop := List.Pairwise fun a b => b.2 ≤ a.2
def spOrdered (K : PySem.W.Frag) (cap : Sz) (d : Nat) : Sp := fun vs H Q _ => ∃ p xs rows, vs = [.ref p] ∧ SqL K H p xs ∧ RowsV K cap H d xs rows ∧ rows.length ≤ 2400 ∧
  ∀ r H' ys rf, Ex H H' → H' r = some (.lst ys) → RowsV K cap H' d ys rf → Desc rf → rf.Perm rows → Q (.ref r) H'
theorem desc_ins {c : Int} {e : Nat} : ∀ {rf : Rw} {n : Nat}, Desc rf → (∀ j q, j < n → rf[j]? = some q → e < q.2) → (∀ q, rf[n]? = some q → q.2 ≤ e) → Desc (rf.take n ++ [(c, e)] ++ rf.drop n)
  | [], n, _, _, _ => by
    rw [List.take_nil, List.drop_nil]
    exact List.pairwise_singleton _ _
  | q :: r, 0, hd, _, h2 => by
    have h3 := h2 q rfl
    have hd' := List.pairwise_cons.mp hd
    refine List.pairwise_cons.mpr ⟨fun b hb => ?_, hd⟩
    rcases List.mem_cons.mp hb with rfl | hb
    · exact h3
    · exact Nat.le_trans (hd'.1 b hb) h3
  | q :: r, n + 1, hd, h1, h2 => by
    have hd' := List.pairwise_cons.mp hd
    have ih := desc_ins (c := c) (e := e) (n := n) hd'.2 (fun j p hj hp => h1 (j + 1) p (by omega) hp) (fun p hp => h2 p hp)
    refine List.pairwise_cons.mpr ⟨fun b hb => ?_, ih⟩
    have hb2 : b ∈ r.take n ++ [(c, e)] ++ r.drop n := hb
    rw [List.mem_append, List.mem_append] at hb2
    rcases hb2 with (hb2 | hb2) | hb2
    · exact hd'.1 b (List.mem_of_mem_take hb2)
    · rw [List.mem_singleton] at hb2
      subst hb2
      exact Nat.le_of_lt (h1 0 q (by omega) rfl)
    · exact hd'.1 b (List.mem_of_mem_drop hb2)
theorem perm_ins {α : Type} {x : α} {rf rows : List α} {n i : Nat} (h : rf.Perm (rows.take i)) (hx : rows[i]? = some x) : (rf.take n ++ [x] ++ rf.drop n).Perm (rows.take (i + 1)) := by
  have h1 : (rf.take n ++ [x] ++ rf.drop n).Perm (x :: (rf.take n ++ rf.drop n)) := by
    rw [List.append_assoc]
    exact List.perm_middle
  rw [List.take_append_drop] at h1
  have h2 : rows.take (i + 1) = rows.take i ++ [x] := by
    rw [List.take_add_one, hx]
    rfl
  rw [h2]
  exact h1.trans ((List.Perm.cons x h).trans (List.perm_append_singleton x _).symm)
theorem Ex.hideN {H H' : Hp} {D : Addr} (e : Ex H H') (h : H D = none) : Ex H (PW.hide H' D) := fun a o ha => by
  rw [hide_ne (ne_of_none ha h)]
  exact e a o ha
theorem r_whileP {c : TT} {tb : TS} {D : Ends} {σ : L2.St} {H : Hp} (P : L2.St → Hp → Prop) (hq : ∀ σ' H', P σ' H' → D.nx σ' H') (h : ∀ N : L2.St → Hp → Prop, (∀ σ' H', P σ' H' → N σ' H') → tWhile c tb { D with nx := N } σ H) : tWhile c tb D σ H := h D.nx hq
theorem IsT.ins' {K : PySem.W.Frag} {H : Hp} {d : Nat} {S : Sz} {a : Addr} {v : Int} (h : IsT K cap H d S a v) : ∃ dx l p s, H a = some (.ins (TwC K) dx (fsT l p s)) := by
  cases d with
  | zero => exact h.elim
  | succ d =>
    obtain ⟨dx, low, p, share, xs, rows, h1, _⟩ := h
    exact ⟨dx, _, _, _, h1⟩
section
variable {P : Program} {w : World} {K : PySem.W.Frag} {mg : Str → Option Value} {base : Heap}
theorem fnOk_none {CX : CXT} {k : Nat} {f : Addr} {fd : FuncData} {ps : List Str} {sp : Sp} (h : ∀ vs H Q E, ¬ sp vs H Q E) : FnOk P w K mg base CX k f fd ps sp :=
  ⟨fun _ _ _ _ z => (h _ _ _ _ z).elim, fun _ _ _ _ _ _ _ _ _ _ _ _ _ z => (h _ _ _ _ z).elim⟩
theorem ok_ordered {k d : Nat} {cap : Sz} (cap_lim : cap.Le LIM) (T : Txt K mg) (G_Tower_above : FnOk P w K mg base CX0 k (He.ma K (He.ga K "Tower") "above") (fdOf K (He.fAd K ("Tower", some "above"))) p_Tower_above (spAbove K cap d)) :
    FnOk P w K mg base CX0 (k + 1) (He.ga K "ordered") (fdOf K (He.ga K "ordered")) p_ordered (spOrdered K cap d) := by
  refine FunD.ok T.d_ordered sc_ordered (fun vs H Q E h => ?_) (fun cdv A outer s H vs Q E hr h => ?_)
  · obtain ⟨p, xs, rows, rfl, _⟩ := h
    rfl
  · obtain ⟨p, xs, rows, rfl, hp, hrows, hl, q⟩ := h
    refine ⟨_, PSs.nox ((pss_cons (ps_set (i := 1) sc_ordered.nd rfl (Or.inl rfl) (pe_lst pa_nil))
    (pss_cons (ps_for PassesOwn.never rfl (pi_list (pv 0)) (pg_tup rfl (pgs_cons (pg_name (i := 2) sc_ordered.nd rfl (Or.inl rfl) (hf := by first | exact Or.inl rfl | exact Or.inr rfl)) (pgs_cons (pg_name (i := 3) sc_ordered.nd rfl (Or.inl rfl) (hf := by first | exact Or.inl rfl | exact Or.inr rfl)) pgs_nil)))
      (pss_cons (ps_set (i := 4) sc_ordered.nd rfl (Or.inl rfl) pe_int)
        (pss_cons (ps_while PassesOwn.never (PW.pt (pw_and (pt_cmpR op_lt (pv 4) (pe_callB call_lenN (by rfl) T.f_len (by decide +kernel) (pa_cons (pv 1) pa_nil)) (nomark _)) (pw_and1 (pt_val (pe_meth (pe_ix ix_seq (pe_ix ix_list (pv 1) (pv 4) (fun _ _ => rfl)) pe_int (fun _ _ => rfl)) T.k_Tower T.m_Tower_above G_Tower_above hr (b_Tower_above T) .nil pass0 (pa_cons (pv 3) pa_nil))))))
          (pss_one (ps_set (i := 4) sc_ordered.nd rfl (Or.inl rfl) (pe_op op_add (pv 4) pe_int))))
        (pss_one (ps_expr (pe_bm PySem.F.plainAttrs_list PySem.F.slot_list_insert PySem.F.type_list_insert mt_insert (pv 1) (pa_cons (pv 4) (pa_cons (pe_tup (pa_cons (pv 2) (pa_cons (pv 3) pa_nil))) pa_nil))))))))
    (pss_one (ps_ret (pv 1)))))), ?_⟩
    show tSeq _ _ _ [some (V.ref p), none, none, none, none] H
    walk_at "K"
    walk_at "go"
    intro f hf
    have hp1 := (Ex.new (o := .lst []) hf).lst hp
    walk_at "go"
    refine for_it walk_list (fun i σ H' => (∃ c e a, σ = [some (V.ref p), some (V.ref f), c, e, a]) ∧ Ex H H' ∧ ∃ ys rf, H' f = some (.lst ys) ∧ RowsV K cap (hide H' f) d ys rf ∧ Desc rf ∧ rf.Perm (rows.take i)) ?_ (fun i σ H' _ h => h.2.1.lst hp) ?_ ?_
    · exact ⟨⟨none, none, none, rfl⟩, Ex.new hf, [], [], upd_same, .nil, List.Pairwise.nil, List.Perm.nil⟩
    · rintro i x σ H1 H1' hi ⟨⟨c0, e0, a0, rfl⟩, x1, ys, rf, hys, hrf, hd, hpm⟩ ⟨rfl, hx⟩
      obtain ⟨⟨cc, ee⟩, hq, t, r, rfl, kt, kr⟩ := prd_get hrows hx
      have kt1 : SqT K H1' t [.int cc, .ref r] := x1.tup kt
      have hlen := prd_len hrf
      have hpl := hpm.length_eq
      rw [List.length_take] at hpl
      walk_at "go"
      refine r_whileP (fun σ' H' => ∃ at_ : Nat, σ' = [some (V.ref p), some (V.ref f), some (V.int cc), some (V.ref r), some (V.int (at_ : Nat))] ∧ Ex H1' H' ∧ at_ ≤ ys.length ∧ (∀ j q, j < at_ → rf[j]? = some q → ee < q.2) ∧ (∀ q, rf[at_]? = some q → q.2 ≤ ee)) ?_ ?_
      · rintro σ' H2 ⟨n, rfl, x2, hn, h1, h2⟩
        have hys2 := x2 _ _ hys
        walk_at "go"
        intro t2 ht2
        have hys3 : (L2.upd H2 t2 (.tup [.int cc, .ref r])) f = some (.lst ys) := (upd_ne (ne_of_none hys2 ht2)).trans hys2
        walk_at "go"
        refine ⟨_, _, _, _, rfl, rfl, hys3, Nat.lt_of_lt_of_le (show ys.length < 10000 by omega) (by decide), (by omega), (by omega), ?_⟩
        have tf : t2 ≠ f := Ne.symm (ne_of_none hys2 ht2)
        refine ⟨⟨_, _, _, rfl⟩, ?_, _, rf.take n ++ [(cc, ee)] ++ rf.drop n, upd_same, ?_, desc_ins hd h1 h2, perm_ins hpm hq⟩
        · exact ((x1.trans x2).trans (Ex.new ht2)).mut hf
        · rw [hide_upd]
          have xh : Ex (hide H1' f) (hide (L2.upd H2 t2 (.tup [.int cc, .ref r])) f) := (x2.trans (Ex.new ht2)).hides f
          have hr2 := hrf.ex xh
          have xk : Ex H (hide (L2.upd H2 t2 (.tup [.int cc, .ref r])) f) := ((x1.trans x2).trans (Ex.new ht2)).hideN hf
          refine prd_append (prd_append (prd_take hr2) (.cons ⟨t2, r, rfl, ?_, kr.ex xk⟩ .nil)) (prd_drop hr2)
          exact SqT.of ((hide_ne tf).trans upd_same)
      · intro N hN
        refine while_it (fun m σ H2 => ∃ n : Nat, σ = [some (V.ref p), some (V.ref f), some (V.int cc), some (V.ref r), some (V.int (n : Nat))] ∧ Ex H1' H2 ∧ n ≤ ys.length ∧ m = ys.length - n ∧ ∀ j q, j < n → rf[j]? = some q → ee < q.2) (m0 := ys.length) ⟨0, rfl, Ex.refl _, by omega, by omega, fun j q h => by omega⟩ ?_
        rintro m σ H2 ⟨n, rfl, x2, hn, rfl, h1⟩
        have hys2 := x2 _ _ hys
        walk_at "go"
        refine r_if2 (fun e => ?_) (fun e => ?_)
        · have hlt : n < ys.length := by
            have := of_decide_eq_true e
            omega
          obtain ⟨⟨c1, e1⟩, hq1, t1, r1, ey, kt1', kr1⟩ := prd_get (i := n) hrf (List.getElem?_eq_getElem hlt)
          have xh : Ex (hide H1' f) H2 := (Ex.hide H1' f).trans x2
          have kt2 : SqT K H2 t1 [.int c1, .ref r1] := xh.tup kt1'
          obtain ⟨dx, l0, p0, s0, hi1⟩ := kr1.ins'
          have hi2 := xh _ _ hi1
          walk_at "go"
          refine r_ixL (SqL.of hys2) (atI_nat ((List.getElem?_eq_getElem hlt).trans (congrArg some ey))) ?_
          walk_at "go"
          refine ⟨r1, .ref r, cap, cap, _, _, rfl, kr1.ex xh, .inl ⟨r, rfl, kr.ex (x1.trans x2)⟩, cap_lim, cap_lim, fun H3 x3 => ?_⟩
          walk_at "go"
          refine r_if2 (fun e2 => ?_) (fun e2 => ?_)
          · have hgt : ((ee : Nat) : Int) < (e1 : Nat) := of_decide_eq_true e2
            refine r_turn ?_
            walk_at "go"
            refine ⟨ys.length - (n + 1), by omega, n + 1, rfl, x2.trans x3, by omega, rfl, fun j q hj hjq => ?_⟩
            rcases Nat.lt_or_ge j n with z | z
            · exact h1 j q z hjq
            · have : j = n := by omega
              subst this
              rw [hq1] at hjq
              injection hjq with hjq
              subst hjq
              show ee < e1
              omega
          · have hle : ¬ ((ee : Nat) : Int) < (e1 : Nat) := of_decide_eq_false e2
            refine hN _ _ ⟨n, rfl, x2.trans x3, hn, h1, fun q hq => ?_⟩
            rw [hq1] at hq
            injection hq with hq
            subst hq
            show e1 ≤ ee
            omega
        · have hge : ¬ ((n : Nat) : Int) < ((ys.length : Nat) : Int) := of_decide_eq_false e
          walk_at "go"
          refine hN _ _ ⟨n, rfl, x2, hn, h1, fun q hq => ?_⟩
          have := (List.getElem?_eq_some_iff.mp hq).1
          omega
    · rintro σ H' ⟨⟨c, e, a, rfl⟩, x1, ys, rf, hys, hrf, hd, hpm⟩
      walk_at "go"
      have e1 : rows.take xs.length = rows := by rw [prd_len hrows, List.take_length]
      rw [e1] at hpm
      exact q f H' ys rf x1 hys (hrf.ex (Ex.hide H' f)) hd hpm
end
end PW
/-! ### gathered -/
namespace PW
open PySem PySem.Spec PyProof.Rows L2
theorem SqT.hideL {K : PySem.W.Frag} {H : Hp} {A p : Addr} {zs xs : List V} (hA : H A = some (.lst zs)) (h : SqT K H p xs) : SqT K (PW.hide H A) p xs := by
  have ne : ∀ o, H p = some o → o ≠ .lst zs → p ≠ A := fun o e n e2 => by
    subst e2
    rw [e] at hA
    injection hA with hA
    exact n hA
  rcases h with (h | ⟨o, h⟩) | h
  · exact .inl (.inl ((hide_ne (ne _ h (by intro z; cases z))).trans h))
  · exact .inl (.inr ⟨o, (hide_ne (ne _ h (by intro z; cases z))).trans h⟩)
  · exact .inr h
theorem IsT.hideL {K : PySem.W.Frag} {H : Hp} {A : Addr} {zs : List V} (hA : H A = some (.lst zs)) : ∀ {d : Nat} {S : Sz} {a : Addr} {v : Int}, IsT K cap H d S a v → IsT K cap (PW.hide H A) d S a v
  | 0, _, _, _, h => h.elim
  | d + 1, S, a, v, h => by
    obtain ⟨dx, low, p, share, xs, rows, h1, h2, h3, h4⟩ := h
    have n1 : a ≠ A := ne_of h1 hA (by intro z; cases z)
    refine ⟨dx, low, p, share, xs, rows, (hide_ne n1).trans h1, SqT.hideL hA h2, L2.Paired.mapP h3 fun y q hq => ?_, h4⟩
    obtain ⟨t, r, e, k1, k2⟩ := hq
    exact ⟨t, r, e, SqT.hideL hA k1, IsT.hideL hA k2⟩
theorem RowsV.hideL {K : PySem.W.Frag} {H : Hp} {A : Addr} {zs : List V} (hA : H A = some (.lst zs)) {d : Nat} {xs : List V} {rows : Rw} (h : RowsV K cap H d xs rows) : RowsV K cap (PW.hide H A) d xs rows :=
  L2.Paired.mapP h fun _ _ hq => by
    obtain ⟨t, r, e, k1, k2⟩ := hq
    exact ⟨t, r, e, SqT.hideL hA k1, k2.hideL hA⟩
theorem prd_snoc {α β : Type} {F : α → β → Prop} : ∀ {xs : List α} {ys : List β}, Paired F xs ys → xs ≠ [] → ∃ xs' x ys' y, xs = xs' ++ [x] ∧ ys = ys' ++ [y] ∧ Paired F xs' ys' ∧ F x y
  | _, _, .nil, h => absurd rfl h
  | _, _, .cons (a := a) (b := b) r .nil, _ => ⟨[], a, [], b, rfl, rfl, .nil, r⟩
  | _, _, .cons (a := a) (b := b) r (.cons r2 t), _ => by
    obtain ⟨xs', x, ys', y, e1, e2, e3, e4⟩ := prd_snoc (.cons r2 t) (List.cons_ne_nil _ _)
    exact ⟨a :: xs', x, b :: ys', y, by rw [e1]; rfl, by rw [e2]; rfl, .cons r e3, e4⟩
theorem drop_cons {α : Type} {xs : List α} {i : Nat} {x : α} (h : xs[i]? = some x) : xs.drop i = x :: xs.drop (i + 1) := by
  obtain ⟨hl, e⟩ := List.getElem?_eq_some_iff.mp h
  rw [List.drop_eq_getElem_cons hl, e]
/-- what is gathered so far (ap, the greatest last), and what is left -/
structure GI (Z N : Nat) (tot : Int) (ap : Rw) (lo : Int) (rest : Rw) : Prop where
  far : Far ap.reverse lo
  sum : sumR ap + lo + sumR rest = tot
  wt : wtR ap + bt lo + wtR rest ≤ Z
  len : ap.length + rest.length ≤ N
  le : ∀ q ∈ ap, ∀ q' ∈ rest, q.2 ≤ q'.2
  ord : rest.Pairwise fun a b => a.2 ≤ b.2
  nz : ∀ q ∈ rest, q.1 ≠ 0
theorem GI.low {Z N : Nat} {tot : Int} {lo c : Int} {e : Nat} {rest : Rw} (g : GI Z N tot [] lo ((c, e) :: rest)) (h : e ≤ bt lo + 256) : GI Z N tot [] (lo + c * 2 ^ e) rest := by
  have h1 := g.sum
  have h2 := g.wt
  have h3 := g.len
  have h4 := low_wt (c := c) (low := lo) h
  refine ⟨trivial, ?_, ?_, ?_, (fun _ z => nomatch z), (List.pairwise_cons.mp g.ord).2, fun q hq => g.nz q (List.mem_cons_of_mem _ hq)⟩
  · have h5 : sumR ([] : Rw) + lo + (c * 2 ^ e + sumR rest) = tot := h1
    omega
  · have h5 : wtR ([] : Rw) + bt lo + (bt c + 265 + wtR rest) ≤ Z := h2
    omega
  · have h5 : ([] : Rw).length + (rest.length + 1) ≤ N := h3
    omega
theorem GI.push {Z N : Nat} {tot : Int} {lo c : Int} {e : Nat} {ap rest : Rw} (g : GI Z N tot ap lo ((c, e) :: rest)) (h : limR ap.reverse lo < e) : GI Z N tot (ap ++ [(c, e)]) lo rest := by
  have h1 := g.sum
  have h2 := g.wt
  have h3 := g.len
  have ho := List.pairwise_cons.mp g.ord
  refine ⟨?_, ?_, ?_, ?_, ?_, ho.2, fun q hq => g.nz q (List.mem_cons_of_mem _ hq)⟩
  · rw [List.reverse_append]
    exact ⟨g.nz (c, e) (List.mem_cons_self ..), h, g.far⟩
  · rw [sumR_append]
    have h5 : sumR ap + lo + (c * 2 ^ e + sumR rest) = tot := h1
    show sumR ap + (c * 2 ^ e + 0) + lo + sumR rest = tot
    omega
  · rw [wtR_append]
    have h5 : wtR ap + bt lo + (bt c + 265 + wtR rest) ≤ Z := h2
    show wtR ap + (bt c + 265 + 0) + bt lo + wtR rest ≤ Z
    omega
  · have h5 : ap.length + (rest.length + 1) ≤ N := h3
    rw [List.length_append]
    show ap.length + 1 + rest.length ≤ N
    omega
  · intro q hq q' hq'
    rcases List.mem_append.mp hq with hq | hq
    · exact g.le q hq q' (List.mem_cons_of_mem _ hq')
    · rw [List.mem_singleton] at hq
      subst hq
      exact ho.1 q' hq'
theorem GI.merge {Z N : Nat} {tot : Int} {lo c f : Int} {l g : Nat} {ap rest : Rw} (q : GI Z N tot (ap ++ [(f, l)]) lo ((c, l + g) :: rest)) (h : g ≤ bt f + 8) (hf : f + c * 2 ^ g ≠ 0) : GI Z N tot (ap ++ [(f + c * 2 ^ g, l)]) lo rest := by
  have h0 := q.far
  have h1 := q.sum
  have h2 := q.wt
  have h3 := q.len
  have h4 := put_wt (c := c) (f := f) h
  have h6 := put_sum (c := c) (f := f) (g := g) (l := l)
  have ho := List.pairwise_cons.mp q.ord
  rw [List.reverse_append] at h0
  rw [sumR_append] at h1
  rw [wtR_append] at h2
  rw [List.length_append] at h3
  refine ⟨?_, ?_, ?_, ?_, ?_, ho.2, fun z hz => q.nz z (List.mem_cons_of_mem _ hz)⟩
  · rw [List.reverse_append]
    exact far_put hf h0
  · rw [sumR_append]
    have h5 : sumR ap + (f * 2 ^ l + 0) + lo + (c * 2 ^ (l + g) + sumR rest) = tot := h1
    show sumR ap + ((f + c * 2 ^ g) * 2 ^ l + 0) + lo + sumR rest = tot
    rw [h6]
    omega
  · rw [wtR_append]
    have h5 : wtR ap + (bt f + 265 + 0) + bt lo + (bt c + 265 + wtR rest) ≤ Z := h2
    show wtR ap + (bt (f + c * 2 ^ g) + 265 + 0) + bt lo + wtR rest ≤ Z
    omega
  · rw [List.length_append]
    have h5 : ap.length + 1 + (rest.length + 1) ≤ N := h3
    show ap.length + 1 + rest.length ≤ N
    omega
  · intro z hz z' hz'
    rcases List.mem_append.mp hz with hz | hz
    · exact q.le z (List.mem_append_left _ hz) z' (List.mem_cons_of_mem _ hz')
    · rw [List.mem_singleton] at hz
      subst hz
      exact q.le (f, l) (List.mem_append_right _ (List.mem_singleton.mpr rfl)) z' (List.mem_cons_of_mem _ hz')
theorem far_tail {q : Int × Nat} : ∀ {r : Rw} {low : Int}, Far (q :: r) low → Far r low
  | _, _, h => h.2.2
theorem GI.gone {Z N : Nat} {tot : Int} {lo c f : Int} {l g : Nat} {ap rest : Rw} (q : GI Z N tot (ap ++ [(f, l)]) lo ((c, l + g) :: rest)) (hf : f + c * 2 ^ g = 0) : GI Z N tot ap lo rest := by
  have h0 := q.far
  have h1 := q.sum
  have h2 := q.wt
  have h3 := q.len
  have h6 := put_sum (c := c) (f := f) (g := g) (l := l)
  rw [hf, Int.zero_mul] at h6
  have ho := List.pairwise_cons.mp q.ord
  rw [List.reverse_append] at h0
  rw [sumR_append] at h1
  rw [wtR_append] at h2
  rw [List.length_append] at h3
  refine ⟨far_tail h0, ?_, ?_, ?_, fun z hz z' hz' => q.le z (List.mem_append_left _ hz) z' (List.mem_cons_of_mem _ hz'), ho.2, fun z hz => q.nz z (List.mem_cons_of_mem _ hz)⟩
  · have h5 : sumR ap + (f * 2 ^ l + 0) + lo + (c * 2 ^ (l + g) + sumR rest) = tot := h1
    omega
  · have h5 : wtR ap + (bt f + 265 + 0) + bt lo + (bt c + 265 + wtR rest) ≤ Z := h2
    omega
  · have h5 : ap.length + 1 + (rest.length + 1) ≤ N := h3
    omega
def spGathered (K : PySem.W.Frag) (cap : Sz) (d : Nat) : Sp := fun vs H Q _ => ∃ p lo xs rows, vs = [.ref p, .int lo] ∧ SqL K H p xs ∧ RowsV K cap H d xs rows ∧ rows.length ≤ 2400 ∧ (∀ q ∈ rows, q.1 ≠ 0) ∧ wtR rows + bt lo ≤ 20000000 ∧
  ∀ r H' A ys ap lo', Ex H H' → SqT K H' r [.ref A, .int lo'] → SqL K H' A ys → RowsV K cap H' d ys ap → Far ap lo' → sumR ap + lo' = sumR rows + lo → wtR ap + bt lo' ≤ wtR rows + bt lo → ap.length ≤ rows.length → Q (.ref r) H'
theorem sumR_perm {a b : Rw} (h : a.Perm b) : sumR a = sumR b := by
  induction h with
  | nil => rfl
  | cons x _ ih =>
    show x.1 * 2 ^ x.2 + sumR _ = x.1 * 2 ^ x.2 + sumR _
    rw [ih]
  | swap x y l =>
    show y.1 * 2 ^ y.2 + (x.1 * 2 ^ x.2 + sumR l) = x.1 * 2 ^ x.2 + (y.1 * 2 ^ y.2 + sumR l)
    omega
  | trans _ _ i1 i2 => exact i1.trans i2
theorem wtR_perm {a b : Rw} (h : a.Perm b) : wtR a = wtR b := by
  induction h with
  | nil => rfl
  | cons x _ ih =>
    show bt x.1 + 265 + wtR _ = bt x.1 + 265 + wtR _
    rw [ih]
  | swap x y l =>
    show bt y.1 + 265 + (bt x.1 + 265 + wtR l) = bt x.1 + 265 + (bt y.1 + 265 + wtR l)
    omega
  | trans _ _ i1 i2 => exact i1.trans i2
theorem smallV_nat (e : Nat) : smallV (e : Int) = if e < 2 ^ 64 then .int e else .non := by
  unfold smallV
  rw [Int.natAbs_natCast]
theorem wt_mem {q : Int × Nat} : ∀ {rows : Rw}, q ∈ rows → bt q.1 + 265 ≤ wtR rows
  | [], h => nomatch h
  | z :: r, h => by
    show bt q.1 + 265 ≤ bt z.1 + 265 + wtR r
    rcases List.mem_cons.mp h with rfl | h
    · omega
    · have := wt_mem h
      omega
theorem cm_row {c : Int} {e : Nat} (h1 : bt c ≤ 30000000) (h2 : e ≤ 30000000) : CMulX c (2 ^ e) :=
  mulx_ok (a := bt c) (b := e + 1) (bt_self c) (by rw [two_nat]; exact Nat.pow_lt_pow_right (by decide) (by omega)) (by omega)
end PW
namespace PW
open PySem PySem.Spec PyProof.Rows L2
section
variable {P : Program} {w : World} {K : PySem.W.Frag} {mg : Str → Option Value} {base : Heap}
/-- an op of two numbers asks -/
theorem rOwn_num {C a : Addr} {y : V} {d : Nat} {S S2 : Sz} {v u : Int} {sp : Sp} {E : XK} {H : Hp} {Q : VK} (hC : C = TwC K) (ha : IsT K cap H d S a v) (hy : NumV K cap H d S2 y u) (q : sp [.ref a, y] H Q E) : rOwnB C sp E (.ref a) y H Q := by
  subst hC
  obtain ⟨dx, fs, h⟩ := ha.ins
  refine ⟨a, dx, fs, rfl, h, ?_, q⟩
  rcases hy with ⟨b, rfl, hb⟩ | ⟨rfl, _⟩
  · obtain ⟨dy, gs, h2⟩ := hb.ins
    exact .inr ⟨b, dy, gs, rfl, h2⟩
  · exact .inl ⟨u, rfl⟩
theorem ok_gathered {k d : Nat} {cap : Sz} (cap_lim : cap.Le LIM) (T : Txt K mg)
    (G_ordered : FnOk P w K mg base CX0 k (He.ga K "ordered") (fdOf K (He.ga K "ordered")) p_ordered (spOrdered K cap d))
    (G_bits : FnOk P w K mg base CX0 k (He.ga K "bits") (fdOf K (He.ga K "bits")) p_bits spBits)
    (G_doubled : FnOk P w K mg base CX0 k (He.ga K "doubled") (fdOf K (He.ga K "doubled")) p_doubled spDoubled)
    (G_Tower_small : FnOk P w K mg base CX0 k (He.ma K (He.ga K "Tower") "small") (fdOf K (He.fAd K ("Tower", some "small"))) p_Tower_small (spSmall K))
    (G_Tower___sub__ : FnOk P w K mg base CX0 k (He.ma K (He.ga K "Tower") "__sub__") (fdOf K (He.fAd K ("Tower", some "__sub__"))) p_Tower___sub__ (spSub K cap d)) :
    FnOk P w K mg base CX0 (k + 1) (He.ga K "gathered") (fdOf K (He.ga K "gathered")) p_gathered (spGathered K cap d) := by
  refine FunD.ok T.d_gathered sc_gathered (fun vs H Q E h => ?_) (fun cdv A outer s H vs Q E hr h => ?_)
  · obtain ⟨p, lo, xs, rows, rfl, _⟩ := h
    rfl
  · obtain ⟨p, lo, xs, rows, rfl, hp, hrows, hl, hnz, hwt, q⟩ := h
    refine ⟨_, PSs.nox ((pss_cons (ps_set (i := 2) sc_gathered.nd rfl (Or.inl rfl) (pe_lst pa_nil))
    (pss_cons (ps_for PassesOwn.never rfl (pi_list (pe_revL (pe_call G_ordered hr rfl T.g_ordered T.d_ordered.kp (b_ordered T) .nil pass0 (pa_cons (pv 0) pa_nil)))) (pg_tup rfl (pgs_cons (pg_name (i := 3) sc_gathered.nd rfl (Or.inl rfl) (hf := by first | exact Or.inl rfl | exact Or.inr rfl)) (pgs_cons (pg_name (i := 4) sc_gathered.nd rfl (Or.inl rfl) (hf := by first | exact Or.inl rfl | exact Or.inr rfl)) pgs_nil)))
      (pss_cons (ps_if (pt_cmpR (PW.op_eqE hr.units0) (pv 2) (pe_lst pa_nil) (nomark _))
          (pss_cons (ps_set (i := 5) sc_gathered.nd rfl (Or.inl rfl) (pe_meth0 (pv 4) T.k_Tower T.m_Tower_small G_Tower_small hr (b_Tower_small T) .nil pass0))
            (pss_cons (ps_if (PW.pt (pw_and (pt_cmp (pc_notN (pv 5)) rfl) (pw_and1 (pt_cmpR op_le (pv 5) (pe_op op_add (pe_call G_bits hr rfl T.g_bits T.d_bits.kp (b_bits T) .nil pass0 (pa_cons (pv 1) pa_nil)) (pe_gint rfl T.c_PLAIN)) (nomark _)))))
              (pss_one (ps_set (i := 1) sc_gathered.nd rfl (Or.inl rfl) (pe_op op_add (pv 1) (pe_op op_mulX (pv 3) (pe_call G_doubled hr rfl T.g_doubled T.d_doubled.kp (b_doubled T) .nil pass0 (pa_cons (pv 5) pa_nil))))))
              (pss_one (ps_expr (pe_bm PySem.F.plainAttrs_list PySem.F.slot_list_append PySem.F.type_list_append mt_append (pv 2) (pa_cons (pe_tup (pa_cons (pv 3) (pa_cons (pv 4) pa_nil))) pa_nil)))))
            (pss_one ps_continue)))
          pss_nil)
        (pss_cons (ps_asg (pe_ix ix_list (pv 2) (pe_un un_neg pe_int) (fun _ _ => rfl)) (pg_tup rfl (pgs_cons (pg_name (i := 6) sc_gathered.nd rfl (Or.inl rfl) (hf := by first | exact Or.inl rfl | exact Or.inr rfl)) (pgs_cons (pg_name (i := 7) sc_gathered.nd rfl (Or.inl rfl) (hf := by first | exact Or.inl rfl | exact Or.inr rfl)) pgs_nil))))
        (pss_cons (ps_set (i := 5) sc_gathered.nd rfl (Or.inl rfl) (pe_meth0 (pe_op (PW.op_ownB T.o_Tower___sub__ G_Tower___sub__ hr (b_Tower___sub__ T) pass0) (pv 4) (pv 7)) T.k_Tower T.m_Tower_small G_Tower_small hr (b_Tower_small T) .nil pass0))
        (pss_cons (ps_if (PW.pt (pw_or (pt_cmp (pc_isN (pv 5)) rfl) (pw_or1 (pt_cmpR op_gt (pv 5) (pe_op op_add (pe_call G_bits hr rfl T.g_bits T.d_bits.kp (b_bits T) .nil pass0 (pa_cons (pv 6) pa_nil)) pe_int) (nomark _)))))
          (pss_cons (ps_expr (pe_bm PySem.F.plainAttrs_list PySem.F.slot_list_append PySem.F.type_list_append mt_append (pv 2) (pa_cons (pe_tup (pa_cons (pv 3) (pa_cons (pv 4) pa_nil))) pa_nil)))
            (pss_one ps_continue))
          pss_nil)
        (pss_cons (ps_set (i := 6) sc_gathered.nd rfl (Or.inl rfl) (pe_op op_add (pv 6) (pe_op op_mulX (pv 3) (pe_call G_doubled hr rfl T.g_doubled T.d_doubled.kp (b_doubled T) .nil pass0 (pa_cons (pv 5) pa_nil)))))
        (pss_cons (ps_expr (pe_bm0 PySem.F.plainAttrs_list PySem.F.slot_list_pop PySem.F.type_list_pop mt_pop (pv 2)))
        (pss_one (ps_if (pt_cmpR op_ne (pv 6) pe_int (nomark _))
          (pss_one (ps_expr (pe_bm PySem.F.plainAttrs_list PySem.F.slot_list_append PySem.F.type_list_append mt_append (pv 2) (pa_cons (pe_tup (pa_cons (pv 6) (pa_cons (pv 7) pa_nil))) pa_nil))))
          pss_nil)))))))))
    (pss_one (ps_ret (pe_tup (pa_cons (pe_revL (pv 2)) (pa_cons (pv 1) pa_nil)))))))), ?_⟩
    show tSeq _ _ _ [some (V.ref p), some (V.int lo), none, none, none, none, none, none] H
    walk_at "K"
    walk_at "go"
    intro A hA
    walk_at "go"
    refine ⟨p, xs, rows, rfl, (Ex.new hA).lst hp, hrows.ex (Ex.new hA), hl, fun r0 H2 ys rf x2 hr0 hrf hdesc hperm => ?_⟩
    have xA : Ex H H2 := (Ex.new hA).trans x2
    have hA2 : H2 A = some (.lst []) := x2 _ _ upd_same
    walk_at "go"
    intro L hL
    walk_at "go"
    have hAL : A ≠ L := ne_of_none hA2 hL
    have xB : Ex (PW.hide H2 A) (PW.hide (L2.upd H2 L (.lst ys.reverse)) A) := (Ex.new hL).hides A
    have hAB : (L2.upd H2 L (.lst ys.reverse)) A = some (.lst []) := (upd_ne hAL).trans hA2
    have hLB : PW.hide (L2.upd H2 L (.lst ys.reverse)) A L = some (.lst ys.reverse) := (hide_ne (Ne.symm hAL)).trans upd_same
    have hrB : RowsV K cap (PW.hide (L2.upd H2 L (.lst ys.reverse)) A) d ys.reverse rf.reverse := prd_rev ((hrf.hideL hA2).ex xB)
    have xH : Ex H (PW.hide (L2.upd H2 L (.lst ys.reverse)) A) := (xA.trans (Ex.new hL)).hideN hA
    generalize L2.upd H2 L (.lst ys.reverse) = Hb at hAB hLB hrB xH ⊢
    have hm : ∀ q, q ∈ rf.reverse ↔ q ∈ rows := fun q => by rw [List.mem_reverse]; exact hperm.mem_iff
    have g0 : GI (wtR rows + bt lo) rows.length (sumR rows + lo) [] lo rf.reverse := by
      refine ⟨trivial, ?_, ?_, ?_, (fun _ z => nomatch z), ?_, fun q hq => hnz q ((hm q).mp hq)⟩
      · rw [sumR_reverse, sumR_perm hperm]
        show (0 : Int) + lo + sumR rows = _
        omega
      · rw [wtR_reverse, wtR_perm hperm]
        show 0 + bt lo + wtR rows ≤ _
        omega
      · rw [List.length_reverse, hperm.length_eq]
        show 0 + rows.length ≤ _
        omega
      · exact List.pairwise_reverse.mpr hdesc
    have hlen : ys.reverse.length = rf.reverse.length := prd_len hrB
    generalize rf.reverse = asc at hrB g0 hm hlen
    clear hrf hdesc hperm hr0 xB x2 xA
    refine for_it (walk_list (xs := ys.reverse)) (fun i σ H' => (∃ (lo' : Int) (c e g f l : Option V), σ = [some (V.ref p), some (.int lo'), some (.ref A), c, e, g, f, l] ∧ Ex (PW.hide Hb A) (PW.hide H' A) ∧
      ∃ zs ap, H' A = some (.lst zs) ∧ RowsV K cap (PW.hide H' A) d zs ap ∧ GI (wtR rows + bt lo) rows.length (sumR rows + lo) ap lo' (asc.drop i))) ?_ (fun i σ H' _ h => ?_) ?_ ?_
    · exact ⟨lo, _, _, _, _, _, rfl, Ex.refl _, [], [], hAB, .nil, g0⟩
    · obtain ⟨_, _, _, _, _, _, _, x, _⟩ := h
      exact SqL.of (Ex.hide H' A _ _ (x _ _ hLB))
    · rintro i x σ H1 H1' hi ⟨lo', c0, e0, g0', f0, l0, rfl, x1, zs, ap, hz, hra, gi⟩ ⟨rfl, hx⟩
      obtain ⟨⟨cc, ee⟩, hq, t, r, rfl, kt, kr⟩ := prd_get hrB hx
      have xU : Ex (PW.hide Hb A) H1' := x1.trans (Ex.hide H1' A)
      have kt1 : SqT K H1' t [.int cc, .ref r] := xU.tup kt
      have kr1 := kr.ex xU
      obtain ⟨dx, fl, fp, fs, hri⟩ := kr1.ins'
      rw [drop_cons hq] at gi
      have gw := gi.wt
      have gw2 : wtR ap + bt lo' + (bt cc + 265 + wtR (asc.drop (i + 1))) ≤ wtR rows + bt lo := gw
      have gl := gi.len
      have gl2 : ap.length + ((asc.drop (i + 1)).length + 1) ≤ rows.length := gl
      have zl := prd_len hra
      have push : ∀ (H4 : Hp) (t2 : Addr) (g1 f1 l1 : Option V), Ex H1' H4 → H4 t2 = none → limR ap.reverse lo' < ee →
          ∃ (lo2 : Int) (c e g f l : Option V), [some (V.ref p), some (.int lo'), some (.ref A), some (.int cc), some (.ref r), g1, f1, l1] = [some (V.ref p), some (.int lo2), some (.ref A), c, e, g, f, l] ∧ Ex (PW.hide Hb A) (PW.hide (L2.upd (L2.upd H4 t2 (.tup [.int cc, .ref r])) A (.lst (zs ++ [.ref t2]))) A) ∧
      ∃ zs2 ap2, (L2.upd (L2.upd H4 t2 (.tup [.int cc, .ref r])) A (.lst (zs ++ [.ref t2]))) A = some (.lst zs2) ∧ RowsV K cap (PW.hide (L2.upd (L2.upd H4 t2 (.tup [.int cc, .ref r])) A (.lst (zs ++ [.ref t2]))) A) d zs2 ap2 ∧ GI (wtR rows + bt lo) rows.length (sumR rows + lo) ap2 lo2 (asc.drop (i + 1)) := by
        intro H4 t2 g1 f1 l1 x4 ht2 hlim
        have xx : Ex H1' (L2.upd H4 t2 (.tup [.int cc, .ref r])) := x4.trans (Ex.new ht2)
        have tA : t2 ≠ A := Ne.symm (ne_of_none (x4 _ _ hz) ht2)
        refine ⟨lo', _, _, _, _, _, rfl, ?_, _, ap ++ [(cc, ee)], upd_same, ?_, gi.push hlim⟩
        · rw [hide_upd]
          exact x1.trans (xx.hides A)
        · rw [hide_upd]
          exact prd_append (hra.ex (xx.hides A)) (.cons ⟨t2, r, rfl, SqT.of ((hide_ne tA).trans upd_same), kr.ex (x1.trans (xx.hides A))⟩ .nil)
      walk_at "go"
      intro p0 hp0
      walk_at "go"
      by_cases hz0 : zs = []
      · subst hz0
        have ha0 : ap = [] := List.eq_nil_of_length_eq_zero (by rw [← zl]; rfl)
        subst ha0
        refine r_ifT' rfl ?_
        walk_at "go"
        refine ⟨cap, r, d, cap, _, rfl, kr1.ex (Ex.new hp0), fun H3 x3 => ?_⟩
        have x13 : Ex H1' H3 := (Ex.new hp0).trans x3
        rw [smallV_nat]
        have hA3 := x13 _ _ hz
        by_cases h64 : ee < 2 ^ 64
        · rw [if_pos h64]
          walk_at "go"
          refine ⟨lo', rfl, ?_⟩
          walk_at "go"
          refine r_if2 (fun e => ?_) (fun e => ?_)
          · have hle : ((ee : Nat) : Int) ≤ (bt lo' : Nat) + 256 := of_decide_eq_true e
            have cm : CMulX cc (2 ^ ee) := cm_row (by omega) (by omega)
            walk_at "go"
            refine ⟨ee, rfl, by omega, ?_⟩
            walk_at "go"
            exact ⟨_, _, _, _, _, _, rfl, x1.trans (x13.hides A), [], [], hA3, .nil, gi.low (by omega)⟩
          · have hgt : ¬ ((ee : Nat) : Int) ≤ (bt lo' : Nat) + 256 := of_decide_eq_false e
            walk_at "go"
            intro t2 ht2
            walk_at "go"
            exact push H3 t2 _ _ _ x13 ht2 (by show bt lo' + 256 < ee; omega)
        · rw [if_neg h64]
          walk_at "go"
          intro t2 ht2
          walk_at "go"
          exact push H3 t2 _ _ _ x13 ht2 (by show bt lo' + 256 < ee; omega)
      · obtain ⟨zs', z, ap', ⟨f, l⟩, rfl, rfl, hra', t1, r1, rfl, kt', kr'⟩ := prd_snoc hra hz0
        have e0 : (zs' ++ [V.ref t1]).isEmpty = false := by simp
        rw [e0]
        walk_at "go"
        have hle : l ≤ ee := gi.le (f, l) (List.mem_append_right _ (List.mem_singleton.mpr rfl)) (cc, ee) (List.mem_cons_self ..)
        obtain ⟨g, rfl⟩ : ∃ g, ee = l + g := ⟨ee - l, by omega⟩
        have hzl : (zs' ++ [V.ref t1]).length = zs'.length + 1 := by rw [List.length_append]; rfl
        have hal : (ap' ++ [(f, l)]).length = ap'.length + 1 := by rw [List.length_append]; rfl
        have hwf : wtR (ap' ++ [(f, l)]) = wtR ap' + (bt f + 265 + 0) := wtR_append _ _
        have hlr : limR (ap' ++ [(f, l)]).reverse lo' = l + bt f + 8 := by rw [List.reverse_append]; rfl
        have x0 : Ex H1' (L2.upd H1' p0 (.lst [])) := Ex.new hp0
        have hA0 := x0 _ _ hz
        have kt2 : SqT K (L2.upd H1' p0 (.lst [])) t1 [.int f, .ref r1] := ((Ex.hide H1' A).trans x0).tup kt'
        have kr2 := kr'.ex ((Ex.hide H1' A).trans x0)
        refine r_ixL (SqL.of hA0) (atI_last _ _) ?_
        walk_at "go"
        refine rOwn_num rfl (kr1.ex x0) (.inl ⟨r1, rfl, kr2⟩) ?_
        refine ⟨r, .ref r1, cap, cap, _, _, rfl, kr1.ex x0, .inl ⟨r1, rfl, kr2⟩, cap_lim, cap_lim, fun r3 H3 x3 k3 => ?_⟩
        obtain ⟨dx3, fl3, fp3, fs3, hri3⟩ := k3.ins'
        walk_at "go"
        refine ⟨cap, r3, d, _, _, rfl, k3, fun H4 x4 => ?_⟩
        have x14 : Ex H1' H4 := (x0.trans x3).trans x4
        have hA4 := x14 _ _ hz
        have eg : ((l + g : Nat) : Int) - (l : Nat) = (g : Nat) := by omega
        rw [eg, smallV_nat]
        have hl4 : (zs' ++ [V.ref t1]).length < sizeLine := Nat.lt_of_lt_of_le (show (zs' ++ [V.ref t1]).length < 10000 by omega) (by decide)
        by_cases h64 : g < 2 ^ 64
        · rw [if_pos h64]
          walk_at "go"
          refine ⟨f, rfl, ?_⟩
          walk_at "go"
          refine r_if2 (fun e => ?_) (fun e => ?_)
          · have hgt := of_decide_eq_true e
            walk_at "go"
            intro t2 ht2
            have hA5 : (L2.upd H4 t2 (.tup [.int cc, .ref r])) A = some (.lst (zs' ++ [V.ref t1])) := (upd_ne (ne_of_none hA4 ht2)).trans hA4
            walk_at "go"
            refine r_append hA5 hl4 ?_
            walk_at "go"
            exact push H4 t2 _ _ _ x14 ht2 (by rw [hlr]; omega)
          · have hgt := of_decide_eq_false e
            have cm : CMulX cc (2 ^ g) := cm_row (by omega) (by omega)
            walk_at "go"
            refine ⟨g, rfl, by omega, ?_⟩
            walk_at "go"
            refine r_pop (y := .ref t1) hA4 (by rw [hzl]; simp) ?_
            rw [List.dropLast_concat]
            walk_at "go"
            refine r_if2 (fun e => ?_) (fun e => ?_)
            · have hf0 : f + cc * 2 ^ g ≠ 0 := fun z => by
                rw [z] at e
                exact absurd e (by decide)
              walk_at "go"
              intro t2 ht2
              have hA6 : (L2.upd (L2.upd H4 A (.lst zs')) t2 (.tup [.int (f + cc * 2 ^ g), .ref r1])) A = some (.lst zs') := (upd_ne (ne_of_none upd_same ht2)).trans upd_same
              have hl6 : zs'.length < sizeLine := Nat.lt_of_lt_of_le (show zs'.length < 10000 by omega) (by decide)
              walk_at "go"
              refine r_append hA6 hl6 ?_
              walk_at "go"
              have tA : t2 ≠ A := Ne.symm (ne_of_none upd_same ht2)
              have ht3 : (PW.hide H4 A) t2 = none := by
                rw [upd_ne tA] at ht2
                exact (hide_ne tA).trans ht2
              have xx : Ex (PW.hide H1' A) (PW.hide (L2.upd (L2.upd H4 A (.lst zs')) t2 (.tup [.int (f + cc * 2 ^ g), .ref r1])) A) := by
                refine (x14.hides A).trans fun a o ha => ?_
                have na : a ≠ A := fun z => by
                  rw [z, hide_same] at ha
                  cases ha
                rw [hide_ne na, upd_ne (ne_of_none ha ht3), upd_ne na]
                rw [hide_ne na] at ha
                exact ha
              refine ⟨lo', _, _, _, _, _, rfl, ?_, _, ap' ++ [(f + cc * 2 ^ g, l)], upd_same, ?_, gi.merge (by omega) hf0⟩
              · rw [hide_upd]
                exact x1.trans xx
              · rw [hide_upd]
                exact prd_append (RowsV.ex xx hra') (.cons ⟨t2, r1, rfl, SqT.of ((hide_ne tA).trans upd_same), kr'.ex xx⟩ .nil)
            · have hf0 : f + cc * 2 ^ g = 0 := by
                have := of_decide_eq_true (show decide (V.int (f + cc * 2 ^ g) = V.int 0) = true by
                  rw [Bool.not_eq_false'] at e
                  exact e)
                exact V.int.inj this
              walk_at "go"
              refine ⟨lo', _, _, _, _, _, rfl, ?_, _, ap', upd_same, ?_, gi.gone hf0⟩
              · rw [hide_upd]
                exact x1.trans (x14.hides A)
              · rw [hide_upd]
                exact RowsV.ex (x14.hides A) hra'
        · rw [if_neg h64]
          walk_at "go"
          intro t2 ht2
          have hA5 : (L2.upd H4 t2 (.tup [.int cc, .ref r])) A = some (.lst (zs' ++ [V.ref t1])) := (upd_ne (ne_of_none hA4 ht2)).trans hA4
          walk_at "go"
          refine r_append hA5 hl4 ?_
          walk_at "go"
          exact push H4 t2 _ _ _ x14 ht2 (by rw [hlr]; omega)
    · rintro σ H' ⟨lo', c0, e0, g0', f0, l0, rfl, x1, zs, ap, hz, hra, gi⟩
      rw [hlen, List.drop_length] at gi
      walk_at "go"
      intro R hR
      walk_at "go"
      intro r hr'
      have x3 : Ex H' (L2.upd (L2.upd H' R (.lst zs.reverse)) r (.tup [.ref R, .int lo'])) := (Ex.new hR).trans (Ex.new hr')
      have xU : Ex H (L2.upd (L2.upd H' R (.lst zs.reverse)) r (.tup [.ref R, .int lo'])) := ((xH.trans x1).trans (Ex.hide H' A)).trans x3
      have g1 := gi.sum
      have g2 := gi.wt
      have g3 := gi.len
      refine q r _ R zs.reverse ap.reverse lo' xU (SqT.of upd_same) (SqL.of ((Ex.new hr') _ _ upd_same)) (prd_rev (hra.ex ((Ex.hide H' A).trans x3))) gi.far ?_ ?_ ?_
      · rw [sumR_reverse]
        have : sumR ap + lo' + 0 = sumR rows + lo := g1
        omega
      · rw [wtR_reverse]
        have : wtR ap + bt lo' + 0 ≤ wtR rows + bt lo := g2
        omega
      · rw [List.length_reverse]
        have : ap.length + 0 ≤ rows.length := g3
        omega
end
end PW
/-! ### settled -/
namespace PW
open PySem PySem.Spec PyProof.Rows L2
theorem lc_itW {J : It} {n : Nat} {G : Hp → Prop} {Y : Nat → Hp → V → Hp → Prop} (w : Walk J n G Y) {g : TG} {tt : TT} {te : L2.TE} {vs : List Nat} {σ σw : L2.St} {H1 : Hp} {D : Addr} {Qd : Hp → Prop} (hw : wipe σ vs = σw) (Pv : Nat → Hp → Prop) (h0 : Pv 0 (upd H1 D (.lst []))) (hG : ∀ i H, i ≤ n → Pv i H → G H)
    (hs : ∀ i x H H', i < n → Pv i H → Y i H x H' → g x σw H' fun σ2 H2 => wipe σ2 vs = σw ∧ tt σ2 H2 fun b H3 =>
      if b = true then te σ2 H3 fun y H4 => ∃ acc, H4 D = some (.lst acc) ∧ acc.length < sizeLine ∧ Pv (i + 1) (upd H4 D (.lst (acc ++ [y]))) else Pv (i + 1) H3) (hd : ∀ H, Pv n H → Qd H) : LcW J g tt te vs σ H1 D Qd := by
  subst hw
  exact lc_it w Pv h0 hG hs hd
theorem prd_of {α β : Type} {F : α → β → Prop} : ∀ {xs : List α} {ys : List β}, xs.length = ys.length → (∀ (i : Nat) x y, xs[i]? = some x → ys[i]? = some y → F x y) → Paired F xs ys
  | [], [], _, _ => .nil
  | [], _ :: _, h, _ => nomatch h
  | _ :: _, [], h, _ => nomatch h
  | x :: xs, y :: ys, h, f => .cons (f 0 x y rfl rfl) (prd_of (Nat.succ.inj h) fun i a b h1 h2 => f (i + 1) a b h1 h2)
theorem nz_snoc (a : Rw) (c : Int) (e : Nat) : nz (a ++ [(c, e)]) = nz a ++ (if c = 0 then [] else [(c, e)]) := by
  unfold nz
  rw [List.filter_append]
  by_cases h : c = 0
  · subst h
    rfl
  · rw [if_neg h]
    have : (List.filter (fun q : Int × Nat => q.1 != 0) [(c, e)]) = [(c, e)] := by
      rw [List.filter_cons, if_pos (by simpa using h)]
      rfl
    rw [this]
theorem take_snoc {α : Type} {xs : List α} {i : Nat} {x : α} (h : xs[i]? = some x) : xs.take (i + 1) = xs.take i ++ [x] := by
  rw [List.take_add_one, h]
  rfl
theorem nz_len (a : Rw) : (nz a).length ≤ a.length := List.length_filter_le _ _
theorem nz_ne {a : Rw} {q : Int × Nat} (h : q ∈ nz a) : q.1 ≠ 0 := by
  have := (List.mem_filter.mp h).2
  simpa using this
theorem log_share {g s : Int} {m : Nat} (h0 : 0 < g) (h : g ≤ s) (hs : s.toNat ≤ 2 ^ m) (hm : m ≤ 2400) : g.natAbs.log2 < 9000 := by
  have h2 : g.natAbs ≤ 2 ^ m := by omega
  have h3 : g.natAbs < 2 ^ 2401 := Nat.lt_of_le_of_lt h2 (Nat.pow_lt_pow_right (by decide) (by omega))
  exact Nat.lt_trans (PySem.Flt.log2_lt_of (by decide) h3) (by decide)
theorem far_le : ∀ {r : Rw} {c : Int} {e : Nat} {low : Int}, Far ((c, e) :: r) low → ∀ q ∈ (c, e) :: r, q.2 ≤ e
  | r, c, e, low, h, q, hq => by
    rcases List.mem_cons.mp hq with rfl | hq
    · exact Nat.le_refl _
    · cases r with
      | nil => cases hq
      | cons z r =>
        obtain ⟨c', e'⟩ := z
        have h1 : e' + bt c' + 8 < e := h.2.1
        have := far_le (r := r) (c := c') (e := e') h.2.2 q hq
        omega
theorem sum_int (a : Rw) : (a.map fun q => q.1 * 2 ^ q.2).sum = sumR a := by
  induction a with
  | nil => rfl
  | cons q r ih =>
    rw [List.map_cons, List.sum_cons, ih]
    rfl
def spSettled (K : PySem.W.Frag) (cap : Sz) (d : Nat) : Sp := fun vs H Q _ => ∃ p lo sh xs rows m v, vs = [.ref p, .int lo, .int sh] ∧ SqL K H p xs ∧ RowsV K cap H d xs rows ∧ rows.length ≤ 2400 ∧ wtR rows + bt lo ≤ 20000000 ∧ 0 < sh ∧ sh.toNat ≤ 2 ^ m ∧ m ≤ 2400 ∧ v * sh = sumR rows + lo ∧
  ∀ r H', Ex H H' → IsT K cap H' (d + 1) ⟨wtR rows + bt lo, rows.length, m⟩ r v → Q (.ref r) H'
theorem div_exact {v s a : Int} (hs : 0 < s) (h : v * s = a) : a / s = v := by
  rw [← h]
  exact Int.mul_ediv_cancel _ (by omega)
theorem toNat_le_div {s g : Int} {m : Nat} (hg : 0 < g) (h0 : 0 < s) (h : s.toNat ≤ 2 ^ m) : (s / g).toNat ≤ 2 ^ m := by
  have : s / g ≤ s := Int.ediv_le_self _ (Int.le_of_lt h0)
  omega
theorem div_pos {s g : Int} (hg : 0 < g) (h0 : 0 < s) (h : g ∣ s) : 0 < s / g := by
  have e1 : s / g * g = s := Int.ediv_mul_cancel h
  by_cases q0 : 0 < s / g
  · exact q0
  · have q : s / g ≤ 0 := by omega
    have : s / g * g ≤ 0 := Int.mul_nonpos_of_nonpos_of_nonneg q (Int.le_of_lt hg)
    omega
theorem settle_val {ap : Rw} {low share g v : Int} (hg : 0 < g) (hs : g ∣ share) (hl : g ∣ low) (ha : ∀ q ∈ ap, g ∣ q.1) (hv : v * share = sumR ap + low) : v * (share / g) = sumR (divR g ap) + low / g := by
  have e1 : share / g * g = share := Int.ediv_mul_cancel hs
  have e2 : low / g * g = low := Int.ediv_mul_cancel hl
  have e3 := sumR_div ha
  have : v * (share / g) * g = (sumR (divR g ap) + low / g) * g := by rw [Int.mul_assoc, e1, Int.add_mul, e2, e3, hv]
  exact Int.eq_of_mul_eq_mul_right (by omega) this
theorem bt_share {s : Int} {m : Nat} (h0 : 0 < s) (h : s.toNat ≤ 2 ^ m) : bt s ≤ m + 1 := bt_le.mpr (Nat.lt_of_le_of_lt (show s.natAbs ≤ 2 ^ m by omega) (Nat.pow_lt_pow_right (by decide) (Nat.lt_succ_self m)))
section
variable {P : Program} {w : World} {K : PySem.W.Frag} {mg : Str → Option Value} {base : Heap}
theorem mk_rows {cap : Sz} {H : Hp} {d : Nat} {S : Sz} {lo sh v : Int} {rws : Rw} {xs vs zs : List V} {gV : List V → List V → List V} {Q : VK} {E : XK} {tp : Addr} (ht : SqT K H tp xs) (hr : RowsV K cap H d xs rws) (w : Wf S lo rws sh v) (q : ∀ r H', Ex H H' → IsT K cap H' (d + 1) S r v → Q (.ref r) H')
    (hg : ∀ x : Addr, gV (.ref x :: vs) zs = [.ref x, .int lo, .ref tp, .int sh] := by intro x; rfl) : MkKN (TwC K) (spInit K) gV vs zs E Q H := fun x dx hx hd hn => by
  rw [hg]
  exact init_made ⟨rfl, q _ _ (ex_made hx hd hn) ⟨dx, lo, tp, sh, xs, rws, upd_same, (ex_made hx hd hn).tup ht, RowsV.ex (ex_made hx hd hn) hr, w⟩⟩
theorem mk_plain {cap : Sz} {H : Hp} {d : Nat} {S : Sz} {i : Int} {Q : VK} {E : XK} {e : Addr} (he : ∀ H, SqT K H e []) (hS : Sz.Le ⟨bt i, 0, 0⟩ S) (q : ∀ r H', Ex H H' → IsT K cap H' (d + 1) S r i → Q (.ref r) H') :
    MkN (TwC K) (spInit K) [.int i, .ref e, .int 1] E Q H := fun x dx hx hd hn =>
  init_made ⟨rfl, q _ _ (ex_made hx hd hn) (((isT_plain hx hd hn he).mono hS).deep (by omega))⟩
theorem ok_settled {k d : Nat} {cap : Sz} (T : Txt K mg)
    (G_gathered : FnOk P w K mg base CX0 (k + 1) (He.ga K "gathered") (fdOf K (He.ga K "gathered")) p_gathered (spGathered K cap d))
    (G_bits : FnOk P w K mg base CX0 (k + 1) (He.ga K "bits") (fdOf K (He.ga K "bits")) p_bits spBits)
    (G_doubled : FnOk P w K mg base CX0 (k + 1) (He.ga K "doubled") (fdOf K (He.ga K "doubled")) p_doubled spDoubled)
    (G_common : FnOk P w K mg base CX0 (k + 1) (He.ga K "common") (fdOf K (He.ga K "common")) p_common spCommon)
    (G_Tower_small : FnOk P w K mg base CX0 (k + 1) (He.ma K (He.ga K "Tower") "small") (fdOf K (He.fAd K ("Tower", some "small"))) p_Tower_small (spSmall K))
    (G_Tower___init__ : FnOk P w K mg base CX0 k (He.ma K (He.ga K "Tower") "__init__") (fdOf K (He.fAd K ("Tower", some "__init__"))) p_Tower___init__ (spInit K)) :
    FnOk P w K mg base CX0 (k + 2) (He.ga K "settled") (fdOf K (He.ga K "settled")) p_settled (spSettled K cap d) := by
  refine FunD.ok T.d_settled sc_settled (fun vs H Q E h => ?_) (fun cdv A outer s H vs Q E hr h => ?_)
  · obtain ⟨p, lo, sh, xs, rows, m, v, rfl, _⟩ := h
    rfl
  · obtain ⟨p, lo, sh, xs, rows, m, v, rfl, hp, hrows, hl, hwt, hsh, hs2, hm, hv, q⟩ := h
    refine ⟨_, PSs.nox ((pss_cons (ps_asg (pe_call G_gathered hr rfl T.g_gathered T.d_gathered.kp (b_gathered T) .nil pass0 (pa_cons (pe_lc (own := [("part", 9)]) rfl sc_settled.nd (pi_list (pv 0)) (blkOk_by (own := [("part", 9)]) (N := n_settled) (sc := defScope s_settled) (by decide +kernel)) (fun _ _ _ _ _ => (pg_name (i := 9) sc_settled.nd rfl (Or.inl rfl) (hf := by first | exact Or.inl rfl | exact Or.inr rfl))) (fun _ _ _ _ _ => (pts_one (pt_cmpR op_ne (pe_ix (PW.ix_seqK (K := K) rfl) (pv 9) pe_int (fun _ _ => rfl)) pe_int (nomark _)))) (fun _ _ _ _ _ => (pv 9))) (pa_cons (pv 1) pa_nil))) (pg_tup rfl (pgs_cons (pg_name (i := 3) sc_settled.nd rfl (Or.inl rfl) (hf := by first | exact Or.inl rfl | exact Or.inr rfl)) (pgs_cons (pg_name (i := 1) sc_settled.nd rfl (Or.inl rfl) (hf := by first | exact Or.inl rfl | exact Or.inr rfl)) pgs_nil))))
    (pss_cons (ps_if (pt_cmpR (PW.op_eqE hr.units0) (pv 3) (pe_lst pa_nil) (nomark _))
      (pss_one (ps_ret (pe_make T.mk_Tower G_Tower___init__ hr rfl T.g_Tower (b_Tower___init___2 T) (dv_Tower___init___2 T) pass0 (pa_cons (pe_op op_fdivW (pv 1) (pv 2)) pa_nil))))
      pss_nil)
    (pss_cons (ps_set (i := 4) sc_settled.nd rfl (Or.inr rfl) (pe_call G_common hr rfl T.g_common T.d_common.kp (b_common T) .nil pass0 (pa_cons (pv 2) (pa_cons (pv 1) pa_nil))))
    (pss_cons (ps_for PassesOwn.never rfl (pi_list (pv 3)) (pg_tup rfl (pgs_cons (pg_name (i := 5) sc_settled.nd rfl (Or.inl rfl) (hf := by first | exact Or.inl rfl | exact Or.inr rfl)) (pgs_cons (pg_name (i := 6) sc_settled.nd rfl (Or.inl rfl) (hf := by first | exact Or.inl rfl | exact Or.inr rfl)) pgs_nil)))
      (pss_one (ps_set (i := 4) sc_settled.nd rfl (Or.inr rfl) (pe_call G_common hr rfl T.g_common T.d_common.kp (b_common T) .nil pass0 (pa_cons (pv 4) (pa_cons (pv 5) pa_nil))))))
    (pss_cons (ps_setLc (i := 7) (own := [("coefficient", 5), ("exponent", 6)]) (g := (gTup K 2 (gCons (gName 5) (gCons (gName 6) gNil)))) rfl sc_settled.nd rfl rfl (sw_true rfl rfl rfl (by decide +kernel)) (pi_list (pv 3)) (blkOk_by (own := [("coefficient", 5), ("exponent", 6)]) (N := n_settled) (sc := defScope s_settled) (by decide +kernel)) (fun _ _ _ _ _ => by (refine' PW.pg_tupX (K := K) ?a1 ?b1 ?c1 ?d1 ?h1; (case a1 => rfl); (case b1 => rfl); (case c1 => rfl); (case d1 => rfl); refine' PW.pgs_consX ?a2 ?b2 ?h2; (case a2 => rfl); (case b2 => (refine PW.pg_nameX 5 ?_ ?_ ?_ ?_; exact sc_settled.nd; rfl; (first | exact Or.inl rfl | exact Or.inr rfl); (first | exact Or.inl rfl | exact Or.inr rfl))); refine' PW.pgs_consX ?a3 ?b3 ?h3; (case a3 => rfl); (case b3 => (refine PW.pg_nameX 6 ?_ ?_ ?_ ?_; exact sc_settled.nd; rfl; (first | exact Or.inl rfl | exact Or.inr rfl); (first | exact Or.inl rfl | exact Or.inr rfl))); exact pgs_nil)) (fun _ _ _ _ _ => pts_nil) (fun _ _ _ _ _ => (pe_tup (pa_cons (pe_op op_fdivW (pv 5) (pv 4)) (pa_cons (pv 6) pa_nil)))))
    (pss_cons (ps_par (i := 1) (j := 2) (by rfl) sc_settled.nd rfl rfl (by decide) rfl rfl (pa_cons (pe_op op_fdivW (pv 1) (pv 4)) (pa_cons (pe_op op_fdivW (pv 2) (pv 4)) pa_nil)) (by rfl))
    (pss_cons (ps_set (i := 8) sc_settled.nd rfl (Or.inl rfl) (pe_meth0 (pe_ix ix_seq (pe_ix ix_list (pv 7) pe_int (fun _ _ => rfl)) pe_int (fun _ _ => rfl)) T.k_Tower T.m_Tower_small G_Tower_small hr (b_Tower_small T) .nil pass0))
    (pss_cons (ps_if (PW.pt (pw_and (pt_cmpR op_gt (pv 2) pe_int (nomark _)) (pw_and (pt_cmp (pc_notN (pv 8)) rfl) (pw_and1 (pt_cmpR op_le (pv 8) (pe_op op_add (pe_gint rfl T.c_PLAIN) (pe_call G_bits hr rfl T.g_bits T.d_bits.kp (b_bits T) .nil pass0 (pa_cons (pv 2) pa_nil))) (nomark _))))))
      (pss_one (ps_ret (pe_make T.mk_Tower G_Tower___init__ hr rfl T.g_Tower (b_Tower___init___2 T) (dv_Tower___init___2 T) pass0 (pa_cons (pe_op op_fdivW (pe_op op_add (pv 1) (pe_callB (cr_sum rfl) (by rfl) T.f_sum (by decide +kernel) (pa_cons (pe_lc (own := [("exponent", 6), ("many", 10)]) (g := (gTup K 2 (gCons (gName 10) (gCons (gName 6) gNil)))) rfl sc_settled.nd (pi_list (pv 7)) (blkOk_by (own := [("exponent", 6), ("many", 10)]) (N := n_settled) (sc := defScope s_settled) (by decide +kernel)) (fun _ _ _ _ _ => by (refine' PW.pg_tupX (K := K) ?a4 ?b4 ?c4 ?d4 ?h4; (case a4 => rfl); (case b4 => rfl); (case c4 => rfl); (case d4 => rfl); refine' PW.pgs_consX ?a5 ?b5 ?h5; (case a5 => rfl); (case b5 => (refine PW.pg_nameX 10 ?_ ?_ ?_ ?_; exact sc_settled.nd; rfl; (first | exact Or.inl rfl | exact Or.inr rfl); (first | exact Or.inl rfl | exact Or.inr rfl))); refine' PW.pgs_consX ?a6 ?b6 ?h6; (case a6 => rfl); (case b6 => (refine PW.pg_nameX 6 ?_ ?_ ?_ ?_; exact sc_settled.nd; rfl; (first | exact Or.inl rfl | exact Or.inr rfl); (first | exact Or.inl rfl | exact Or.inr rfl))); exact pgs_nil)) (fun _ _ _ _ _ => pts_nil) (fun _ _ _ _ _ => (pe_op op_mulX (pv 10) (pe_call G_doubled hr rfl T.g_doubled T.d_doubled.kp (b_doubled T) .nil pass0 (pa_cons (pe_meth0 (pv 6) T.k_Tower T.m_Tower_small G_Tower_small hr (b_Tower_small T) .nil pass0) pa_nil))))) pa_nil))) (pv 2)) pa_nil))))
      pss_nil)
    (pss_one (ps_ret (pe_makeK T.mk_Tower G_Tower___init__ hr rfl T.g_Tower (kb_Tower___init___1_parts_share T) pass0 (pa_cons (pv 1) pa_nil) (pk_cons (pe_callTy call_tupleN (by rfl) T.f_tuple (by decide +kernel) (pa_cons (pv 7) pa_nil)) (pk_cons (pv 2) pk_nil)))))))))))))), ?_⟩
    show tSeq _ _ _ [some (V.ref p), some (V.int lo), some (V.int sh), none, none, none, none, none, none, none, none] H
    walk_at "K"
    refine r_seqP (fun σ' H' => ∃ A lo' ys ap, σ' = [some (V.ref p), some (V.int lo'), some (V.int sh), some (V.ref A), none, none, none, none, none, none, none] ∧ Ex H H' ∧ SqL K H' A ys ∧ RowsV K cap H' d ys ap ∧ Far ap lo' ∧ sumR ap + lo' = sumR rows + lo ∧ wtR ap + bt lo' ≤ wtR rows + bt lo ∧ ap.length ≤ rows.length) ?_ ?_
    · clear hrows hp
      rintro σ' H1 ⟨A, lo', ys, ap, rfl, x1, hA, hap, hfar, hsum, hwt2, hlen⟩
      have hsv : v * sh = sumR ap + lo' := hv.trans hsum.symm
      walk_at "go"
      intro p0 hp0
      have x2 : Ex H (L2.upd H1 p0 (.lst [])) := x1.trans (Ex.new hp0)
      have hA2 := (Ex.new (o := .lst []) hp0).lst hA
      have hap2 := RowsV.ex (Ex.new (o := .lst []) hp0) hap
      generalize hH2 : L2.upd H1 p0 (.lst []) = H2 at x2 hA2 hap2 ⊢
      have hp2 : SqL K H2 p0 [] := by
        rw [← hH2]
        exact SqL.of upd_same
      clear hA hap x1 hp0 hH2 H1
      have hap3 := hap2
      cases hap2 with
      | nil =>
        have e1 : lo' / sh = v := div_exact hsh (by rw [hsv]; show (0 : Int) + lo' = lo'; omega)
        have e2 : bt v ≤ bt lo' := by
          rw [← e1]
          refine bt_divD ⟨v, ?_⟩
          rw [Int.mul_comm, hsv]
          show lo' = (0 : Int) + lo'
          omega
        have l9 := log_share hsh (Int.le_refl sh) hs2 hm
        have cd : CDivW lo' sh := ⟨hsh, l9⟩
        walk_at "go"
        rw [e1]
        refine mk_plain T.e_Tower___init___parts ⟨?_, Nat.zero_le _, Nat.zero_le _⟩ fun r H' x4 ht => q r H' (x2.trans x4) ht
        show bt v ≤ wtR rows + bt lo
        have : wtR ([] : Rw) + bt lo' ≤ wtR rows + bt lo := hwt2
        omega
      | @cons y0 q0 yr ar hr0 hrr =>
        obtain ⟨c0, e0⟩ := q0
        obtain ⟨t0, r0, rfl, k1, k2⟩ := hr0
        have hfl := hfar
        walk_at "go"
        refine r_ifF' rfl ?_
        walk_at "go"
        refine ⟨sh, lo', rfl, hsh, fun g1 hg1 hg1s hg1l => ?_⟩
        walk_at "go"
        have hxl := prd_len hap3
        refine for_it (walk_list (xs := V.ref t0 :: yr)) (fun i σ H' => H' = H2 ∧ ∃ (g : Int) (c e : Option V), σ = [some (V.ref p), some (V.int lo'), some (V.int sh), some (V.ref A), some (.int g), c, e, none, none, none, none] ∧ 0 < g ∧ g ∣ sh ∧ g ∣ lo' ∧ ∀ q ∈ (((c0, e0) :: ar : Rw)).take i, g ∣ q.1)
          ⟨rfl, g1, none, none, rfl, hg1, hg1s, hg1l, fun q hq => nomatch hq⟩ (fun i σ H' _ h => by rw [h.1]; exact hA2) ?_ ?_
        · rintro i x σ H1 H1' hi ⟨hH, g, c, e, rfl, h1, h2, h3, h4⟩ ⟨rfl, hx⟩
          subst hH
          obtain ⟨⟨cc, ee⟩, hq, t, r, rfl, kt, kr⟩ := prd_get hap3 hx
          have kt' : SqT K H1' t [.int cc, .ref r] := kt
          walk_at "go"
          refine ⟨g, cc, rfl, h1, fun g2 hg2 a1 a2 => ?_⟩
          walk_at "go"
          refine ⟨rfl, g2, _, _, rfl, hg2, Int.dvd_trans a1 h2, Int.dvd_trans a1 h3, fun q hq2 => ?_⟩
          rw [take_snoc hq] at hq2
          rcases List.mem_append.mp hq2 with z | z
          · exact Int.dvd_trans a1 (h4 q z)
          · rw [List.mem_singleton] at z
            subst z
            exact a2
        · rintro σ H' ⟨hH, g, c, e, rfl, h1, h2, h3, h4⟩
          subst hH
          rw [hxl, List.take_length] at h4
          have l9 : g.natAbs.log2 < 9000 := log_share h1 (Int.le_of_dvd hsh h2) hs2 hm
          have hll : (V.ref t0 :: yr).length ≤ 100000 := by
            rw [hxl]
            omega
          walk_at "go"
          intro D hD
          refine lc_grow (walk_list (xs := V.ref t0 :: yr)) (σw := [some (V.ref p), some (V.int lo'), some (V.int sh), some (V.ref A), some (.int g), none, none, none, none, none, none]) rfl
            (fun i H v => ∃ cc ee t r, (((c0, e0) :: ar : Rw))[i]? = some (cc, ee) ∧ v = .ref t ∧ SqT K H t [.int (cc / g), .ref r] ∧ IsT K cap H d cap r ((ee : Nat) : Int)) hD hll (fun _ x => x.lst hA2) (fun i Ha Hb v x h => ?_) ?_ ?_
          · obtain ⟨cc, ee, t, r, hq, rfl, kt, kr⟩ := h
            exact ⟨cc, ee, t, r, hq, rfl, x.tup kt, kr.ex x⟩
          · rintro i x Ha Hb acc R hi xa ha ⟨rfl, hx⟩ hR
            obtain ⟨⟨cc, ee⟩, hq, t, r, rfl, kt, kr⟩ := prd_get hap3 hx
            have kt' : SqT K Hb t [.int cc, .ref r] := xa.tup kt
            have cd : CDivW cc g := ⟨h1, l9⟩
            walk_at "go"
            refine ⟨rfl, ?_⟩
            walk_at "go"
            intro t2 ht2
            have tD : t2 ≠ D := Ne.symm (ne_of_none ha ht2)
            have xb : Ex H' (PW.hide (L2.upd Hb t2 (.tup [.int (cc / g), .ref r])) D) := (xa.trans (Ex.new ht2)).hideN hD
            exact hR _ _ ⟨cc, ee, t2, r, hq, rfl, SqT.of ((hide_ne tD).trans upd_same), kr.ex xb⟩ (Ex.new ht2)
          · rintro Hc acc xc hacc hl2 hE
            have hrows2 : RowsV K cap (PW.hide Hc D) d acc ((c0 / g, e0) :: divR g ar) := by
              refine prd_of (hl2.trans (hxl.trans (by show _ = (List.map _ _).length + 1; rw [List.length_map]; rfl))) fun i x y hx hy => ?_
              obtain ⟨cc, ee, t, r, hq, rfl, kt, kr⟩ := hE i x hx
              have hy2 : (divR g ((c0, e0) :: ar))[i]? = some y := hy
              unfold divR at hy2
              rw [List.getElem?_map, hq] at hy2
              injection hy2 with hy2
              subst hy2
              exact ⟨t, r, rfl, kt, kr⟩
            have hrows3 : RowsV K cap Hc d acc ((c0 / g, e0) :: divR g ar) := hrows2.ex (Ex.hide Hc D)
            clear hrows2 hE
            have hal : acc.length = ((c0 / g, e0) :: divR g ar).length := prd_len hrows3
            have hrows4 := hrows3
            cases hrows3 with
            | @cons z0 q1 zr ar2 hz hzz =>
            obtain ⟨t1, r1, rfl, kt1, kr1⟩ := hz
            have kt1' : SqT K Hc t1 [.int (c0 / g), .ref r1] := kt1
            have kr1' : IsT K cap Hc d cap r1 ((e0 : Nat) : Int) := kr1
            obtain ⟨dx, fl, fp, fs, hri⟩ := kr1.ins'
            have cd1 : CDivW lo' g := ⟨h1, l9⟩
            have cd2 : CDivW sh g := ⟨h1, l9⟩
            have hp2' := div_pos h1 hsh h2
            have hd4 := far_div h3 h4 hfar
            have hsv2 := settle_val h1 h2 h3 h4 hsv
            have hS2 := toNat_le_div h1 hsh hs2
            have hbs := bt_share hp2' hS2
            have hq0 : bt (c0 / g) ≤ bt c0 := bt_divD (h4 (c0, e0) (List.mem_cons_self ..))
            have hwt4 : bt c0 + 265 + wtR ar + bt lo' ≤ wtR rows + bt lo := hwt2
            have fin : ∀ (Hd : Hp) (tp : Addr), Ex Hc Hd → Hd tp = none → (sh / g = 1 ∨ 256 + bt (sh / g) < e0) → ∃ (S : Sz) (rws : Rw), RowsV K cap (L2.upd Hd tp (.tup (V.ref t1 :: zr))) d (V.ref t1 :: zr) rws ∧ Wf S (lo' / g) rws (sh / g) v ∧
                ∀ r H', Ex (L2.upd Hd tp (.tup (V.ref t1 :: zr))) H' → IsT K cap H' (d + 1) S r v → Q (.ref r) H' := fun Hd tp xd htp hc => by
              have wf : Wf ⟨wtR rows + bt lo, rows.length, m⟩ (lo' / g) (divR g ((c0, e0) :: ar)) (sh / g) v := Wf.settle hfar (List.cons_ne_nil _ _) h1 h2 h3 h4 hsh hsv (fun c' e' r' he => by
                have he2 : (c0 / g, e0) :: divR g ar = (c', e') :: r' := he
                injection he2 with he3 he4
                injection he3 with he5 he6
                subst he6
                exact hc) hwt2 hlen hs2
              exact ⟨_, _, RowsV.ex (xd.trans (Ex.new htp)) hrows4, wf, fun r H5 x5 h5 => q r H5 (((x2.trans xc).trans (xd.trans (Ex.new htp))).trans x5) h5⟩
            walk_at "go"
            refine ⟨cap, r1, d, cap, _, rfl, kr1', fun Hd xd => ?_⟩
            rw [smallV_nat]
            have hacc2 := xd _ _ hacc
            by_cases h64 : e0 < 2 ^ 64
            · rw [if_pos h64]
              walk_at "go"
              refine r_if2 (fun b1 => ?_) (fun b1 => ?_)
              · walk_at "go"
                refine ⟨sh / g, rfl, ?_⟩
                walk_at "go"
                refine r_if2 (fun b2 => ?_) (fun b2 => ?_)
                · have hle : ((e0 : Nat) : Int) ≤ 256 + (bt (sh / g) : Nat) := of_decide_eq_true b2
                  have l10 := log_share hp2' (Int.le_refl _) hS2 hm
                  have hal4 : (V.ref t1 :: zr).length ≤ 100000 := by
                    rw [← hl2] at hll
                    exact hll
                  walk_at "go"
                  intro D3 hD3
                  refine lc_grow (walk_list (xs := V.ref t1 :: zr)) (σw := [some (V.ref p), some (V.int (lo' / g)), some (V.int (sh / g)), some (V.ref A), some (.int g), c, none, some (V.ref D), some (.int ((e0 : Nat) : Int)), none, none]) rfl
                    (fun i _ v => ∃ q, ((c0 / g, e0) :: divR g ar)[i]? = some q ∧ v = .int (q.1 * 2 ^ q.2)) hD3 hal4 (fun _ x => x.lst (SqL.of hacc2)) (fun i Ha Hb v x h => h) ?_ ?_
                  · rintro i x Ha Hb acc R hi xa ha ⟨rfl, hx⟩ hR
                    obtain ⟨⟨cc, ee⟩, hq, t, r, ey, kt, kr⟩ := prd_get hrows4 hx
                    subst ey
                    have xq := xd.trans xa
                    have kt' : SqT K Hb t [.int cc, .ref r] := xq.tup kt
                    have kr' : IsT K cap Hb d cap r ((ee : Nat) : Int) := kr.ex xq
                    obtain ⟨dx', fl', fp', fs', hri'⟩ := kr'.ins'
                    have hee : ee ≤ e0 := far_le (r := divR g ar) (c := c0 / g) (low := lo' / g) hd4 (cc, ee) (List.mem_of_getElem? hq)
                    have hwm : bt cc + 265 ≤ wtR (divR g ((c0, e0) :: ar)) := wt_mem (q := (cc, ee)) (List.mem_of_getElem? hq)
                    have hwm2 := wtR_div h4
                    have cm : CMulX cc (2 ^ ee) := cm_row (by omega) (by omega)
                    walk_at "go"
                    refine ⟨rfl, ?_⟩
                    walk_at "go"
                    refine ⟨cap, r, d, cap, _, rfl, kr', fun He xe => ?_⟩
                    rw [smallV_nat, if_pos (by omega)]
                    walk_at "go"
                    refine ⟨ee, rfl, by omega, ?_⟩
                    walk_at "go"
                    exact hR _ _ ⟨(cc, ee), hq, rfl⟩ xe
                  · rintro He acc3 xe hacc3 hl3 hE3
                    have hacc4 := acc_map (l := ((c0 / g, e0) :: divR g ar)) (f := fun q => V.int (q.1 * 2 ^ q.2)) (hl3.trans hal) hE3
                    have hsm := sum_int ((c0 / g, e0) :: divR g ar)
                    walk_at "go"
                    refine r_sum (ns := ((c0 / g, e0) :: divR g ar).map fun q => q.1 * 2 ^ q.2) (SqL.of (by rw [hacc3, hacc4, List.map_map]; rfl)) ?_
                    rw [hsm]
                    have cd5 : CDivW (lo' / g + sumR ((c0 / g, e0) :: divR g ar)) (sh / g) := ⟨hp2', l10⟩
                    have ev : (lo' / g + sumR ((c0 / g, e0) :: divR g ar)) / (sh / g) = v := div_exact hp2' (by rw [hsv2, Int.add_comm]; rfl)
                    walk_at "go"
                    rw [ev]
                    refine mk_plain T.e_Tower___init___parts ⟨?_, Nat.zero_le _, Nat.zero_le _⟩ fun r H' x4 ht => q r H' (((x2.trans xc).trans (xd.trans xe)).trans x4) ht
                    have hds : bt v ≤ bt (c0 / g) + 258 := div_size hd4 hp2' hsv2 (show e0 ≤ 256 + bt (sh / g) by omega)
                    show bt v ≤ wtR rows + bt lo
                    omega
                · have hgt : ¬ ((e0 : Nat) : Int) ≤ 256 + (bt (sh / g) : Nat) := of_decide_eq_false b2
                  walk_at "go"
                  intro tp htp
                  walk_at "go"
                  obtain ⟨S', rws, hrw, wf, hq⟩ := fin Hd tp xd htp (.inr (by omega))
                  exact mk_rows (SqT.of upd_same) hrw wf hq
              · have hgt : ¬ (1 : Int) < sh / g := of_decide_eq_false b1
                walk_at "go"
                intro tp htp
                walk_at "go"
                obtain ⟨S', rws, hrw, wf, hq⟩ := fin Hd tp xd htp (.inl (by omega))
                exact mk_rows (SqT.of upd_same) hrw wf hq
            · rw [if_neg h64]
              have hbig : 256 + bt (sh / g) < e0 := by omega
              walk_at "go"
              refine r_if2 (fun b1 => ?_) (fun b1 => ?_)
              · walk_at "go"
                intro tp htp
                walk_at "go"
                obtain ⟨S', rws, hrw, wf, hq⟩ := fin Hd tp xd htp (.inr hbig)
                exact mk_rows (SqT.of upd_same) hrw wf hq
              · walk_at "go"
                intro tp htp
                walk_at "go"
                obtain ⟨S', rws, hrw, wf, hq⟩ := fin Hd tp xd htp (.inr hbig)
                exact mk_rows (SqT.of upd_same) hrw wf hq
    · intro N hN
      walk_at "go"
      intro D hD
      refine lc_itW (walk_list (xs := xs)) (σw := [some (V.ref p), some (V.int lo), some (V.int sh), none, none, none, none, none, none, none, none]) rfl (fun i H' => Ex H H' ∧ ∃ ys, H' D = some (.lst ys) ∧ RowsV K cap (PW.hide H' D) d ys (nz (rows.take i)) ∧ ys.length ≤ i) ⟨Ex.new hD, [], upd_same, .nil, Nat.le_refl _⟩ (fun i H' _ h => h.1.lst hp) ?_ ?_
      · rintro i x H1 H1' hi ⟨x1, ys, hys, hra, hyl⟩ ⟨rfl, hx⟩
        obtain ⟨⟨cc, ee⟩, hq, t, r, rfl, kt, kr⟩ := prd_get hrows hx
        have kt1 : SqT K H1' t [.int cc, .ref r] := x1.tup kt
        have xl := prd_len hrows
        rw [take_snoc hq, nz_snoc]
        walk_at "go"
        refine ⟨rfl, ?_⟩
        walk_at "go"
        refine r_if2 (fun e => ?_) (fun e => ?_)
        · have hc : cc ≠ 0 := fun z => by
            rw [z] at e
            exact absurd e (by decide)
          rw [if_neg hc]
          walk_at "go"
          refine ⟨ys, hys, Nat.lt_of_lt_of_le (show ys.length < 10000 by omega) (by decide), x1.mut hD, _, upd_same, ?_, by rw [List.length_append]; show ys.length + 1 ≤ i + 1; omega⟩
          rw [hide_upd]
          exact prd_append hra (.cons ⟨t, r, rfl, (x1.hideN hD).tup kt, kr.ex (x1.hideN hD)⟩ .nil)
        · have hc : cc = 0 := by
            have := of_decide_eq_true (show decide (V.int cc = V.int 0) = true by
              rw [Bool.not_eq_false'] at e
              exact e)
            exact V.int.inj this
          rw [if_pos hc, List.append_nil]
          exact ⟨x1, ys, hys, hra, by omega⟩
      · rintro H1 ⟨x1, ys, hys, hra, hyl⟩
        have e1 : rows.take xs.length = rows := by rw [prd_len hrows, List.take_length]
        rw [e1] at hra
        have w1 := wtR_nz rows
        have w2 := nz_len rows
        walk_at "go"
        refine ⟨D, lo, ys, nz rows, rfl, SqL.of hys, hra.ex (Ex.hide H1 D), by omega, fun q hq => nz_ne hq, by omega, fun r0 H2 A zs ap lo' x2 hr0 hA hap hfar hsum hwt2 hlen => ?_⟩
        walk_at "go"
        rw [sumR_nz] at hsum
        exact hN _ _ ⟨A, lo', zs, ap, rfl, x1.trans x2, hA, hap, hfar, hsum, by omega, by omega⟩
end
end PW
/-! ### total, -, above; by depth -/
namespace PW
open PySem PySem.Spec PyProof.Rows L2
theorem mulR_len (k : Int) (a : Rw) : (mulR k a).length = a.length := List.length_map _
theorem prd_mul {K : PySem.W.Frag} {H : Hp} {d : Nat} {acc : List V} {rows : Rw} {k : Int} (hl : acc.length = rows.length) (hE : ∀ (i : Nat) v, acc[i]? = some v → ∃ cc ee t r, rows[i]? = some (cc, ee) ∧ v = .ref t ∧ SqT K H t [.int (cc * k), .ref r] ∧ IsT K cap H d cap r ((ee : Nat) : Int)) : RowsV K cap H d acc (mulR k rows) := by
  refine prd_of (hl.trans (mulR_len k rows).symm) fun i x y hx hy => ?_
  obtain ⟨cc, ee, t, r, hq, rfl, kt, kr⟩ := hE i x hx
  unfold mulR at hy
  rw [List.getElem?_map, hq] at hy
  injection hy with hy
  subst hy
  exact ⟨t, r, rfl, kt, kr⟩
structure Lcm (s1 s2 g : Int) : Prop where
  e : s1 * s2 / g = s1 * (s2 / g)
  l : s1 * (s2 / g) / s1 = s2 / g
  r : s1 * (s2 / g) / s2 = s1 / g
  c : s1 * (s2 / g) = s2 * (s1 / g)
  p1 : 0 < s1 / g
  p2 : 0 < s2 / g
  l1 : s1 / g ≤ s1
  l2 : s2 / g ≤ s2
theorem lcm_of {s1 s2 g : Int} (h1 : 0 < s1) (h2 : 0 < s2) (hg : 0 < g) (d1 : g ∣ s1) (d2 : g ∣ s2) : Lcm s1 s2 g := by
  have e1 : s1 / g * g = s1 := Int.ediv_mul_cancel d1
  have e2 : s2 / g * g = s2 := Int.ediv_mul_cancel d2
  have hc : s1 * (s2 / g) = s2 * (s1 / g) := by
    have : s1 * (s2 / g) * g = s2 * (s1 / g) * g := by rw [Int.mul_assoc, e2, Int.mul_assoc, e1, Int.mul_comm]
    exact Int.eq_of_mul_eq_mul_right (by omega) this
  refine ⟨Int.mul_ediv_assoc _ d2, Int.mul_ediv_cancel_left _ (by omega), ?_, hc, div_pos hg h1 d1, div_pos hg h2 d2, Int.ediv_le_self _ (by omega), Int.ediv_le_self _ (by omega)⟩
  rw [hc]
  exact Int.mul_ediv_cancel_left _ (by omega)
theorem tot_val {v u f s1 s2 a1 a2 l1 l2 : Int} {r1 r2 : Rw} (hc : s1 * a2 = s2 * a1) (h1 : v * s1 = sumR r1 + l1) (h2 : u * s2 = sumR r2 + l2) :
    (v + f * u) * (s1 * a2) = sumR (mulR a2 r1 ++ mulR (f * a1) r2) + (l1 * a2 + l2 * (f * a1)) := by
  rw [sumR_append, sumR_mul, sumR_mul, Int.add_mul, ← Int.mul_assoc, h1, hc]
  have : f * u * (s2 * a1) = (u * s2) * (f * a1) := by
    rw [Int.mul_comm f u, Int.mul_assoc u f, Int.mul_assoc u s2, ← Int.mul_assoc f s2, Int.mul_comm f s2, Int.mul_assoc s2 f]
  rw [this, h2, Int.add_mul, Int.add_mul]
  omega
theorem nat_le_pow {s : Int} {k : Nat} (h0 : 0 ≤ s) (h : s.toNat ≤ 2 ^ k) : s.natAbs ≤ 2 ^ k := by omega
theorem tot_size {S1 S2 : Sz} {m : Nat} {r1 r2 : Rw} {l1 l2 a1 a2 f : Int} (z1 : wtR r1 + bt l1 ≤ S1.z) (z2 : wtR r2 + bt l2 ≤ S2.z) (n1 : r1.length ≤ S1.n) (n2 : r2.length ≤ S2.n) (hf : f.natAbs ≤ 2 ^ m) (ha1 : a1.natAbs ≤ 2 ^ S1.s) (ha2 : a2.natAbs ≤ 2 ^ S2.s) :
    wtR (mulR a2 r1 ++ mulR (f * a1) r2) + bt (l1 * a2 + l2 * (f * a1)) ≤ (totSz S1 S2 m).z := by
  have hfa : (f * a1).natAbs ≤ 2 ^ (m + S1.s) := by
    rw [Int.natAbs_mul, Nat.pow_add]
    exact Nat.mul_le_mul hf ha1
  have h1 := wtR_mul ha2 r1
  have h2 := wtR_mul hfa r2
  have h3 := bt_mulK l1 ha2
  have h4 := bt_mulK l2 hfa
  have h5 := bt_add (l1 * a2) (l2 * (f * a1))
  have h6 : r1.length * S2.s ≤ S1.n * S2.s := Nat.mul_le_mul_right _ n1
  have h7 : r2.length * (m + S1.s) ≤ S2.n * (m + S1.s) := Nat.mul_le_mul_right _ n2
  rw [wtR_append]
  show _ ≤ S1.z + S2.z + S1.n * S2.s + S2.n * (m + S1.s) + S1.s + S2.s + m + 1
  omega
theorem tot_lim {S1 S2 : Sz} {m : Nat} (h1 : S1.Le LIM) (h2 : S2.Le LIM) (hm : m ≤ 1200) : (totSz S1 S2 m).z ≤ 20000000 := by
  have a1 : S1.z ≤ 4000000 := h1.z
  have a2 : S2.z ≤ 4000000 := h2.z
  have b1 : S1.n ≤ 1200 := h1.n
  have b2 : S2.n ≤ 1200 := h2.n
  have c1 : S1.s ≤ 1200 := h1.s
  have c2 : S2.s ≤ 1200 := h2.s
  have h6 : S1.n * S2.s ≤ 1200 * 1200 := Nat.mul_le_mul b1 c2
  have h7 : S2.n * (m + S1.s) ≤ 1200 * 2400 := Nat.mul_le_mul b2 (by omega)
  show S1.z + S2.z + S1.n * S2.s + S2.n * (m + S1.s) + S1.s + S2.s + m + 1 ≤ 20000000
  omega
section
variable {P : Program} {w : World} {K : PySem.W.Frag} {mg : Str → Option Value} {base : Heap}
theorem ok_total {k d : Nat} {cap : Sz} (T : Txt K mg)
    (G_settled : FnOk P w K mg base CX0 k (He.ga K "settled") (fdOf K (He.ga K "settled")) p_settled (spSettled K cap d))
    (G_common : FnOk P w K mg base CX0 k (He.ga K "common") (fdOf K (He.ga K "common")) p_common spCommon) :
    FnOk P w K mg base CX0 (k + 1) (He.ga K "total") (fdOf K (He.ga K "total")) p_total (spTotal K cap (d + 1)) := by
  refine FunD.ok T.d_total sc_total (fun vs H Q E h => ?_) (fun cdv A outer s H vs Q E hr h => ?_)
  · obtain ⟨a, b, f, S1, S2, m, v, u, rfl, _⟩ := h
    rfl
  · obtain ⟨a, b, f, S1, S2, m, v, u, rfl, ⟨dx1, l1, p1, s1, xs1, r1, ha, hp1, hr1, w1⟩, ⟨dx2, l2, p2, s2, xs2, r2, hb, hp2, hr2, w2⟩, hS1, hS2, hf, hm, q⟩ := h
    have kT := T.k_Tower
    have n1 := T.n_Tower_low
    have n2 := T.n_Tower_parts
    have n3 := T.n_Tower_share
    have c1 : S1.s ≤ 1200 := hS1.s
    have c2 : S2.s ≤ 1200 := hS2.s
    have e1 : S1.n ≤ 1200 := hS1.n
    have e2 : S2.n ≤ 1200 := hS2.n
    have y1 : S1.z ≤ 4000000 := hS1.z
    have y2 : S2.z ≤ 4000000 := hS2.z
    have t1 := w1.n
    have t2 := w2.n
    have b1 := bt_share w1.pos w1.s
    have b2 := bt_share w2.pos w2.s
    have cm0 : CMulX s1 s2 := mulx_ok (bt_self s1) (bt_self s2) (by omega)
    refine ⟨_, PSs.nox ((pss_cons (ps_set (i := 3) sc_total.nd rfl (Or.inl rfl) (pe_op op_fdivW (pe_op op_mulX (pe_fld (pv 0) rfl) (pe_fld (pv 1) rfl)) (pe_call G_common hr rfl T.g_common T.d_common.kp (b_common T) .nil pass0 (pa_cons (pe_fld (pv 0) rfl) (pa_cons (pe_fld (pv 1) rfl) pa_nil)))))
    (pss_cons (ps_asg (pe_tup (pa_cons (pe_op op_fdivW (pv 3) (pe_fld (pv 0) rfl)) (pa_cons (pe_op op_mulX (pv 2) (pe_op op_fdivW (pv 3) (pe_fld (pv 1) rfl))) pa_nil))) (pg_tup rfl (pgs_cons (pg_name (i := 4) sc_total.nd rfl (Or.inr rfl) (hf := by first | exact Or.inl rfl | exact Or.inr rfl)) (pgs_cons (pg_name (i := 5) sc_total.nd rfl (Or.inr rfl) (hf := by first | exact Or.inl rfl | exact Or.inr rfl)) pgs_nil))))
    (pss_cons (ps_setLc (i := 6) (own := [("coefficient", 7), ("exponent", 8)]) (g := (gTup K 2 (gCons (gName 7) (gCons (gName 8) gNil)))) rfl sc_total.nd rfl rfl (sw_true rfl rfl rfl (by decide +kernel)) (pi_tup (pe_fld (pv 0) rfl)) (blkOk_by (own := [("coefficient", 7), ("exponent", 8)]) (N := n_total) (sc := defScope s_total) (by decide +kernel)) (fun _ _ _ _ _ => by (refine' PW.pg_tupX (K := K) ?a1 ?b1 ?c1 ?d1 ?h1; (case a1 => rfl); (case b1 => rfl); (case c1 => rfl); (case d1 => rfl); refine' PW.pgs_consX ?a2 ?b2 ?h2; (case a2 => rfl); (case b2 => (refine PW.pg_nameX 7 ?_ ?_ ?_ ?_; exact sc_total.nd; rfl; (first | exact Or.inl rfl | exact Or.inr rfl); (first | exact Or.inl rfl | exact Or.inr rfl))); refine' PW.pgs_consX ?a3 ?b3 ?h3; (case a3 => rfl); (case b3 => (refine PW.pg_nameX 8 ?_ ?_ ?_ ?_; exact sc_total.nd; rfl; (first | exact Or.inl rfl | exact Or.inr rfl); (first | exact Or.inl rfl | exact Or.inr rfl))); exact pgs_nil)) (fun _ _ _ _ _ => pts_nil) (fun _ _ _ _ _ => (pe_tup (pa_cons (pe_op op_mulX (pv 7) (pv 4)) (pa_cons (pv 8) pa_nil)))))
    (pss_cons (ps_set (i := 6) sc_total.nd rfl (Or.inl rfl) (pe_op op_cat (pv 6) (pe_lc (own := [("coefficient", 7), ("exponent", 8)]) (g := (gTup K 2 (gCons (gName 7) (gCons (gName 8) gNil)))) rfl sc_total.nd (pi_tup (pe_fld (pv 1) rfl)) (blkOk_by (own := [("coefficient", 7), ("exponent", 8)]) (N := n_total) (sc := defScope s_total) (by decide +kernel)) (fun _ _ _ _ _ => by (refine' PW.pg_tupX (K := K) ?a4 ?b4 ?c4 ?d4 ?h4; (case a4 => rfl); (case b4 => rfl); (case c4 => rfl); (case d4 => rfl); refine' PW.pgs_consX ?a5 ?b5 ?h5; (case a5 => rfl); (case b5 => (refine PW.pg_nameX 7 ?_ ?_ ?_ ?_; exact sc_total.nd; rfl; (first | exact Or.inl rfl | exact Or.inr rfl); (first | exact Or.inl rfl | exact Or.inr rfl))); refine' PW.pgs_consX ?a6 ?b6 ?h6; (case a6 => rfl); (case b6 => (refine PW.pg_nameX 8 ?_ ?_ ?_ ?_; exact sc_total.nd; rfl; (first | exact Or.inl rfl | exact Or.inr rfl); (first | exact Or.inl rfl | exact Or.inr rfl))); exact pgs_nil)) (fun _ _ _ _ _ => pts_nil) (fun _ _ _ _ _ => (pe_tup (pa_cons (pe_op op_mulX (pv 7) (pv 5)) (pa_cons (pv 8) pa_nil)))))))
    (pss_one (ps_ret (pe_call G_settled hr rfl T.g_settled T.d_settled.kp (b_settled T) .nil pass0 (pa_cons (pv 6) (pa_cons (pe_op op_add (pe_op op_mulX (pe_fld (pv 0) rfl) (pv 4)) (pe_op op_mulX (pe_fld (pv 1) rfl) (pv 5))) (pa_cons (pv 3) pa_nil))))))))))), ?_⟩
    show tSeq _ _ _ [some (V.ref a), some (V.ref b), some (V.int f), none, none, none, none, none, none] H
    walk_at "K"
    walk_at "go"
    refine ⟨s1, s2, rfl, w1.pos, fun g hg g1 g2 => ?_⟩
    have L := lcm_of w1.pos w2.pos hg g1 g2
    have lg := log_share hg (Int.le_of_dvd w1.pos g1) w1.s (by omega)
    have ls1 := log_share w1.pos (Int.le_refl s1) w1.s (by omega)
    have ls2 := log_share w2.pos (Int.le_refl s2) w2.s (by omega)
    have cd0 : CDivW (s1 * s2) g := ⟨hg, lg⟩
    have cd1 : CDivW (s1 * (s2 / g)) s1 := ⟨w1.pos, ls1⟩
    have cd2 : CDivW (s1 * (s2 / g)) s2 := ⟨w2.pos, ls2⟩
    have ha1 : (s1 / g).natAbs ≤ 2 ^ S1.s := nat_le_pow (Int.le_of_lt L.p1) (toNat_le_div hg w1.pos w1.s)
    have ha2 : (s2 / g).natAbs ≤ 2 ^ S2.s := nat_le_pow (Int.le_of_lt L.p2) (toNat_le_div hg w2.pos w2.s)
    have ba1 : bt (s1 / g) ≤ S1.s + 1 := bt_share L.p1 (toNat_le_div hg w1.pos w1.s)
    have ba2 : bt (s2 / g) ≤ S2.s + 1 := bt_share L.p2 (toNat_le_div hg w2.pos w2.s)
    have bf : bt f ≤ m + 1 := bt_le.mpr (Nat.lt_of_le_of_lt hf (Nat.pow_lt_pow_right (by decide) (Nat.lt_succ_self m)))
    have cm1 : CMulX f (s1 / g) := mulx_ok (bt_self f) (bt_self _) (by omega)
    have bfa : bt (f * (s1 / g)) ≤ m + S1.s + 2 := Nat.le_trans (bt_mul _ _) (by omega)
    have wz1 := w1.z
    have wz2 := w2.z
    walk_at "go"
    rw [L.e]
    walk_at "go"
    rw [L.l, L.r]
    have cmA : ∀ c : Int, c ∈ (r1.map (·.1)) → CMulX c (s2 / g) := fun c hc => by
      obtain ⟨q, hq, rfl⟩ := List.mem_map.mp hc
      have := wt_mem hq
      exact mulx_ok (bt_self q.1) (bt_self _) (by omega)
    have cmB : ∀ c : Int, c ∈ (r2.map (·.1)) → CMulX c (f * (s1 / g)) := fun c hc => by
      obtain ⟨q, hq, rfl⟩ := List.mem_map.mp hc
      have := wt_mem hq
      exact mulx_ok (bt_self q.1) (bt_self _) (by omega)
    have cm2 : CMulX l1 (s2 / g) := mulx_ok (bt_self l1) (bt_self _) (by omega)
    have cm3 : CMulX l2 (f * (s1 / g)) := mulx_ok (bt_self l2) (bt_self _) (by omega)
    have hz := tot_size w1.z w2.z w1.n w2.n hf ha1 ha2
    have hzl := tot_lim (m := m) hS1 hS2 hm
    have hv := tot_val (f := f) L.c w1.val w2.val
    have hx1 := prd_len hr1
    have hx2 := prd_len hr2
    have hpos : 0 < s1 * (s2 / g) := Int.mul_pos w1.pos L.p2
    have hsh : (s1 * (s2 / g)).toNat ≤ 2 ^ (S1.s + S2.s) := by
      rw [Nat.pow_add]
      have h1 : (s1 * (s2 / g)).natAbs = s1.natAbs * (s2 / g).natAbs := Int.natAbs_mul _ _
      have h2 : s1.natAbs * (s2 / g).natAbs ≤ 2 ^ S1.s * 2 ^ S2.s := Nat.mul_le_mul (nat_le_pow (Int.le_of_lt w1.pos) w1.s) ha2
      omega
    generalize s2 / g = a2 at *
    generalize s1 / g = a1 at *
    walk_at "go"
    intro tp htp
    generalize f * a1 = fa at *
    walk_at "go"
    have x0 : Ex H (L2.upd H tp (.tup [.int a2, .int fa])) := Ex.new htp
    generalize L2.upd H tp (.tup [.int a2, .int fa]) = H0 at x0 ⊢
    replace ha := x0 _ _ ha
    replace hb := x0 _ _ hb
    replace hp1 := x0.tup hp1
    replace hp2 := x0.tup hp2
    replace hr1 := RowsV.ex x0 hr1
    replace hr2 := RowsV.ex x0 hr2
    replace q : ∀ (r : Addr) (H' : Hp), Ex H0 H' → IsT K cap H' (d + 1) (totSz S1 S2 m) r (v + f * u) → Q (V.ref r) H' := fun r H' x => q r H' (x0.trans x)
    clear x0 htp H
    walk_at "go"
    intro D hD
    refine lc_grow (walk_tup (xs := xs1)) (σw := [some (V.ref a), some (V.ref b), some (V.int f), some (V.int (s1 * a2)), some (V.int a2), some (V.int fa), none, none, none]) rfl
      (fun i H v => ∃ cc ee t r, r1[i]? = some (cc, ee) ∧ v = .ref t ∧ SqT K H t [.int (cc * a2), .ref r] ∧ IsT K cap H d cap r ((ee : Nat) : Int)) hD (by omega) (fun _ x => x.tup hp1) (fun i Ha Hb v x h => ?_) ?_ ?_
    · obtain ⟨cc, ee, t, r, hq, rfl, kt, kr⟩ := h
      exact ⟨cc, ee, t, r, hq, rfl, x.tup kt, kr.ex x⟩
    · rintro i x Ha Hb acc R hi xa hacc ⟨rfl, hx⟩ hR
      obtain ⟨⟨cc, ee⟩, hq, t, r, rfl, kt, kr⟩ := prd_get hr1 hx
      have kt' : SqT K Hb t [.int cc, .ref r] := xa.tup kt
      have cm := cmA cc (List.mem_map.mpr ⟨(cc, ee), List.mem_of_getElem? hq, rfl⟩)
      walk_at "go"
      refine ⟨rfl, ?_⟩
      walk_at "go"
      intro t2 ht2
      have tD : t2 ≠ D := Ne.symm (ne_of_none hacc ht2)
      exact hR _ _ ⟨cc, ee, t2, r, hq, rfl, SqT.of ((hide_ne tD).trans upd_same), kr.ex ((xa.trans (Ex.new ht2)).hideN hD)⟩ (Ex.new ht2)
    · rintro Hc acc xc hacc hl2 hE
      have hra := (prd_mul (hl2.trans hx1) hE).ex (Ex.hide Hc D)
      have hb2 := xc _ _ hb
      have hp2c := xc.tup hp2
      walk_at "go"
      intro D2 hD2
      refine lc_grow (walk_tup (xs := xs2)) (σw := [some (V.ref a), some (V.ref b), some (V.int f), some (V.int (s1 * a2)), some (V.int a2), some (V.int fa), some (V.ref D), none, none]) rfl
        (fun i H v => ∃ cc ee t r, r2[i]? = some (cc, ee) ∧ v = .ref t ∧ SqT K H t [.int (cc * fa), .ref r] ∧ IsT K cap H d cap r ((ee : Nat) : Int)) hD2 (by omega) (fun _ x => x.tup (xc.tup hp2)) (fun i Ha Hb v x h => ?_) ?_ ?_
      · obtain ⟨cc, ee, t, r, hq, rfl, kt, kr⟩ := h
        exact ⟨cc, ee, t, r, hq, rfl, x.tup kt, kr.ex x⟩
      · rintro i x Ha Hb acc' R hi xa hacc' ⟨rfl, hx⟩ hR
        obtain ⟨⟨cc, ee⟩, hq, t, r, rfl, kt, kr⟩ := prd_get hr2 hx
        have kt' : SqT K Hb t [.int cc, .ref r] := xa.tup (xc.tup kt)
        have cm := cmB cc (List.mem_map.mpr ⟨(cc, ee), List.mem_of_getElem? hq, rfl⟩)
        walk_at "go"
        refine ⟨rfl, ?_⟩
        walk_at "go"
        intro t2 ht2
        have tD : t2 ≠ D2 := Ne.symm (ne_of_none hacc' ht2)
        exact hR _ _ ⟨cc, ee, t2, r, hq, rfl, SqT.of ((hide_ne tD).trans upd_same), kr.ex (((xc.trans xa).trans (Ex.new ht2)).hideN (Ex.free xc hD2))⟩ (Ex.new ht2)
      · rintro Hd acc2 xd hacc2 hl3 hE2
        have hra2 := (prd_mul (hl3.trans hx2) hE2).ex (Ex.hide Hd D2)
        have hacc3 := xd _ _ hacc
        walk_at "go"
        refine r_cat hacc3 hacc2 (Nat.le_trans (show acc.length + acc2.length ≤ 10000 by omega) (by decide)) fun D3 hD3 => ?_
        have x3 : Ex H0 (L2.upd Hd D3 (.lst (acc ++ acc2))) := (xc.trans xd).trans (Ex.new hD3)
        have ha3 := x3 _ _ ha
        have hb3 := x3 _ _ hb
        walk_at "go"
        refine ⟨D3, _, _, _, mulR a2 r1 ++ mulR fa r2, S1.s + S2.s, v + f * u, rfl, SqL.of upd_same, prd_append (RowsV.ex (xd.trans (Ex.new hD3)) hra) (RowsV.ex (Ex.new hD3) hra2), ?_, Nat.le_trans hz hzl, hpos, hsh, by omega, hv, fun r H' x' hr' => ?_⟩
        · rw [List.length_append, mulR_len, mulR_len]
          omega
        · have hle : Sz.Le ⟨wtR (mulR a2 r1 ++ mulR fa r2) + bt (l1 * a2 + l2 * fa), (mulR a2 r1 ++ mulR fa r2).length, S1.s + S2.s⟩ (totSz S1 S2 m) := by
            refine ⟨hz, ?_, Nat.le_refl _⟩
            show (mulR a2 r1 ++ mulR fa r2).length ≤ S1.n + S2.n
            rw [List.length_append, mulR_len, mulR_len]
            omega
          exact q r H' (x3.trans x') (hr'.mono hle)
end
end PW
/-! ### the operators; by depth -/
namespace PW
open PySem PySem.Spec PyProof.Rows L2
def Z0 : Sz := ⟨0, 0, 0⟩
theorem z0_lim : Z0.Le LIM := ⟨Nat.zero_le _, Nat.zero_le _, Nat.zero_le _⟩
def spAdd (K : PySem.W.Frag) (cap : Sz) (d : Nat) : Sp := fun vs H Q _ => ∃ a x S1 S2 v u, vs = [.ref a, x] ∧ IsT K cap H d S1 a v ∧ NumV K cap H d S2 x u ∧ S1.Le LIM ∧ S2.Le LIM ∧ ∀ r H', Ex H H' → IsT K cap H' d (totSz S1 S2 0) r (v + u) → Q (.ref r) H'
def spRsub (K : PySem.W.Frag) (cap : Sz) (d : Nat) : Sp := fun vs H Q _ => ∃ a x S1 S2 v u, vs = [.ref a, x] ∧ IsT K cap H d S1 a v ∧ NumV K cap H d S2 x u ∧ S1.Le LIM ∧ S2.Le LIM ∧ ∀ r H', Ex H H' → IsT K cap H' d (totSz S2 S1 0) r (u - v) → Q (.ref r) H'
def spNeg (K : PySem.W.Frag) (cap : Sz) (d : Nat) : Sp := fun vs H Q _ => ∃ a S v, vs = [.ref a] ∧ IsT K cap H d S a v ∧ S.Le LIM ∧ ∀ r H', Ex H H' → IsT K cap H' d (totSz Z0 S 0) r (-v) → Q (.ref r) H'
def spAbs (K : PySem.W.Frag) (cap : Sz) (d : Nat) : Sp := fun vs H Q _ => ∃ a S v, vs = [.ref a] ∧ IsT K cap H d S a v ∧ S.Le LIM ∧ ∀ r H', Ex H H' → IsT K cap H' d (totSz Z0 S 0) r (v.natAbs : Nat) → Q (.ref r) H'
def spMul (K : PySem.W.Frag) (cap : Sz) (d : Nat) : Sp := fun vs H Q _ => ∃ a f S m v, vs = [.ref a, .int f] ∧ IsT K cap H d S a v ∧ S.Le LIM ∧ f.natAbs ≤ 2 ^ m ∧ m ≤ 1200 ∧ ∀ r H', Ex H H' → IsT K cap H' d (totSz Z0 S m) r (v * f) → Q (.ref r) H'
def spEq (K : PySem.W.Frag) (cap : Sz) (d : Nat) : Sp := fun vs H Q _ => ∃ a x S1 v, vs = [.ref a, x] ∧ IsT K cap H d S1 a v ∧ S1.Le LIM ∧ ((∃ S2 u, NumV K cap H d S2 x u ∧ S2.Le LIM ∧ ∀ H', Ex H H' → Q (.bl (decide (v = u))) H') ∨ (Wh K H x false false ∧ ∀ H', Ex H H' → Q (.bl false) H'))
theorem sgn_zero {v : Int} : (sgn v = 0) ↔ v = 0 := by
  unfold sgn
  by_cases h1 : 0 < v
  · rw [if_pos h1]
    omega
  · rw [if_neg h1]
    by_cases h2 : v < 0
    · rw [if_pos h2]
      omega
    · rw [if_neg h2]
      omega
theorem sgn_pos {v : Int} : (0 < sgn v) ↔ 0 < v := by
  unfold sgn
  by_cases h1 : 0 < v
  · rw [if_pos h1]
    omega
  · rw [if_neg h1]
    by_cases h2 : v < 0
    · rw [if_pos h2]
      omega
    · rw [if_neg h2]
      omega
theorem sgn_neg {v : Int} : (sgn v < 0) ↔ v < 0 := by
  unfold sgn
  by_cases h1 : 0 < v
  · rw [if_pos h1]
    omega
  · rw [if_neg h1]
    by_cases h2 : v < 0
    · rw [if_pos h2]
      omega
    · rw [if_neg h2]
      omega
theorem IsT.pos {K : PySem.W.Frag} {H : Hp} {d : Nat} {S : Sz} {a : Addr} {v : Int} (h : IsT K cap H d S a v) : 1 ≤ d := by
  cases d with
  | zero => exact h.elim
  | succ d => omega
theorem totZ_le {S : Sz} : S.Le (totSz Z0 S 0) := by
  refine ⟨?_, ?_, ?_⟩
  · show S.z ≤ 0 + S.z + 0 * S.s + S.n * (0 + 0) + 0 + S.s + 0 + 1
    omega
  · show S.n ≤ 0 + S.n
    omega
  · show S.s ≤ 0 + S.s
    omega
theorem NumV.int {K : PySem.W.Frag} {H : Hp} {d : Nat} {i : Int} (h : 1 ≤ d) : NumV K cap H d ⟨bt i, 0, 0⟩ (.int i) i := .inr ⟨rfl, Sz.Le.refl _, h⟩
section
variable {P : Program} {w : World} {K : PySem.W.Frag} {mg : Str → Option Value} {base : Heap}
theorem ok_sub {k d : Nat} {cap : Sz} (T : Txt K mg)
    (G_total : FnOk P w K mg base CX0 k (He.ga K "total") (fdOf K (He.ga K "total")) p_total (spTotal K cap d))
    (G_is_number : FnOk P w K mg base CX0 k (He.ga K "is_number") (fdOf K (He.ga K "is_number")) p_is_number (spNumber K))
    (G_tower_of : FnOk P w K mg base CX0 k (He.ga K "tower_of") (fdOf K (He.ga K "tower_of")) p_tower_of (spTowerOf K)) :
    FnOk P w K mg base CX0 (k + 1) (He.ma K (He.ga K "Tower") "__sub__") (fdOf K (He.fAd K ("Tower", some "__sub__"))) p_Tower___sub__ (spSub K cap d) := by
  refine FunD.ok T.d_Tower___sub__ sc_Tower___sub__ (fun vs H Q E h => ?_) (fun cdv A outer s H vs Q E hr h => ?_)
  · obtain ⟨a, x, S1, S2, v, u, rfl, _⟩ := h
    rfl
  · obtain ⟨a, x, S1, S2, v, u, rfl, ha, hx, hS1, hS2, q⟩ := h
    obtain ⟨b, t, wh, hbt⟩ := hx.wh
    refine ⟨_, PSs.nox ((pss_cons (ps_if (pt_not (pt_val (pe_call G_is_number hr rfl T.g_is_number T.d_is_number.kp (b_is_number T) .nil pass0 (pa_cons (pv 1) pa_nil))))
      (pss_one ps_never)
      pss_nil)
    (pss_one (ps_ret (pe_call G_total hr rfl T.g_total T.d_total.kp (b_total T) .nil pass0 (pa_cons (pv 0) (pa_cons (pe_call G_tower_of hr rfl T.g_tower_of T.d_tower_of.kp (b_tower_of T) .nil pass0 (pa_cons (pv 1) pa_nil)) (pa_cons (pe_un un_neg pe_int) pa_nil)))))))), ?_⟩
    show tSeq _ _ _ [some (V.ref a), some x] H
    walk_at "K"
    walk_at "go"
    refine ⟨x, b, t, rfl, wh, ?_⟩
    rw [hbt]
    walk_at "go"
    refine ⟨cap, x, d, S2, u, rfl, hx, fun r H1 x1 hr1 => ?_⟩
    walk_at "go"
    refine ⟨a, r, _, S1, S2, 0, v, u, rfl, ha.ex x1, hr1, hS1, hS2, by decide, by decide, fun r' H' x' h' => q r' H' (x1.trans x') ?_⟩
    have e : v - u = v + -1 * u := by omega
    rw [e]
    exact h'
theorem ok_above1 {k d : Nat} {cap : Sz} (T : Txt K mg)
    (G_Tower___sub__ : FnOk P w K mg base CX0 k (He.ma K (He.ga K "Tower") "__sub__") (fdOf K (He.fAd K ("Tower", some "__sub__"))) p_Tower___sub__ (spSub K cap d))
    (G_Tower_sign : FnOk P w K mg base CX0 k (He.ma K (He.ga K "Tower") "sign") (fdOf K (He.fAd K ("Tower", some "sign"))) p_Tower_sign (spSign K)) :
    FnOk P w K mg base CX0 (k + 1) (He.ma K (He.ga K "Tower") "above") (fdOf K (He.fAd K ("Tower", some "above"))) p_Tower_above (spAbove K cap d) := by
  refine FunD.ok T.d_Tower_above sc_Tower_above (fun vs H Q E h => ?_) (fun cdv A outer s H vs Q E hr h => ?_)
  · obtain ⟨a, x, S1, S2, v, u, rfl, _⟩ := h
    rfl
  · obtain ⟨a, x, S1, S2, v, u, rfl, ha, hx, hS1, hS2, q⟩ := h
    refine ⟨_, PSs.nox ((pss_one (ps_ret (pe_cmpR op_gt (pe_meth0 (pe_op (PW.op_ownB T.o_Tower___sub__ G_Tower___sub__ hr (b_Tower___sub__ T) pass0) (pv 0) (pv 1)) T.k_Tower T.m_Tower_sign G_Tower_sign hr (b_Tower_sign T) .nil pass0) pe_int (nomark _))))), ?_⟩
    show tRet _ _ [some (V.ref a), some x] H
    walk_at "K"
    walk_at "go"
    refine rOwn_num rfl ha hx ?_
    refine ⟨a, x, S1, S2, v, u, rfl, ha, hx, hS1, hS2, fun r H1 x1 hr1 => ?_⟩
    obtain ⟨dx, fl, fp, fs, hri⟩ := hr1.ins'
    walk_at "go"
    refine ⟨cap, r, d, _, _, rfl, hr1, fun H2 x2 => ?_⟩
    walk_at "go"
    have e : decide (0 < sgn (v - u)) = decide (u < v) := decide_eq_decide.mpr (sgn_pos.trans (by omega))
    rw [e]
    exact q H2 (x1.trans x2)
/-- the level at depth d -/
abbrev lv (d : Nat) : Nat := 4 + 6 * d
theorem ok_core {cap : Sz} (cap_lim : cap.Le LIM) (T : Txt K mg) : ∀ d : Nat, FnOk P w K mg base CX0 (lv d) (He.ga K "total") (fdOf K (He.ga K "total")) p_total (spTotal K cap d) ∧
    FnOk P w K mg base CX0 (lv d) (He.ma K (He.ga K "Tower") "__sub__") (fdOf K (He.fAd K ("Tower", some "__sub__"))) p_Tower___sub__ (spSub K cap d) ∧
    FnOk P w K mg base CX0 (lv d) (He.ma K (He.ga K "Tower") "above") (fdOf K (He.fAd K ("Tower", some "above"))) p_Tower_above (spAbove K cap d)
  | 0 => ⟨fnOk_none (fun vs H Q E h => by obtain ⟨a, b, f, S1, S2, m, v, u, rfl, ha, _⟩ := h; exact ha), fnOk_none (fun vs H Q E h => by obtain ⟨a, x, S1, S2, v, u, rfl, ha, _⟩ := h; exact ha), fnOk_none (fun vs H Q E h => by obtain ⟨a, x, S1, S2, v, u, rfl, ha, _⟩ := h; exact ha)⟩
  | d + 1 => by
    obtain ⟨h1, h2, h3⟩ := ok_core cap_lim T d
    have o := ok_ordered cap_lim T h3
    have g := ok_gathered cap_lim T o ((ok_bits T).mono (by omega)) ((ok_doubled T).mono (by omega)) ((ok_small T).mono (by omega)) (h2.mono (by omega))
    have st := ok_settled (k := lv d + 1) T g ((ok_bits T).mono (by omega)) ((ok_doubled T).mono (by omega)) ((ok_common T).mono (by omega)) ((ok_small T).mono (by omega)) ((ok_init T).mono (by show 2 ≤ 4 + 6 * d + 1; omega))
    have t := ok_total T st ((ok_common T).mono (by omega))
    have s := ok_sub T t ((ok_is_number T).mono (by show 2 ≤ 4 + 6 * d + 4; omega)) ((ok_tower_of T).mono (by show 4 ≤ 4 + 6 * d + 4; omega))
    have a := ok_above1 T s ((ok_sign T).mono (by omega))
    exact ⟨t.mono (by show 4 + 6 * d + 4 ≤ 4 + 6 * (d + 1); omega), s.mono (by show 4 + 6 * d + 5 ≤ 4 + 6 * (d + 1); omega), a.mono (by show 4 + 6 * d + 6 ≤ 4 + 6 * (d + 1); omega)⟩
end
end PW
/-! ### +, - reflected, negative, abs, *, ==, power -/
namespace PW
open PySem PySem.Spec PyProof.Rows L2
theorem IsT.cap {K : PySem.W.Frag} {c c' : Sz} {H : Hp} (x : c.Le c') : ∀ {d : Nat} {S : Sz} {a : Addr} {v : Int}, IsT K c H d S a v → IsT K c' H d S a v
  | 0, _, _, _, h => h.elim
  | d + 1, S, a, v, h => by
    obtain ⟨dx, low, p, share, xs, rows, h1, h2, h3, h4⟩ := h
    refine ⟨dx, low, p, share, xs, rows, h1, h2, L2.Paired.mapP h3 fun y q hq => ?_, h4⟩
    obtain ⟨t, r, e, k1, k2⟩ := hq
    exact ⟨t, r, e, k1, (IsT.cap x k2).mono x⟩
/-- 2 to the power, 0 for a negative one -/
def pw2 (v : Int) : Int := if v < 0 then 0 else 2 ^ v.toNat
def PSZ : Sz := ⟨266, 1, 0⟩
def spPower (K : PySem.W.Frag) (cap : Sz) (d : Nat) : Sp := fun vs H Q _ => ∃ x S v, vs = [x] ∧ NumV K cap H d S x v ∧ S.Le cap ∧ ∀ r H', Ex H H' → IsT K cap H' (d + 1) PSZ r (pw2 v) → Q (.ref r) H'
theorem Wf.pow {e : Nat} (h : 256 < e) : Wf PSZ 0 [(1, e)] 1 (2 ^ e) := by
  have b1 : bt 1 = 1 := by decide
  have b0 : bt 0 = 0 := rfl
  refine ⟨⟨by decide, ?_, trivial⟩, by decide, ?_, fun z => (nomatch z), fun _ _ _ _ => .inl rfl, ?_, Nat.le_refl 1, by decide⟩
  · show bt 0 + 256 < e
    omega
  · show 2 ^ e * 1 = 1 * 2 ^ e + 0 + 0
    omega
  · show bt 1 + 265 + 0 + bt 0 ≤ 266
    omega
section
variable {P : Program} {w : World} {K : PySem.W.Frag} {mg : Str → Option Value} {base : Heap}
theorem ok_add {k d : Nat} {cap : Sz} (T : Txt K mg)
    (G_total : FnOk P w K mg base CX0 k (He.ga K "total") (fdOf K (He.ga K "total")) p_total (spTotal K cap d))
    (G_is_number : FnOk P w K mg base CX0 k (He.ga K "is_number") (fdOf K (He.ga K "is_number")) p_is_number (spNumber K))
    (G_tower_of : FnOk P w K mg base CX0 k (He.ga K "tower_of") (fdOf K (He.ga K "tower_of")) p_tower_of (spTowerOf K)) :
    FnOk P w K mg base CX0 (k + 1) (He.ma K (He.ga K "Tower") "__add__") (fdOf K (He.fAd K ("Tower", some "__add__"))) p_Tower___add__ (spAdd K cap d) := by
  refine FunD.ok T.d_Tower___add__ sc_Tower___add__ (fun vs H Q E h => ?_) (fun cdv A outer s H vs Q E hr h => ?_)
  · obtain ⟨a, x, S1, S2, v, u, rfl, _⟩ := h
    rfl
  · obtain ⟨a, x, S1, S2, v, u, rfl, ha, hx, hS1, hS2, q⟩ := h
    obtain ⟨b, t, wh, hbt⟩ := hx.wh
    refine ⟨_, PSs.nox ((pss_cons (ps_if (pt_not (pt_val (pe_call G_is_number hr rfl T.g_is_number T.d_is_number.kp (b_is_number T) .nil pass0 (pa_cons (pv 1) pa_nil))))
      (pss_one ps_never)
      pss_nil)
    (pss_one (ps_ret (pe_call G_total hr rfl T.g_total T.d_total.kp (b_total T) .nil pass0 (pa_cons (pv 0) (pa_cons (pe_call G_tower_of hr rfl T.g_tower_of T.d_tower_of.kp (b_tower_of T) .nil pass0 (pa_cons (pv 1) pa_nil)) (pa_cons pe_int pa_nil)))))))), ?_⟩
    show tSeq _ _ _ [some (V.ref a), some x] H
    walk_at "K"
    walk_at "go"
    refine ⟨x, b, t, rfl, wh, ?_⟩
    rw [hbt]
    walk_at "go"
    refine ⟨cap, x, d, S2, u, rfl, hx, fun r H1 x1 hr1 => ?_⟩
    walk_at "go"
    refine ⟨a, r, _, S1, S2, 0, v, u, rfl, ha.ex x1, hr1, hS1, hS2, by decide, by decide, fun r' H' x' h' => q r' H' (x1.trans x') ?_⟩
    have e : v + u = v + 1 * u := by omega
    rw [e]
    exact h'
theorem ok_radd {k d : Nat} {cap : Sz} (T : Txt K mg)
    (G_total : FnOk P w K mg base CX0 k (He.ga K "total") (fdOf K (He.ga K "total")) p_total (spTotal K cap d))
    (G_is_number : FnOk P w K mg base CX0 k (He.ga K "is_number") (fdOf K (He.ga K "is_number")) p_is_number (spNumber K))
    (G_tower_of : FnOk P w K mg base CX0 k (He.ga K "tower_of") (fdOf K (He.ga K "tower_of")) p_tower_of (spTowerOf K)) :
    FnOk P w K mg base CX0 (k + 1) (He.ma K (He.ga K "Tower") "__radd__") (fdOf K (He.fAd K ("Tower", some "__radd__"))) p_Tower___radd__ (spAdd K cap d) := by
  refine FunD.ok T.d_Tower___radd__ sc_Tower___radd__ (fun vs H Q E h => ?_) (fun cdv A outer s H vs Q E hr h => ?_)
  · obtain ⟨a, x, S1, S2, v, u, rfl, _⟩ := h
    rfl
  · obtain ⟨a, x, S1, S2, v, u, rfl, ha, hx, hS1, hS2, q⟩ := h
    obtain ⟨b, t, wh, hbt⟩ := hx.wh
    refine ⟨_, PSs.nox ((pss_cons (ps_if (pt_not (pt_val (pe_call G_is_number hr rfl T.g_is_number T.d_is_number.kp (b_is_number T) .nil pass0 (pa_cons (pv 1) pa_nil))))
      (pss_one ps_never)
      pss_nil)
    (pss_one (ps_ret (pe_call G_total hr rfl T.g_total T.d_total.kp (b_total T) .nil pass0 (pa_cons (pv 0) (pa_cons (pe_call G_tower_of hr rfl T.g_tower_of T.d_tower_of.kp (b_tower_of T) .nil pass0 (pa_cons (pv 1) pa_nil)) (pa_cons pe_int pa_nil)))))))), ?_⟩
    show tSeq _ _ _ [some (V.ref a), some x] H
    walk_at "K"
    walk_at "go"
    refine ⟨x, b, t, rfl, wh, ?_⟩
    rw [hbt]
    walk_at "go"
    refine ⟨cap, x, d, S2, u, rfl, hx, fun r H1 x1 hr1 => ?_⟩
    walk_at "go"
    refine ⟨a, r, _, S1, S2, 0, v, u, rfl, ha.ex x1, hr1, hS1, hS2, by decide, by decide, fun r' H' x' h' => q r' H' (x1.trans x') ?_⟩
    have e : v + u = v + 1 * u := by omega
    rw [e]
    exact h'
theorem ok_rsub {k d : Nat} {cap : Sz} (T : Txt K mg)
    (G_total : FnOk P w K mg base CX0 k (He.ga K "total") (fdOf K (He.ga K "total")) p_total (spTotal K cap d))
    (G_is_number : FnOk P w K mg base CX0 k (He.ga K "is_number") (fdOf K (He.ga K "is_number")) p_is_number (spNumber K))
    (G_tower_of : FnOk P w K mg base CX0 k (He.ga K "tower_of") (fdOf K (He.ga K "tower_of")) p_tower_of (spTowerOf K)) :
    FnOk P w K mg base CX0 (k + 1) (He.ma K (He.ga K "Tower") "__rsub__") (fdOf K (He.fAd K ("Tower", some "__rsub__"))) p_Tower___rsub__ (spRsub K cap d) := by
  refine FunD.ok T.d_Tower___rsub__ sc_Tower___rsub__ (fun vs H Q E h => ?_) (fun cdv A outer s H vs Q E hr h => ?_)
  · obtain ⟨a, x, S1, S2, v, u, rfl, _⟩ := h
    rfl
  · obtain ⟨a, x, S1, S2, v, u, rfl, ha, hx, hS1, hS2, q⟩ := h
    obtain ⟨b, t, wh, hbt⟩ := hx.wh
    refine ⟨_, PSs.nox ((pss_cons (ps_if (pt_not (pt_val (pe_call G_is_number hr rfl T.g_is_number T.d_is_number.kp (b_is_number T) .nil pass0 (pa_cons (pv 1) pa_nil))))
      (pss_one ps_never)
      pss_nil)
    (pss_one (ps_ret (pe_call G_total hr rfl T.g_total T.d_total.kp (b_total T) .nil pass0 (pa_cons (pe_call G_tower_of hr rfl T.g_tower_of T.d_tower_of.kp (b_tower_of T) .nil pass0 (pa_cons (pv 1) pa_nil)) (pa_cons (pv 0) (pa_cons (pe_un un_neg pe_int) pa_nil)))))))), ?_⟩
    show tSeq _ _ _ [some (V.ref a), some x] H
    walk_at "K"
    walk_at "go"
    refine ⟨x, b, t, rfl, wh, ?_⟩
    rw [hbt]
    walk_at "go"
    refine ⟨cap, x, d, S2, u, rfl, hx, fun r H1 x1 hr1 => ?_⟩
    walk_at "go"
    refine ⟨r, a, _, S2, S1, 0, u, v, rfl, hr1, ha.ex x1, hS2, hS1, by decide, by decide, fun r' H' x' h' => q r' H' (x1.trans x') ?_⟩
    have e : u - v = u + -1 * v := by omega
    rw [e]
    exact h'
theorem ok_neg {k d : Nat} {cap : Sz} (T : Txt K mg)
    (G_total : FnOk P w K mg base CX0 (k + 1) (He.ga K "total") (fdOf K (He.ga K "total")) p_total (spTotal K cap d))
    (G_Tower___init__ : FnOk P w K mg base CX0 k (He.ma K (He.ga K "Tower") "__init__") (fdOf K (He.fAd K ("Tower", some "__init__"))) p_Tower___init__ (spInit K)) :
    FnOk P w K mg base CX0 (k + 2) (He.ma K (He.ga K "Tower") "__neg__") (fdOf K (He.fAd K ("Tower", some "__neg__"))) p_Tower___neg__ (spNeg K cap d) := by
  refine FunD.ok T.d_Tower___neg__ sc_Tower___neg__ (fun vs H Q E h => ?_) (fun cdv A outer s H vs Q E hr h => ?_)
  · obtain ⟨a, S, v, rfl, _⟩ := h
    rfl
  · obtain ⟨a, S, v, rfl, ha, hS, q⟩ := h
    refine ⟨_, PSs.nox ((pss_one (ps_ret (pe_call G_total hr rfl T.g_total T.d_total.kp (b_total T) .nil pass0 (pa_cons (pe_make T.mk_Tower G_Tower___init__ hr rfl T.g_Tower (b_Tower___init___2 T) (dv_Tower___init___2 T) pass0 (pa_cons pe_int pa_nil)) (pa_cons (pv 0) (pa_cons (pe_un un_neg pe_int) pa_nil))))))), ?_⟩
    show tRet _ _ [some (V.ref a)] H
    walk_at "K"
    walk_at "go"
    have hd := ha.pos
    obtain ⟨d, rfl⟩ : ∃ d', d = d' + 1 := ⟨d - 1, by omega⟩
    refine mk_plain (d := d) (cap := cap) T.e_Tower___init___parts (Sz.Le.refl _) fun r H1 x1 h1 => ?_
    walk_at "go"
    refine ⟨r, a, _, Z0, S, 0, 0, v, rfl, h1, ha.ex x1, z0_lim, hS, by decide, by decide, fun r' H' x' h' => q r' H' (x1.trans x') ?_⟩
    have e : -v = 0 + -1 * v := by omega
    rw [e]
    exact h'
theorem ok_mul {k d : Nat} {cap : Sz} (T : Txt K mg)
    (G_total : FnOk P w K mg base CX0 (k + 1) (He.ga K "total") (fdOf K (He.ga K "total")) p_total (spTotal K cap d))
    (G_is_whole : FnOk P w K mg base CX0 (k + 1) (He.ga K "is_whole") (fdOf K (He.ga K "is_whole")) p_is_whole (spWhole K))
    (G_Tower___init__ : FnOk P w K mg base CX0 k (He.ma K (He.ga K "Tower") "__init__") (fdOf K (He.fAd K ("Tower", some "__init__"))) p_Tower___init__ (spInit K)) :
    FnOk P w K mg base CX0 (k + 2) (He.ma K (He.ga K "Tower") "__mul__") (fdOf K (He.fAd K ("Tower", some "__mul__"))) p_Tower___mul__ (spMul K cap d) := by
  refine FunD.ok T.d_Tower___mul__ sc_Tower___mul__ (fun vs H Q E h => ?_) (fun cdv A outer s H vs Q E hr h => ?_)
  · obtain ⟨a, f, S, m, v, rfl, _⟩ := h
    rfl
  · obtain ⟨a, f, S, m, v, rfl, ha, hS, hf, hm, q⟩ := h
    refine ⟨_, PSs.nox ((pss_cons (ps_if (pt_not (pt_val (pe_call G_is_whole hr rfl T.g_is_whole T.d_is_whole.kp (b_is_whole T) .nil pass0 (pa_cons (pv 1) pa_nil))))
      (pss_one ps_never)
      pss_nil)
    (pss_one (ps_ret (pe_call G_total hr rfl T.g_total T.d_total.kp (b_total T) .nil pass0 (pa_cons (pe_make T.mk_Tower G_Tower___init__ hr rfl T.g_Tower (b_Tower___init___2 T) (dv_Tower___init___2 T) pass0 (pa_cons pe_int pa_nil)) (pa_cons (pv 0) (pa_cons (pv 1) pa_nil)))))))), ?_⟩
    show tSeq _ _ _ [some (V.ref a), some (V.int f)] H
    walk_at "K"
    walk_at "go"
    refine ⟨_, _, _, rfl, .int f, ?_⟩
    walk_at "go"
    have hd := ha.pos
    obtain ⟨d, rfl⟩ : ∃ d', d = d' + 1 := ⟨d - 1, by omega⟩
    refine mk_plain (d := d) (cap := cap) T.e_Tower___init___parts (Sz.Le.refl _) fun r H1 x1 h1 => ?_
    walk_at "go"
    refine ⟨r, a, f, Z0, S, m, 0, v, rfl, h1, ha.ex x1, z0_lim, hS, hf, hm, fun r' H' x' h' => q r' H' (x1.trans x') ?_⟩
    have e : v * f = 0 + f * v := by rw [Int.mul_comm]; omega
    rw [e]
    exact h'
theorem ok_rmul {k d : Nat} {cap : Sz} (T : Txt K mg)
    (G_total : FnOk P w K mg base CX0 (k + 1) (He.ga K "total") (fdOf K (He.ga K "total")) p_total (spTotal K cap d))
    (G_is_whole : FnOk P w K mg base CX0 (k + 1) (He.ga K "is_whole") (fdOf K (He.ga K "is_whole")) p_is_whole (spWhole K))
    (G_Tower___init__ : FnOk P w K mg base CX0 k (He.ma K (He.ga K "Tower") "__init__") (fdOf K (He.fAd K ("Tower", some "__init__"))) p_Tower___init__ (spInit K)) :
    FnOk P w K mg base CX0 (k + 2) (He.ma K (He.ga K "Tower") "__rmul__") (fdOf K (He.fAd K ("Tower", some "__rmul__"))) p_Tower___rmul__ (spMul K cap d) := by
  refine FunD.ok T.d_Tower___rmul__ sc_Tower___rmul__ (fun vs H Q E h => ?_) (fun cdv A outer s H vs Q E hr h => ?_)
  · obtain ⟨a, f, S, m, v, rfl, _⟩ := h
    rfl
  · obtain ⟨a, f, S, m, v, rfl, ha, hS, hf, hm, q⟩ := h
    refine ⟨_, PSs.nox ((pss_cons (ps_if (pt_not (pt_val (pe_call G_is_whole hr rfl T.g_is_whole T.d_is_whole.kp (b_is_whole T) .nil pass0 (pa_cons (pv 1) pa_nil))))
      (pss_one ps_never)
      pss_nil)
    (pss_one (ps_ret (pe_call G_total hr rfl T.g_total T.d_total.kp (b_total T) .nil pass0 (pa_cons (pe_make T.mk_Tower G_Tower___init__ hr rfl T.g_Tower (b_Tower___init___2 T) (dv_Tower___init___2 T) pass0 (pa_cons pe_int pa_nil)) (pa_cons (pv 0) (pa_cons (pv 1) pa_nil)))))))), ?_⟩
    show tSeq _ _ _ [some (V.ref a), some (V.int f)] H
    walk_at "K"
    walk_at "go"
    refine ⟨_, _, _, rfl, .int f, ?_⟩
    walk_at "go"
    have hd := ha.pos
    obtain ⟨d, rfl⟩ : ∃ d', d = d' + 1 := ⟨d - 1, by omega⟩
    refine mk_plain (d := d) (cap := cap) T.e_Tower___init___parts (Sz.Le.refl _) fun r H1 x1 h1 => ?_
    walk_at "go"
    refine ⟨r, a, f, Z0, S, m, 0, v, rfl, h1, ha.ex x1, z0_lim, hS, hf, hm, fun r' H' x' h' => q r' H' (x1.trans x') ?_⟩
    have e : v * f = 0 + f * v := by rw [Int.mul_comm]; omega
    rw [e]
    exact h'
theorem ok_abs {k d : Nat} {cap : Sz} (T : Txt K mg)
    (G_Tower___neg__ : FnOk P w K mg base CX0 k (He.ma K (He.ga K "Tower") "__neg__") (fdOf K (He.fAd K ("Tower", some "__neg__"))) p_Tower___neg__ (spNeg K cap d))
    (G_Tower_sign : FnOk P w K mg base CX0 k (He.ma K (He.ga K "Tower") "sign") (fdOf K (He.fAd K ("Tower", some "sign"))) p_Tower_sign (spSign K)) :
    FnOk P w K mg base CX0 (k + 1) (He.ma K (He.ga K "Tower") "__abs__") (fdOf K (He.fAd K ("Tower", some "__abs__"))) p_Tower___abs__ (spAbs K cap d) := by
  refine FunD.ok T.d_Tower___abs__ sc_Tower___abs__ (fun vs H Q E h => ?_) (fun cdv A outer s H vs Q E hr h => ?_)
  · obtain ⟨a, S, v, rfl, _⟩ := h
    rfl
  · obtain ⟨a, S, v, rfl, ha, hS, q⟩ := h
    refine ⟨_, PSs.nox ((pss_one (ps_ret (pe_ifExp (pt_cmpR op_lt (pe_meth0 (pv 0) T.k_Tower T.m_Tower_sign G_Tower_sign hr (b_Tower_sign T) .nil pass0) pe_int (nomark _)) (pe_un (PW.un_own T.m_Tower___neg__.at_ T.m_Tower___neg__.fn G_Tower___neg__ hr (b_Tower___neg__ T) pass0) (pv 0)) (pv 0))))), ?_⟩
    show tRet _ _ [some (V.ref a)] H
    walk_at "K"
    obtain ⟨dx, fl, fp, fs, hri⟩ := ha.ins'
    walk_at "go"
    refine ⟨cap, a, d, _, _, rfl, ha, fun H1 x1 => ?_⟩
    walk_at "go"
    have hri1 := x1 _ _ hri
    refine r_if2 (fun e => ?_) (fun e => ?_)
    · have h0 := sgn_neg.mp (of_decide_eq_true e)
      walk_at "go"
      refine ⟨a, dx, _, rfl, hri1, a, S, v, rfl, ha.ex x1, hS, fun r H2 x2 h2 => q r H2 (x1.trans x2) ?_⟩
      have e : ((v.natAbs : Nat) : Int) = -v := by omega
      rw [e]
      exact h2
    · have h0 : ¬ v < 0 := fun z => of_decide_eq_false e (sgn_neg.mpr z)
      walk_at "go"
      refine q a H1 x1 ?_
      have e : ((v.natAbs : Nat) : Int) = v := by omega
      rw [e]
      exact (ha.ex x1).mono totZ_le
theorem ok_eq {k d : Nat} {cap : Sz} (T : Txt K mg)
    (G_is_number : FnOk P w K mg base CX0 k (He.ga K "is_number") (fdOf K (He.ga K "is_number")) p_is_number (spNumber K))
    (G_Tower___sub__ : FnOk P w K mg base CX0 k (He.ma K (He.ga K "Tower") "__sub__") (fdOf K (He.fAd K ("Tower", some "__sub__"))) p_Tower___sub__ (spSub K cap d))
    (G_Tower_sign : FnOk P w K mg base CX0 k (He.ma K (He.ga K "Tower") "sign") (fdOf K (He.fAd K ("Tower", some "sign"))) p_Tower_sign (spSign K)) :
    FnOk P w K mg base CX0 (k + 1) (He.ma K (He.ga K "Tower") "__eq__") (fdOf K (He.fAd K ("Tower", some "__eq__"))) p_Tower___eq__ (spEq K cap d) := by
  refine FunD.ok T.d_Tower___eq__ sc_Tower___eq__ (fun vs H Q E h => ?_) (fun cdv A outer s H vs Q E hr h => ?_)
  · obtain ⟨a, x, S, v, rfl, _⟩ := h
    rfl
  · obtain ⟨a, x, S1, v, rfl, ha, hS1, hx⟩ := h
    refine ⟨_, PSs.nox ((pss_cons (ps_if (pt_not (pt_val (pe_call G_is_number hr rfl T.g_is_number T.d_is_number.kp (b_is_number T) .nil pass0 (pa_cons (pv 1) pa_nil))))
      (pss_one (ps_ret pe_bl))
      pss_nil)
    (pss_one (ps_ret (pe_cmpR op_eq (pe_meth0 (pe_op (PW.op_ownB T.o_Tower___sub__ G_Tower___sub__ hr (b_Tower___sub__ T) pass0) (pv 0) (pv 1)) T.k_Tower T.m_Tower_sign G_Tower_sign hr (b_Tower_sign T) .nil pass0) pe_int (nomark _)))))), ?_⟩
    show tSeq _ _ _ [some (V.ref a), some x] H
    walk_at "K"
    walk_at "go"
    rcases hx with ⟨S2, u, hx, hS2, q⟩ | ⟨wh, q⟩
    · obtain ⟨b, t, wh, hbt⟩ := hx.wh
      refine ⟨x, b, t, rfl, wh, ?_⟩
      rw [hbt]
      walk_at "go"
      refine rOwn_num rfl ha hx ?_
      refine ⟨a, x, S1, S2, v, u, rfl, ha, hx, hS1, hS2, fun r H1 x1 hr1 => ?_⟩
      obtain ⟨dx, fl, fp, fs, hri⟩ := hr1.ins'
      walk_at "go"
      refine ⟨cap, r, d, _, _, rfl, hr1, fun H2 x2 => ?_⟩
      walk_at "go"
      have e : decide (V.int (sgn (v - u)) = V.int 0) = decide (v = u) := decide_eq_decide.mpr ⟨fun z => by
        have := sgn_zero.mp (V.int.inj z)
        omega, fun z => congrArg V.int (sgn_zero.mpr (by omega))⟩
      rw [e]
      exact q H2 (x1.trans x2)
    · refine ⟨x, _, _, rfl, wh, ?_⟩
      walk_at "go"
      exact q H (Ex.refl _)
theorem ok_power {k d : Nat} {cap : Sz} (T : Txt K mg)
    (G_is_number : FnOk P w K mg base CX0 (k + 1) (He.ga K "is_number") (fdOf K (He.ga K "is_number")) p_is_number (spNumber K))
    (G_tower_of : FnOk P w K mg base CX0 (k + 1) (He.ga K "tower_of") (fdOf K (He.ga K "tower_of")) p_tower_of (spTowerOf K))
    (G_doubled : FnOk P w K mg base CX0 (k + 1) (He.ga K "doubled") (fdOf K (He.ga K "doubled")) p_doubled spDoubled)
    (G_Tower_small : FnOk P w K mg base CX0 (k + 1) (He.ma K (He.ga K "Tower") "small") (fdOf K (He.fAd K ("Tower", some "small"))) p_Tower_small (spSmall K))
    (G_Tower_sign : FnOk P w K mg base CX0 (k + 1) (He.ma K (He.ga K "Tower") "sign") (fdOf K (He.fAd K ("Tower", some "sign"))) p_Tower_sign (spSign K))
    (G_Tower___init__ : FnOk P w K mg base CX0 k (He.ma K (He.ga K "Tower") "__init__") (fdOf K (He.fAd K ("Tower", some "__init__"))) p_Tower___init__ (spInit K)) :
    FnOk P w K mg base CX0 (k + 2) (sgA "Tower" "power" K) (fdOf K (sgA "Tower" "power" K)) p_Tower_power (spPower K cap d) := by
  refine FunD.ok T.d_Tower_power sc_Tower_power (fun vs H Q E h => ?_) (fun cdv A outer s H vs Q E hr h => ?_)
  · obtain ⟨x, S, v, rfl, _⟩ := h
    rfl
  · obtain ⟨x, S, v, rfl, hx, hS, q⟩ := h
    obtain ⟨b, t, wh, hbt⟩ := hx.wh
    refine ⟨_, PSs.nox ((pss_cons (ps_if (pt_not (pt_val (pe_call G_is_number hr rfl T.g_is_number T.d_is_number.kp (b_is_number T) .nil pass0 (pa_cons (pv 0) pa_nil))))
      (pss_one ps_never)
      pss_nil)
    (pss_cons (ps_set (i := 1) sc_Tower_power.nd rfl (Or.inl rfl) (pe_call G_tower_of hr rfl T.g_tower_of T.d_tower_of.kp (b_tower_of T) .nil pass0 (pa_cons (pv 0) pa_nil)))
    (pss_cons (ps_if (pt_cmpR op_lt (pe_meth0 (pv 1) T.k_Tower T.m_Tower_sign G_Tower_sign hr (b_Tower_sign T) .nil pass0) pe_int (nomark _))
      (pss_one (ps_ret (pe_make T.mk_Tower G_Tower___init__ hr rfl T.g_Tower (b_Tower___init___2 T) (dv_Tower___init___2 T) pass0 (pa_cons pe_int pa_nil))))
      pss_nil)
    (pss_cons (ps_set (i := 2) sc_Tower_power.nd rfl (Or.inl rfl) (pe_meth0 (pv 1) T.k_Tower T.m_Tower_small G_Tower_small hr (b_Tower_small T) .nil pass0))
    (pss_cons (ps_if (PW.pt (pw_and (pt_cmp (pc_notN (pv 2)) rfl) (pw_and1 (pt_cmpR op_le (pv 2) (pe_gint rfl T.c_PLAIN) (nomark _)))))
      (pss_one (ps_ret (pe_make T.mk_Tower G_Tower___init__ hr rfl T.g_Tower (b_Tower___init___2 T) (dv_Tower___init___2 T) pass0 (pa_cons (pe_call G_doubled hr rfl T.g_doubled T.d_doubled.kp (b_doubled T) .nil pass0 (pa_cons (pv 2) pa_nil)) pa_nil))))
      pss_nil)
    (pss_one (ps_ret (pe_makeK T.mk_Tower G_Tower___init__ hr rfl T.g_Tower (kb_Tower___init___1_parts T) pass0 (pa_cons pe_int pa_nil) (pk_cons (pe_tup (pa_cons (pe_tup (pa_cons pe_int (pa_cons (pv 1) pa_nil))) pa_nil)) pk_nil)))))))))), ?_⟩
    show tSeq _ _ _ [some x, none, none] H
    walk_at "K"
    walk_at "go"
    refine ⟨x, b, t, rfl, wh, ?_⟩
    rw [hbt]
    walk_at "go"
    refine ⟨cap, x, d, S, v, rfl, hx, fun r H1 x1 hr1 => ?_⟩
    obtain ⟨dx, fl, fp, fs, hri⟩ := hr1.ins'
    walk_at "go"
    refine ⟨cap, r, d, _, _, rfl, hr1, fun H2 x2 => ?_⟩
    have hri2 := x2 _ _ hri
    walk_at "go"
    refine r_if2 (fun e => ?_) (fun e => ?_)
    · have h0 := sgn_neg.mp (of_decide_eq_true e)
      walk_at "go"
      refine mk_plain (cap := cap) (d := d) (S := PSZ) T.e_Tower___init___parts ⟨Nat.zero_le _, Nat.zero_le _, Nat.zero_le _⟩ fun r' H3 x3 h3 => q r' H3 ((x1.trans x2).trans x3) ?_
      have : pw2 v = 0 := by
        unfold pw2
        rw [if_pos h0]
      rw [this]
      exact h3
    · have h0 : ¬ v < 0 := fun z => of_decide_eq_false e (sgn_neg.mpr z)
      obtain ⟨n, rfl⟩ : ∃ n : Nat, v = n := ⟨v.toNat, by omega⟩
      have hp : pw2 ((n : Nat) : Int) = 2 ^ n := by
        unfold pw2
        rw [if_neg h0, Int.toNat_natCast]
      rw [hp] at q
      walk_at "go"
      refine ⟨cap, r, d, _, _, rfl, hr1.ex x2, fun H3 x3 => ?_⟩
      rw [smallV_nat]
      have hr3 := hr1.ex (x2.trans x3)
      have fin : 256 < n → ∀ (t0 t1 : Addr) (H4 : Hp), Ex H3 H4 → H4 t0 = some (.tup [.int 1, .ref r]) → H4 t1 = none → RowsV K cap (L2.upd H4 t1 (.tup [.ref t0])) d [.ref t0] [(1, n)] ∧ ∀ r' H', Ex (L2.upd H4 t1 (.tup [.ref t0])) H' → IsT K cap H' (d + 1) PSZ r' (2 ^ n) → Q (.ref r') H' := fun hn t0 t1 H4 x4 h0 h1 =>
        ⟨.cons ⟨t0, r, rfl, SqT.of ((Ex.new h1) _ _ h0), (hr3.ex (x4.trans (Ex.new h1))).mono hS⟩ .nil, fun r' H5 x5 h5 => q r' H5 ((((x1.trans x2).trans x3).trans (x4.trans (Ex.new h1))).trans x5) h5⟩
      by_cases h64 : n < 2 ^ 64
      · rw [if_pos h64]
        walk_at "go"
        refine r_if2 (fun e2 => ?_) (fun e2 => ?_)
        · have hle : ((n : Nat) : Int) ≤ 256 := of_decide_eq_true e2
          walk_at "go"
          refine ⟨n, rfl, by omega, ?_⟩
          walk_at "go"
          refine mk_plain (cap := cap) (d := d) (S := PSZ) T.e_Tower___init___parts ⟨?_, Nat.zero_le _, Nat.zero_le _⟩ fun r' H4 x4 h4 => q r' H4 (((x1.trans x2).trans x3).trans x4) h4
          show bt (2 ^ n) ≤ 266
          rw [bt_pow]
          omega
        · have hgt : ¬ ((n : Nat) : Int) ≤ 256 := of_decide_eq_false e2
          walk_at "go"
          intro t0 ht0
          walk_at "go"
          intro t1 ht1
          walk_at "go"
          obtain ⟨hrw, hq⟩ := fin (by omega) t0 t1 _ (Ex.new ht0) upd_same ht1
          exact mk_rows (SqT.of upd_same) hrw (Wf.pow (by omega)) hq
      · rw [if_neg h64]
        walk_at "go"
        intro t0 ht0
        walk_at "go"
        intro t1 ht1
        walk_at "go"
        obtain ⟨hrw, hq⟩ := fin (by omega) t0 t1 _ (Ex.new ht0) upd_same ht1
        exact mk_rows (SqT.of upd_same) hrw (Wf.pow (by omega)) hq
end
end PW
/-! ### powers of two and remainders -/
namespace PW
open PySem PySem.Spec PyProof.Rows L2
/-- 2 to the E has the remainder of 1 -/
def On (n E : Nat) : Prop := 0 < E ∧ 2 ^ E % n = 1 % n
theorem on_iff {n E : Nat} : 2 ^ E % n = 1 % n ↔ n ∣ 2 ^ E - 1 := by
  have h1 : 1 ≤ 2 ^ E := Nat.pow_pos (by decide)
  constructor
  · intro h
    exact Nat.dvd_of_mod_eq_zero (Nat.sub_mod_eq_zero_of_mod_eq h)
  · rintro ⟨t, ht⟩
    have e : 2 ^ E = 1 + n * t := by omega
    rw [e, Nat.add_mul_mod_self_left]
theorem On.mul {n E : Nat} (h : On n E) {k : Nat} (hk : 0 < k) : On n (E * k) := by
  refine ⟨Nat.mul_pos h.1 hk, ?_⟩
  rw [Nat.pow_mul, Nat.pow_mod, h.2, ← Nat.pow_mod, Nat.one_pow]
theorem On.comb {n m E : Nat} (h1 : On n E) (h2 : On m E) (c : Nat.Coprime n m) : On (n * m) E :=
  ⟨h1.1, on_iff.mpr (Nat.Coprime.mul_dvd_of_dvd_of_dvd c (on_iff.mp h1.2) (on_iff.mp h2.2))⟩
theorem on_one {E : Nat} (h : 0 < E) : On 1 E := ⟨h, by rw [Nat.mod_one, Nat.mod_one]⟩
def Pr (p : Nat) : Prop := 2 ≤ p ∧ ∀ d, d ∣ p → d = 1 ∨ d = p
theorem Pr.cop {p i : Nat} (h : Pr p) (hi : ¬ p ∣ i) : Nat.Coprime p i := by
  rcases h.2 (Nat.gcd p i) (Nat.gcd_dvd_left p i) with e | e
  · exact e
  · exact absurd (e ▸ Nat.gcd_dvd_right p i) hi
/-! #### Fermat -/
def evs : Nat → Nat
  | 0 => 1
  | h + 1 => evs h * (2 * (h + 1))
def ods : Nat → Nat
  | 0 => 1
  | h + 1 => ods h * (2 * h + 1)
/-- the product of 2 (h + j), j from 1 to k -/
def ups (h : Nat) : Nat → Nat
  | 0 => 1
  | k + 1 => ups h k * (2 * (h + (k + 1)))
def fac : Nat → Nat
  | 0 => 1
  | k + 1 => fac k * (k + 1)
theorem fac_two (h : Nat) : fac (2 * h) = evs h * ods h := by
  induction h with
  | zero => rfl
  | succ h ih =>
    have e : 2 * (h + 1) = 2 * h + 1 + 1 := by omega
    rw [e]
    show fac (2 * h) * (2 * h + 1) * (2 * h + 1 + 1) = evs h * (2 * (h + 1)) * (ods h * (2 * h + 1))
    rw [ih, e]
    simp only [Nat.mul_assoc, Nat.mul_comm, Nat.mul_left_comm]
theorem ups_mod (h : Nat) : ∀ k, k ≤ h → ups h k % (2 * h + 1) = ods k % (2 * h + 1)
  | 0, _ => rfl
  | k + 1, hk => by
    show ups h k * (2 * (h + (k + 1))) % _ = ods k * (2 * k + 1) % _
    rw [Nat.mul_mod, ups_mod h k (by omega)]
    have e : 2 * (h + (k + 1)) = 2 * k + 1 + (2 * h + 1) := by omega
    rw [e, Nat.add_mod_right, ← Nat.mul_mod]
theorem pow_fac (h : Nat) : ∀ k, 2 ^ (h + k) * fac (h + k) = evs h * ups h k
  | 0 => by
    show 2 ^ h * fac h = evs h * 1
    rw [Nat.mul_one]
    induction h with
    | zero => rfl
    | succ h ih =>
      show 2 ^ (h + 1) * (fac h * (h + 1)) = evs h * (2 * (h + 1))
      rw [← ih, Nat.pow_succ]
      simp only [Nat.mul_assoc, Nat.mul_comm, Nat.mul_left_comm]
  | k + 1 => by
    have ih := pow_fac h k
    show 2 ^ (h + k + 1) * (fac (h + k) * (h + k + 1)) = evs h * (ups h k * (2 * (h + (k + 1))))
    have e : evs h * (ups h k * (2 * (h + (k + 1)))) = (evs h * ups h k) * (2 * (h + (k + 1))) := by rw [Nat.mul_assoc]
    rw [e, ← ih, Nat.pow_succ]
    simp only [Nat.mul_assoc, Nat.mul_comm, Nat.mul_left_comm, Nat.add_assoc]
theorem fac_cop {p : Nat} (h : Pr p) : ∀ k, k < p → Nat.Coprime p (fac k)
  | 0, _ => Nat.coprime_one_right p
  | k + 1, hk => Nat.Coprime.mul_right (fac_cop h k (by omega)) (h.cop fun d => by
      have := Nat.le_of_dvd (by omega) d
      omega)
theorem fermat {p : Nat} (h : Pr p) (ho : p % 2 = 1) : On p (p - 1) := by
  obtain ⟨m, rfl⟩ : ∃ m, p = 2 * m + 1 := ⟨p / 2, by omega⟩
  have hm : 0 < m := by
    have := h.1
    omega
  have e : 2 * m + 1 - 1 = m + m := by omega
  rw [e]
  refine ⟨by omega, on_iff.mpr ?_⟩
  have h1 := pow_fac m m
  have h2 := ups_mod m m (Nat.le_refl m)
  have h3 := fac_two m
  have e2 : 2 * m = m + m := by omega
  rw [e2] at h3
  have c := fac_cop h (m + m) (by omega)
  have h4 : 2 ^ (m + m) * fac (m + m) % (2 * m + 1) = fac (m + m) % (2 * m + 1) := by
    rw [h1, Nat.mul_mod, h2, ← Nat.mul_mod, ← h3]
  have h5 : (2 * m + 1) ∣ 2 ^ (m + m) * fac (m + m) - fac (m + m) := Nat.dvd_of_mod_eq_zero (Nat.sub_mod_eq_zero_of_mod_eq h4)
  have h6 : 2 ^ (m + m) * fac (m + m) - fac (m + m) = fac (m + m) * (2 ^ (m + m) - 1) := by
    rw [Nat.mul_sub, Nat.mul_one, Nat.mul_comm]
  rw [h6] at h5
  exact Nat.Coprime.dvd_of_dvd_mul_left c h5
/-! #### powers of a prime -/
theorem one_add_pow (x : Nat) : ∀ k, ∃ c, (1 + x) ^ k = 1 + k * x + x * x * c
  | 0 => ⟨0, by simp⟩
  | k + 1 => by
    obtain ⟨c, hc⟩ := one_add_pow x k
    refine ⟨c + k + x * c, ?_⟩
    rw [Nat.pow_succ, hc]
    simp only [Nat.add_mul, Nat.mul_add, Nat.one_mul, Nat.mul_one, Nat.mul_assoc, Nat.mul_comm, Nat.mul_left_comm]
    omega
theorem on_lift {p j E : Nat} (hp : 0 < p) (hj : 1 ≤ j) (h : On (p ^ j) E) : On (p ^ (j + 1)) (E * p) := by
  refine ⟨Nat.mul_pos h.1 hp, on_iff.mpr ?_⟩
  obtain ⟨t, ht⟩ := on_iff.mp h.2
  have h1 : 1 ≤ 2 ^ E := Nat.pow_pos (by decide)
  have e : 2 ^ E = 1 + p ^ j * t := by omega
  obtain ⟨c, hc⟩ := one_add_pow (p ^ j * t) p
  rw [Nat.pow_mul, e, hc]
  have e2 : 1 + p * (p ^ j * t) + p ^ j * t * (p ^ j * t) * c - 1 = p * (p ^ j * t) + p ^ j * t * (p ^ j * t) * c := by omega
  rw [e2]
  refine Nat.dvd_add ⟨t, ?_⟩ ?_
  · rw [Nat.pow_succ]
    simp only [Nat.mul_assoc, Nat.mul_comm, Nat.mul_left_comm]
  · have d1 : p ^ (j + 1) ∣ p ^ j * p ^ j := by
      rw [← Nat.pow_add]
      exact Nat.pow_dvd_pow p (by omega)
    have e3 : p ^ j * t * (p ^ j * t) * c = p ^ j * p ^ j * (t * t * c) := by simp only [Nat.mul_assoc, Nat.mul_comm, Nat.mul_left_comm]
    rw [e3]
    exact Nat.dvd_trans d1 (Nat.dvd_mul_right _ _)
theorem on_pp {p : Nat} (h : Pr p) (ho : p % 2 = 1) : ∀ k, On (p ^ (k + 1)) (p ^ k * (p - 1))
  | 0 => by
    have := fermat h ho
    simpa using this
  | k + 1 => by
    have ih := on_lift (p := p) (by have := h.1; omega) (by omega) (on_pp h ho k)
    have e : p ^ (k + 1) * (p - 1) = p ^ k * (p - 1) * p := by
      rw [Nat.pow_succ]
      simp only [Nat.mul_assoc, Nat.mul_comm, Nat.mul_left_comm]
    rw [e]
    exact ih
/-! #### how the totient is found -/
structure TI (n φ r f : Nat) : Prop where
  ex : ∃ D E, n = D * r ∧ φ = E * r ∧ On D E ∧ Nat.Coprime D r
  pos : 0 < r
  no : ∀ d, 2 ≤ d → d < f → ¬ d ∣ r
  le : φ ≤ n
theorem TI.start {n : Nat} (h : 0 < n) : TI n n n 2 :=
  ⟨⟨1, 1, by omega, by omega, on_one (by decide), Nat.coprime_one_left n⟩, h, fun d h1 h2 => by omega, Nat.le_refl n⟩
theorem TI.prime {n φ r f : Nat} (t : TI n φ r f) (hf : 2 ≤ f) (hd : f ∣ r) : Pr f := by
  refine ⟨hf, fun d hdf => ?_⟩
  have hd0 : 0 < d := Nat.pos_of_dvd_of_pos hdf (by omega)
  have hle := Nat.le_of_dvd (by omega) hdf
  by_cases h1 : d = 1
  · exact .inl h1
  · by_cases h2 : d < f
    · exact absurd (Nat.dvd_trans hdf hd) (t.no d (by omega) h2)
    · exact .inr (by omega)
theorem TI.rest {n φ r f : Nat} (t : TI n φ r f) (h1 : 1 < r) (h2 : r < f * f) : Pr r := by
  refine ⟨h1, fun d hdr => ?_⟩
  have hd0 : 0 < d := Nat.pos_of_dvd_of_pos hdr t.pos
  by_cases e1 : d = 1
  · exact .inl e1
  · by_cases e2 : d = r
    · exact .inr e2
    · exfalso
      obtain ⟨c, hc⟩ := hdr
      have hc0 : c ≠ 0 := fun z => by
        rw [z, Nat.mul_zero] at hc
        omega
      have hc1 : c ≠ 1 := fun z => by
        rw [z, Nat.mul_one] at hc
        omega
      have hdf : f ≤ d := by
        rcases Nat.lt_or_ge d f with z | z
        · exact absurd ⟨c, hc⟩ (t.no d (by omega) z)
        · exact z
      have hcf : f ≤ c := by
        rcases Nat.lt_or_ge c f with z | z
        · exact absurd ⟨d, by rw [hc, Nat.mul_comm]⟩ (t.no c (by omega) z)
        · exact z
      have := Nat.mul_le_mul hdf hcf
      omega
theorem TI.next {n φ r f : Nat} (t : TI n φ r f) (hd : ¬ f ∣ r) : TI n φ r (f + 1) :=
  ⟨t.ex, t.pos, fun d h1 h2 => by
    by_cases e : d = f
    · rw [e]
      exact hd
    · exact t.no d h1 (by omega), t.le⟩
/-- the factor's powers taken out -/
theorem TI.out {n φ r f k r' : Nat} (t : TI n φ r f) (hf : 2 ≤ f) (ho : n % 2 = 1) (hr : r = f ^ (k + 1) * r') (hd : ¬ f ∣ r') : TI n (φ - φ / f) r' (f + 1) := by
  obtain ⟨⟨D, E, h1, h2, h3, h4⟩, h5, h6, h7⟩ := t
  have hfr : f ∣ r := ⟨f ^ k * r', by rw [hr, Nat.pow_succ]; simp only [Nat.mul_assoc, Nat.mul_comm, Nat.mul_left_comm]⟩
  have hp : Pr f := TI.prime ⟨⟨D, E, h1, h2, h3, h4⟩, h5, h6, h7⟩ hf hfr
  have hr0 : 0 < r' := Nat.pos_of_ne_zero fun z => by
    rw [z, Nat.mul_zero] at hr
    omega
  have hfo : f % 2 = 1 := by
    rcases Nat.mod_two_eq_zero_or_one f with z | z
    · exfalso
      have : 2 ∣ n := Nat.dvd_trans (Nat.dvd_of_mod_eq_zero z) (Nat.dvd_trans hfr ⟨D, by rw [h1, Nat.mul_comm]⟩)
      omega
    · exact z
  have hq : φ / f = E * f ^ k * r' := by
    have : φ = f * (E * f ^ k * r') := by
      rw [h2, hr, Nat.pow_succ]
      simp only [Nat.mul_assoc, Nat.mul_comm, Nat.mul_left_comm]
    rw [this]
    exact Nat.mul_div_cancel_left _ (by omega)
  have hφ : φ - φ / f = E * (f ^ k * (f - 1)) * r' := by
    have e1 : φ = E * f ^ k * r' * f := by
      rw [h2, hr, Nat.pow_succ]
      simp only [Nat.mul_assoc, Nat.mul_comm, Nat.mul_left_comm]
    rw [hq]
    have e2 : E * (f ^ k * (f - 1)) * r' = E * f ^ k * r' * (f - 1) := by simp only [Nat.mul_assoc, Nat.mul_comm, Nat.mul_left_comm]
    rw [e2, Nat.mul_sub, Nat.mul_one, ← e1]
  have hfk : 0 < f ^ k * (f - 1) := Nat.mul_pos (Nat.pow_pos (by omega)) (by omega)
  have hrd : r' ∣ r := ⟨f ^ (k + 1), by rw [hr, Nat.mul_comm]⟩
  have hfd : f ^ (k + 1) ∣ r := ⟨r', hr⟩
  have c1 : Nat.Coprime D r' := Nat.Coprime.coprime_dvd_right hrd h4
  have c2 : Nat.Coprime D (f ^ (k + 1)) := Nat.Coprime.coprime_dvd_right hfd h4
  have c3 : Nat.Coprime (f ^ (k + 1)) r' := Nat.Coprime.pow_left _ (hp.cop hd)
  refine ⟨⟨D * f ^ (k + 1), E * (f ^ k * (f - 1)), by rw [h1, hr, Nat.mul_assoc], hφ, (h3.mul hfk).comb ?_ c2, Nat.Coprime.mul_left c1 c3⟩, hr0, fun d g1 g2 g3 => ?_, by omega⟩
  · rw [Nat.mul_comm E]
    exact (on_pp hp hfo k).mul h3.1
  · by_cases e : d = f
    · rw [e] at g3
      exact hd g3
    · exact h6 d g1 (by omega) (Nat.dvd_trans g3 hrd)
theorem TI.end1 {n φ r f : Nat} (t : TI n φ r f) (ho : n % 2 = 1) (h1 : 1 < r) (h2 : r < f * f) : On n (φ - φ / r) := by
  have hp := t.rest h1 h2
  obtain ⟨⟨D, E, g1, g2, g3, g4⟩, h5, h6, h7⟩ := t
  have e : φ - φ / r = E * (r - 1) := by
    rw [g2, Nat.mul_div_cancel _ h5, Nat.mul_sub, Nat.mul_one]
  have hro : r % 2 = 1 := by
    rcases Nat.mod_two_eq_zero_or_one r with z | z
    · exfalso
      have : 2 ∣ n := Nat.dvd_trans (Nat.dvd_of_mod_eq_zero z) ⟨D, by rw [g1, Nat.mul_comm]⟩
      omega
    · exact z
  rw [e, g1]
  refine (g3.mul (by omega)).comb ?_ g4
  rw [Nat.mul_comm]
  exact (fermat hp hro).mul g3.1
theorem TI.end2 {n φ r f : Nat} (t : TI n φ r f) (h1 : ¬ 1 < r) : On n φ := by
  obtain ⟨⟨D, E, g1, g2, g3, g4⟩, h5, h6, h7⟩ := t
  have e : r = 1 := by omega
  subst e
  rw [Nat.mul_one] at g1 g2
  rw [g1, g2]
  exact g3
/-! #### far exponents -/
theorem mod_of_parts {o w a b : Nat} (hc : Nat.Coprime o w) (h1 : a % o = b % o) (h2 : a % w = b % w) : a % (o * w) = b % (o * w) := by
  have key : ∀ a b : Nat, b ≤ a → a % o = b % o → a % w = b % w → a % (o * w) = b % (o * w) := fun a b hl h1 h2 => by
    have d1 := Nat.dvd_of_mod_eq_zero (Nat.sub_mod_eq_zero_of_mod_eq h1)
    have d2 := Nat.dvd_of_mod_eq_zero (Nat.sub_mod_eq_zero_of_mod_eq h2)
    obtain ⟨t, ht⟩ := Nat.Coprime.mul_dvd_of_dvd_of_dvd hc d1 d2
    have e : a = b + o * w * t := by omega
    rw [e, Nat.add_mul_mod_self_left]
  rcases Nat.le_total b a with z | z
  · exact key a b z h1 h2
  · exact (key b a z h1.symm h2.symm).symm
theorem odd_cop {o t : Nat} (h : o % 2 = 1) : Nat.Coprime o (2 ^ t) := by
  have h2 : Nat.Coprime 2 o := Pr.cop ⟨Nat.le_refl 2, fun d hd => by
    have := Nat.le_of_dvd (by decide) hd
    have h0 : d ≠ 0 := fun z => by
      rw [z] at hd
      have := Nat.eq_zero_of_zero_dvd hd
      omega
    omega⟩ (fun d => by omega)
  exact (Nat.Coprime.pow_left t h2).symm
theorem far_pow {o t c e e' : Nat} (ho : o % 2 = 1) (hc : On o c) (h1 : t ≤ e) (h2 : t ≤ e') (h : e % c = e' % c) : 2 ^ e % (o * 2 ^ t) = 2 ^ e' % (o * 2 ^ t) := by
  refine mod_of_parts (odd_cop ho) ?_ ?_
  · have key : ∀ e : Nat, 2 ^ e % o = 2 ^ (e % c) % o := fun e => by
      have e1 : e = c * (e / c) + e % c := (Nat.div_add_mod e c).symm
      have e2 : 2 ^ e = (2 ^ c) ^ (e / c) * 2 ^ (e % c) := by
        rw [← Nat.pow_mul, ← Nat.pow_add, ← e1]
      rw [e2, Nat.mul_mod, Nat.pow_mod (2 ^ c), hc.2, ← Nat.pow_mod, Nat.one_pow, ← Nat.mul_mod, Nat.one_mul]
    rw [key e, key e', h]
  · have key : ∀ e : Nat, t ≤ e → 2 ^ e % 2 ^ t = 0 := fun e he => Nat.mod_eq_zero_of_dvd (Nat.pow_dvd_pow 2 he)
    rw [key e h1, key e' h2]
end PW
/-! ### totient, power_rest, rest_of, %, // -/
namespace PW
open PySem PySem.Spec PyProof.Rows L2
def spTotient : Sp := fun vs H Q _ => ∃ n : Nat, vs = [.int (n : Nat)] ∧ 0 < n ∧ n % 2 = 1 ∧ n < 2 ^ 8900 ∧ ∀ E : Nat, On n E → E ≤ n → Q (.int (E : Nat)) H
def spPowerRest : Sp := fun vs H Q _ => ∃ t m : Nat, vs = [.int (t : Nat), .int (m : Nat)] ∧ 0 < m ∧ m < 2 ^ 8900 ∧ Q (.int ((2 ^ t % m : Nat) : Int)) H
def spRest (K : PySem.W.Frag) (cap : Sz) (d : Nat) : Sp := fun vs H Q _ => ∃ a S B v, ∃ m : Nat, vs = [.ref a, .int (m : Nat)] ∧ IsT K cap H d S a v ∧ S.Le LIM ∧ 0 < m ∧ m ≤ 2 ^ B ∧ B + S.s + d * cap.s ≤ 8800 ∧ ∀ H', Ex H H' → Q (.int (v % (m : Int))) H'
def spMod (K : PySem.W.Frag) (cap : Sz) (d : Nat) : Sp := fun vs H Q _ => ∃ a S v, ∃ m : Nat, vs = [.ref a, .int (m : Nat)] ∧ IsT K cap H d S a v ∧ S.Le LIM ∧ 1 ≤ m ∧ m ≤ 1000 ∧ 10 + S.s + d * cap.s ≤ 8800 ∧ ∀ H', Ex H H' → Q (.int (v % (m : Int))) H'
def divSz (S : Sz) : Sz := ⟨S.z + 2 * S.s + 12, S.n, S.s + 10⟩
def spDiv (K : PySem.W.Frag) (cap : Sz) (d : Nat) : Sp := fun vs H Q _ => ∃ a S v, ∃ m : Nat, vs = [.ref a, .int (m : Nat)] ∧ IsT K cap H d S a v ∧ S.Le LIM ∧ 1 ≤ m ∧ m ≤ 1000 ∧ 10 + S.s + d * cap.s ≤ 8800 ∧ ∀ r H', Ex H H' → IsT K cap H' d (divSz S) r (v / (m : Int)) → Q (.ref r) H'
theorem cdN {i : Int} {n : Nat} (h0 : 0 < n) (h : n < 2 ^ 8999) : CDivW i (n : Int) := ⟨by omega, by
  rw [Int.natAbs_natCast]
  exact Nat.lt_trans (PySem.Flt.log2_lt_of (by decide) h) (by decide)⟩
theorem cmN {a b x y : Nat} (ha : a < 2 ^ x) (hb : b < 2 ^ y) (h : x + y ≤ 134217728) : CMulX (a : Int) (b : Int) := mulx_ok (a := x) (b := y) (by rw [Int.natAbs_natCast]; exact ha) (by rw [Int.natAbs_natCast]; exact hb) h
theorem decN {a b : Nat} : decide (V.int (a : Int) = V.int (b : Int)) = decide (a = b) := decide_eq_decide.mpr ⟨fun z => by
  have := V.int.inj z
  omega, fun z => by rw [z]⟩
theorem sq_even {s x : Nat} (h : x % 2 = 0) : s ^ x = (s * s) ^ (x / 2) := by
  have e : x = 2 * (x / 2) := by omega
  have e2 : s * s = s ^ 2 := by rw [Nat.pow_two]
  rw [e2, ← Nat.pow_mul, ← e]
theorem sq_odd {s x : Nat} (h : x % 2 = 1) : s ^ x = s * (s * s) ^ (x / 2) := by
  have e : x = 2 * (x / 2) + 1 := by omega
  have e2 : s * s = s ^ 2 := by rw [Nat.pow_two]
  rw [e2, ← Nat.pow_mul]
  have e3 : s * s ^ (2 * (x / 2)) = s ^ (2 * (x / 2) + 1) := by rw [Nat.pow_succ, Nat.mul_comm]
  rw [e3, ← e]
theorem emod_add_mul {f c w : Int} {e : Nat} {W : Nat} (hw : w = (W : Nat)) (p : Nat) (hp : p = 2 ^ e % W) : (f + c * (p : Nat)) % w = (f + c * 2 ^ e) % w := by
  subst hw hp
  have h1 : ((2 ^ e % W : Nat) : Int) = (2 : Int) ^ e % (W : Int) := by
    rw [Int.natCast_emod]
    congr 1
  rw [h1, Int.add_emod, Int.mul_emod, Int.emod_emod_of_dvd _ (Int.dvd_refl _), ← Int.mul_emod, ← Int.add_emod]
theorem rest_end {v share x : Int} {m : Nat} (hs : 0 < share) (hx : x % ((m : Int) * share) = (v * share) % ((m : Int) * share)) : x % ((m : Int) * share) / share = v % (m : Int) := by
  rw [hx, Int.mul_comm v, Int.mul_comm (m : Int), Int.mul_emod_mul_of_pos _ _ hs]
  exact Int.mul_ediv_cancel_left _ (by omega)
section
variable {P : Program} {w : World} {K : PySem.W.Frag} {mg : Str → Option Value} {base : Heap}
theorem ok_totient (T : Txt K mg) : FnOk P w K mg base CX0 1 (He.ga K "totient") (fdOf K (He.ga K "totient")) p_totient spTotient := by
  refine FunD.ok T.d_totient sc_totient (fun vs H Q E h => ?_) (fun cdv A outer s H vs Q E hr h => ?_)
  · obtain ⟨n, rfl, _⟩ := h
    rfl
  · obtain ⟨n, rfl, hn, ho, hb, q⟩ := h
    refine ⟨_, PSs.nox ((pss_cons (ps_par3 (i := 1) (j := 2) (l := 3) (by rfl) sc_totient.nd rfl rfl rfl (by decide) (by decide) (by decide) rfl rfl rfl (pa_cons (pv 0) (pa_cons (pv 0) (pa_cons pe_int pa_nil))) (by rfl))
    (pss_cons (ps_while PassesOwn.never (pt_cmpR op_le (pe_op op_mulX (pv 3) (pv 3)) (pv 2) (nomark _))
      (pss_cons (ps_if (pt_cmpR op_eq (pe_op op_mod (pv 2) (pv 3)) pe_int (nomark _))
          (pss_cons (ps_set (i := 1) sc_totient.nd rfl (Or.inl rfl) (pe_op op_sub (pv 1) (pe_op op_fdivW (pv 1) (pv 3))))
            (pss_one (ps_while PassesOwn.never (pt_cmpR op_eq (pe_op op_mod (pv 2) (pv 3)) pe_int (nomark _))
              (pss_one (ps_set (i := 2) sc_totient.nd rfl (Or.inl rfl) (pe_op op_fdivW (pv 2) (pv 3)))))))
          pss_nil)
        (pss_one (ps_set (i := 3) sc_totient.nd rfl (Or.inl rfl) (pe_op op_add (pv 3) pe_int)))))
    (pss_one (ps_ret (pe_ifExp (pt_cmpR op_gt (pv 2) pe_int (nomark _)) (pe_op op_sub (pv 1) (pe_op op_fdivW (pv 1) (pv 2))) (pv 1))))))), ?_⟩
    show tSeq _ _ _ [some (V.int (n : Nat)), none, none, none] H
    walk_at "K"
    walk_at "go"
    have hb2 : n + 1 < 2 ^ 8901 := by
      have : (2 : Nat) ^ 8901 = 2 ^ 8900 * 2 := Nat.pow_succ ..
      omega
    have hb3 : (2 : Nat) ^ 8901 ≤ 2 ^ 8999 := Nat.pow_le_pow_right (by decide) (by decide)
    generalize (2 : Nat) ^ 8900 = B0 at hb hb2
    refine while_it (fun m σ H' => H' = H ∧ ∃ φ r f : Nat, σ = [some (V.int (n : Nat)), some (V.int (φ : Nat)), some (V.int (r : Nat)), some (V.int (f : Nat))] ∧ m = n + 2 - f ∧ TI n φ r f ∧ 2 ≤ f ∧ f ≤ n + 1 ∧ r ≤ n) (m0 := n) ⟨rfl, n, n, 2, rfl, by omega, TI.start hn, by omega, by omega, Nat.le_refl n⟩ ?_
    rintro m σ H' ⟨rfl, φ, r, f, rfl, rfl, ti, hf, hfn, hrn⟩
    have cm : CMulX (f : Int) (f : Int) := cmN (x := 8901) (y := 8901) (by omega) (by omega) (by decide)
    have cd : ∀ i, CDivW i (f : Int) := fun i => cdN (by omega) (by omega)
    have cd1 := cd (φ : Int)
    walk_at "go"
    refine r_if2 (fun e => ?_) (fun e => ?_)
    · have hle : ((f : Nat) : Int) * (f : Nat) ≤ (r : Nat) := of_decide_eq_true e
      have hle2 : f * f ≤ r := by exact_mod_cast hle
      have hff : 2 * f ≤ f * f := Nat.mul_le_mul_right f hf
      refine r_turn ?_
      walk_at "go"
      have em : ((r : Nat) : Int) % (f : Nat) = ((r % f : Nat) : Int) := (Int.natCast_emod r f).symm
      rw [em]
      have ez : decide (V.int ((r % f : Nat) : Int) = V.int 0) = decide (r % f = 0) := decN (b := 0)
      rw [ez]
      refine r_if2 (fun e2 => ?_) (fun e2 => ?_)
      · have hd : f ∣ r := Nat.dvd_of_mod_eq_zero (of_decide_eq_true e2)
        have ed : ((φ : Nat) : Int) - ((φ : Nat) : Int) / (f : Nat) = ((φ - φ / f : Nat) : Int) := by
          have := Nat.div_le_self φ f
          rw [Int.ofNat_sub this]
          rfl
        walk_at "go"
        rw [ed]
        refine while_it (fun m' σ H2 => H2 = H' ∧ ∃ x k : Nat, σ = [some (V.int (n : Nat)), some (V.int ((φ - φ / f : Nat) : Int)), some (V.int (x : Nat)), some (V.int (f : Nat))] ∧ m' = x ∧ r = f ^ k * x ∧ 0 < x ∧ (1 ≤ k ∨ f ∣ x)) (m0 := r) ⟨rfl, r, 0, rfl, rfl, by rw [Nat.pow_zero, Nat.one_mul], ti.pos, .inr hd⟩ ?_
        rintro m' σ H2 ⟨rfl, x, k, rfl, rfl, hrk, hx, hk⟩
        have cd2 := cd (m' : Int)
        walk_at "go"
        have em2 : ((m' : Nat) : Int) % (f : Nat) = ((m' % f : Nat) : Int) := (Int.natCast_emod m' f).symm
        rw [em2]
        have ez2 : decide (V.int ((m' % f : Nat) : Int) = V.int 0) = decide (m' % f = 0) := decN (b := 0)
        rw [ez2]
        refine r_if2 (fun e3 => ?_) (fun e3 => ?_)
        · obtain ⟨y, hy⟩ := Nat.dvd_of_mod_eq_zero (of_decide_eq_true e3)
          have hy0 : 0 < y := Nat.pos_of_ne_zero fun z => by
            rw [z, Nat.mul_zero] at hy
            omega
          have hyd : m' / f = y := by
            rw [hy]
            exact Nat.mul_div_cancel_left _ (by omega)
          have hlt : y < m' := by
            have : 2 * y ≤ f * y := Nat.mul_le_mul_right y hf
            omega
          refine r_turn ?_
          walk_at "go"
          refine ⟨y, hlt, rfl, y, k + 1, ?_, rfl, ?_, hy0, .inl (by omega)⟩
          · have : ((m' : Nat) : Int) / (f : Nat) = ((y : Nat) : Int) := by
              rw [← hyd]
              rfl
            rw [this]
          · rw [hrk, hy, Nat.pow_succ, Nat.mul_assoc]
        · have hnd : ¬ f ∣ m' := fun z => of_decide_eq_false e3 (Nat.mod_eq_zero_of_dvd z)
          have hk1 : 1 ≤ k := hk.elim id fun z => absurd z hnd
          obtain ⟨k', rfl⟩ : ∃ k', k = k' + 1 := ⟨k - 1, by omega⟩
          have ti2 := ti.out hf ho hrk hnd
          have hxr : m' ≤ r := by
            rw [hrk]
            exact Nat.le_mul_of_pos_left _ (Nat.pow_pos (by omega))
          walk_at "go"
          exact ⟨n + 2 - (f + 1), by omega, rfl, _, m', f + 1, rfl, rfl, ti2, by omega, by omega, by omega⟩
      · have hnd : ¬ f ∣ r := fun z => of_decide_eq_false e2 (Nat.mod_eq_zero_of_dvd z)
        walk_at "go"
        exact ⟨n + 2 - (f + 1), by omega, rfl, φ, r, f + 1, rfl, rfl, ti.next hnd, by omega, by omega, hrn⟩
    · have hgt : ¬ ((f : Nat) : Int) * (f : Nat) ≤ (r : Nat) := of_decide_eq_false e
      have hgt2 : ¬ f * f ≤ r := fun z => hgt (by exact_mod_cast z)
      have cd3 : CDivW (φ : Int) (r : Int) := cdN ti.pos (by omega)
      walk_at "go"
      refine r_if2 (fun e2 => ?_) (fun e2 => ?_)
      · have h1 : 1 < r := by
          have := of_decide_eq_true e2
          omega
        have ed : ((φ : Nat) : Int) - ((φ : Nat) : Int) / (r : Nat) = ((φ - φ / r : Nat) : Int) := by
          have := Nat.div_le_self φ r
          rw [Int.ofNat_sub this]
          rfl
        walk_at "go"
        rw [ed]
        exact q _ (ti.end1 ho h1 (by omega)) (Nat.le_trans (Nat.sub_le _ _) ti.le)
      · have h1 : ¬ 1 < r := fun z => of_decide_eq_false e2 (by show (1 : Int) < (r : Nat); omega)
        walk_at "go"
        exact q _ (ti.end2 h1) ti.le
theorem ok_power_rest (T : Txt K mg) : FnOk P w K mg base CX0 1 (He.ga K "power_rest") (fdOf K (He.ga K "power_rest")) p_power_rest spPowerRest := by
  refine FunD.ok T.d_power_rest sc_power_rest (fun vs H Q E h => ?_) (fun cdv A outer s H vs Q E hr h => ?_)
  · obtain ⟨t, m, rfl, _⟩ := h
    rfl
  · obtain ⟨t, m, rfl, hm, hb, q⟩ := h
    refine ⟨_, PSs.nox ((pss_cons (ps_par (i := 2) (j := 3) (by rfl) sc_power_rest.nd rfl rfl (by decide) rfl rfl (pa_cons (pe_op op_mod pe_int (pv 1)) (pa_cons (pe_op op_mod pe_int (pv 1)) pa_nil)) (by rfl))
    (pss_cons (ps_while PassesOwn.never (pt_cmpR op_gt (pv 0) pe_int (nomark _))
      (pss_cons (ps_if (pt_cmpR op_eq (pe_op op_mod (pv 0) pe_int) pe_int (nomark _))
          (pss_one (ps_set (i := 2) sc_power_rest.nd rfl (Or.inl rfl) (pe_op op_mod (pe_op op_mulX (pv 2) (pv 3)) (pv 1))))
          pss_nil)
        (pss_cons (ps_set (i := 3) sc_power_rest.nd rfl (Or.inl rfl) (pe_op op_mod (pe_op op_mulX (pv 3) (pv 3)) (pv 1)))
        (pss_one (ps_set (i := 0) sc_power_rest.nd rfl (Or.inl rfl) (pe_op op_fdivW (pv 0) pe_int))))))
    (pss_one (ps_ret (pv 2)))))), ?_⟩
    show tSeq _ _ _ [some (V.int (t : Nat)), some (V.int (m : Nat)), none, none] H
    walk_at "K"
    walk_at "go"
    generalize hB : (2 : Nat) ^ 8900 = B0 at hb
    refine while_it (fun z σ H' => H' = H ∧ ∃ x f s : Nat, σ = [some (V.int (x : Nat)), some (V.int (m : Nat)), some (V.int (f : Nat)), some (V.int (s : Nat))] ∧ z = x ∧ f < m ∧ s < m ∧ f * s ^ x % m = 2 ^ t % m) (m0 := t) ⟨rfl, t, 1 % m, 2 % m, rfl, rfl, Nat.mod_lt _ hm, Nat.mod_lt _ hm, by
      rw [Nat.mul_mod, Nat.mod_mod, ← Nat.pow_mod, ← Nat.mul_mod, Nat.one_mul]⟩ ?_
    rintro z σ H' ⟨rfl, x, f, s, rfl, rfl, hf, hs, hfs⟩
    have cm1 : CMulX (f : Int) (s : Int) := cmN (x := 8900) (y := 8900) (by omega) (by omega) (by decide)
    have cm2 : CMulX (s : Int) (s : Int) := cmN (x := 8900) (y := 8900) (by omega) (by omega) (by decide)
    have hm1 : (0 : Int) < (m : Nat) := by omega
    have e1 : ((f : Nat) : Int) * (s : Nat) % (m : Nat) = ((f * s % m : Nat) : Int) := by
      rw [Int.natCast_emod, Int.natCast_mul]
    have e2 : ((s : Nat) : Int) * (s : Nat) % (m : Nat) = ((s * s % m : Nat) : Int) := by
      rw [Int.natCast_emod, Int.natCast_mul]
    walk_at "go"
    refine r_if2 (fun e => ?_) (fun e => ?_)
    · have hz : 0 < z := by
        have := of_decide_eq_true e
        omega
      refine r_turn ?_
      walk_at "go"
      refine r_if2 (fun o => ?_) (fun o => ?_)
      · have ho : z % 2 = 1 := by
          have := V.int.inj (of_decide_eq_true o)
          omega
        walk_at "go"
        rw [e1, e2]
        refine ⟨z / 2, by omega, rfl, z / 2, f * s % m, s * s % m, rfl, rfl, Nat.mod_lt _ hm, Nat.mod_lt _ hm, ?_⟩
        rw [← hfs, sq_odd ho, Nat.mul_mod, Nat.mod_mod, ← Nat.pow_mod, ← Nat.mul_mod, Nat.mul_assoc]
      · have ho : z % 2 = 0 := by
          have : ¬ ((z : Nat) : Int) % 2 = 1 := fun y => of_decide_eq_false o (congrArg V.int y)
          omega
        walk_at "go"
        rw [e2]
        refine ⟨z / 2, by omega, rfl, z / 2, f, s * s % m, rfl, rfl, hf, Nat.mod_lt _ hm, ?_⟩
        rw [← hfs, sq_even ho, Nat.mul_mod, ← Nat.pow_mod, ← Nat.mul_mod]
    · have hz : z = 0 := by
        have : ¬ (0 : Int) < (z : Nat) := of_decide_eq_false e
        omega
      subst hz
      walk_at "go"
      rw [Nat.pow_zero, Nat.mul_one, Nat.mod_eq_of_lt hf] at hfs
      rw [hfs]
      exact q
theorem ok_rest1 {k d : Nat} {cap : Sz} (cap_lim : cap.Le LIM) (T : Txt K mg)
    (G_rest_of : FnOk P w K mg base CX0 k (He.ga K "rest_of") (fdOf K (He.ga K "rest_of")) p_rest_of (spRest K cap d))
    (G_totient : FnOk P w K mg base CX0 k (He.ga K "totient") (fdOf K (He.ga K "totient")) p_totient spTotient)
    (G_power_rest : FnOk P w K mg base CX0 k (He.ga K "power_rest") (fdOf K (He.ga K "power_rest")) p_power_rest spPowerRest)
    (G_Tower_small : FnOk P w K mg base CX0 k (He.ma K (He.ga K "Tower") "small") (fdOf K (He.fAd K ("Tower", some "small"))) p_Tower_small (spSmall K)) :
    FnOk P w K mg base CX0 (k + 1) (He.ga K "rest_of") (fdOf K (He.ga K "rest_of")) p_rest_of (spRest K cap (d + 1)) := by
  refine FunD.ok T.d_rest_of sc_rest_of (fun vs H Q E h => ?_) (fun cdv A outer s H vs Q E hr h => ?_)
  · obtain ⟨a, S, B, v, m, rfl, _⟩ := h
    rfl
  · obtain ⟨a, S, B, v, m, rfl, ⟨dx, lo, p, sh, xs, rows, ha, hp, hrows, wf⟩, hS, hm, hmB, hB, q⟩ := h
    have kT := T.k_Tower
    have n1 := T.n_Tower_low
    have n2 := T.n_Tower_parts
    have n3 := T.n_Tower_share
    have hBd : B + S.s + (d * cap.s + cap.s) ≤ 8800 := by
      rw [Nat.add_mul, Nat.one_mul] at hB
      exact hB
    obtain ⟨sn, rfl⟩ : ∃ sn : Nat, sh = sn := ⟨sh.toNat, by have := wf.pos; omega⟩
    have hs0 : 0 < sn := by
      have := wf.pos
      omega
    have hsS : sn ≤ 2 ^ S.s := by
      have := wf.s
      rwa [Int.toNat_natCast] at this
    have hW : m * sn ≤ 2 ^ (B + S.s) := by
      rw [Nat.pow_add]
      exact Nat.mul_le_mul hmB hsS
    have hW0 : 0 < m * sn := Nat.mul_pos hm hs0
    have hpow : (2 : Nat) ^ (B + S.s) ≤ 2 ^ 8800 := Nat.pow_le_pow_right (by decide) (by omega)
    have hp2 : (2 : Nat) ^ 8800 < 2 ^ 8900 := Nat.pow_lt_pow_right (by decide) (by decide)
    have hp3 : (2 : Nat) ^ 8900 ≤ 2 ^ 8999 := Nat.pow_le_pow_right (by decide) (by decide)
    have hW9 : m * sn < 2 ^ 8900 := Nat.lt_of_le_of_lt (Nat.le_trans hW hpow) hp2
    have hm9 : m < 2 ^ 8900 := Nat.lt_of_le_of_lt (Nat.le_mul_of_pos_right m hs0) hW9
    have hs9 : sn < 2 ^ 8900 := Nat.lt_of_le_of_lt (Nat.le_mul_of_pos_left sn hm) hW9
    have cm0 : CMulX (m : Int) (sn : Int) := cmN hm9 hs9 (by decide)
    have eW : ((m : Nat) : Int) * (sn : Nat) = ((m * sn : Nat) : Int) := (Int.natCast_mul m sn).symm
    have hval := wf.val
    have hwz := wf.z
    have hSz : S.z ≤ 4000000 := hS.z
    refine ⟨_, PSs.nox ((pss_cons (ps_set (i := 2) sc_rest_of.nd rfl (Or.inl rfl) (pe_op op_mulX (pv 1) (pe_fld (pv 0) rfl)))
    (pss_cons (ps_set (i := 3) sc_rest_of.nd rfl (Or.inl rfl) (pe_fld (pv 0) rfl))
    (pss_cons (ps_for PassesOwn.never rfl (pi_tup (pe_fld (pv 0) rfl)) (pg_tup rfl (pgs_cons (pg_name (i := 4) sc_rest_of.nd rfl (Or.inl rfl) (hf := by first | exact Or.inl rfl | exact Or.inr rfl)) (pgs_cons (pg_name (i := 5) sc_rest_of.nd rfl (Or.inl rfl) (hf := by first | exact Or.inl rfl | exact Or.inr rfl)) pgs_nil)))
      (pss_cons (ps_par (i := 6) (j := 7) (by rfl) sc_rest_of.nd rfl rfl (by decide) rfl rfl (pa_cons (pv 2) (pa_cons pe_int pa_nil)) (by rfl))
        (pss_cons (ps_while PassesOwn.never (pt_cmpR op_eq (pe_op op_mod (pv 6) pe_int) pe_int (nomark _))
          (pss_cons (ps_set (i := 6) sc_rest_of.nd rfl (Or.inl rfl) (pe_op op_fdivW (pv 6) pe_int))
            (pss_one (ps_set (i := 7) sc_rest_of.nd rfl (Or.inl rfl) (pe_op op_add (pv 7) pe_int)))))
        (pss_cons (ps_set (i := 8) sc_rest_of.nd rfl (Or.inl rfl) (pe_call G_totient hr rfl T.g_totient T.d_totient.kp (b_totient T) .nil pass0 (pa_cons (pv 6) pa_nil)))
        (pss_cons (ps_set (i := 9) sc_rest_of.nd rfl (Or.inl rfl) (pe_meth0 (pv 5) T.k_Tower T.m_Tower_small G_Tower_small hr (b_Tower_small T) .nil pass0))
        (pss_cons (ps_if (pt_cmp (pc_isN (pv 9)) rfl)
          (pss_one (ps_set (i := 9) sc_rest_of.nd rfl (Or.inl rfl) (pe_op op_add (pe_call G_rest_of hr rfl T.g_rest_of T.d_rest_of.kp (b_rest_of T) .nil pass0 (pa_cons (pv 5) (pa_cons (pv 8) pa_nil))) (pe_op op_mulX (pv 8) (pe_op op_add (pe_op op_fdivW (pv 7) (pv 8)) pe_int)))))
          pss_nil)
        (pss_one (ps_set (i := 3) sc_rest_of.nd rfl (Or.inl rfl) (pe_op op_add (pv 3) (pe_op op_mulX (pv 4) (pe_call G_power_rest hr rfl T.g_power_rest T.d_power_rest.kp (b_power_rest T) .nil pass0 (pa_cons (pv 9) (pa_cons (pv 2) pa_nil)))))))))))))
    (pss_one (ps_ret (pe_op op_fdivW (pe_op op_mod (pv 3) (pv 2)) (pe_fld (pv 0) rfl)))))))), ?_⟩
    show tSeq _ _ _ [some (V.ref a), some (V.int (m : Nat)), none, none, none, none, none, none, none, none] H
    walk_at "K"
    walk_at "go"
    rw [eW]
    have hWe : ((m * sn : Nat) : Int) = (m : Int) * (sn : Int) := Int.natCast_mul m sn
    have hq : ∀ (x : Int) (H' : Hp), Ex H H' → x % ((m * sn : Nat) : Int) = (v * (sn : Int)) % ((m * sn : Nat) : Int) → Q (.int (x % ((m * sn : Nat) : Int) / (sn : Int))) H' := fun x H' xx hx => by
      rw [hWe] at hx ⊢
      rw [rest_end (by omega) hx]
      exact q H' xx
    generalize m * sn = W at hW hW0 hW9 hq
    refine for_it (walk_tup (xs := xs)) (fun i σ H' => Ex H H' ∧ ∃ (f : Int) (c e o t cy ti : Option V), σ = [some (V.ref a), some (V.int (m : Nat)), some (V.int (W : Nat)), some (V.int f), c, e, o, t, cy, ti] ∧ f % (W : Int) = (lo + sumR (rows.take i)) % (W : Int)) ?_ (fun i σ H' _ h => h.1.tup hp) ?_ ?_
    · refine ⟨Ex.refl _, lo, _, _, _, _, _, _, rfl, ?_⟩
      show lo % (W : Int) = (lo + 0) % (W : Int)
      rw [Int.add_zero]
    · rintro i x σ H1 H1' hi ⟨x1, f, c0, e0, o0, t0, cy0, ti0, rfl, hf⟩ ⟨rfl, hx⟩
      obtain ⟨⟨cc, ee⟩, hqq, t, r, rfl, kt, kr⟩ := prd_get hrows hx
      have kt1 : SqT K H1' t [.int cc, .ref r] := x1.tup kt
      have kr1 : IsT K cap H1' d cap r ((ee : Nat) : Int) := kr.ex x1
      obtain ⟨dx', fl', fp', fs', hri⟩ := kr1.ins'
      have hwm : bt cc + 265 ≤ wtR rows := wt_mem (q := (cc, ee)) (List.mem_of_getElem? hqq)
      walk_at "go"
      refine r_whileP (fun σ' H' => H' = H1' ∧ ∃ o tw : Nat, σ' = [some (V.ref a), some (V.int (m : Nat)), some (V.int (W : Nat)), some (V.int f), some (V.int cc), some (V.ref r), some (V.int (o : Nat)), some (V.int (tw : Nat)), cy0, ti0] ∧ W = o * 2 ^ tw ∧ o % 2 = 1) ?_ ?_
      · rintro σ' H2 ⟨rfl, o, tw, rfl, hWo, ho⟩
        have ho0 : 0 < o := by omega
        have hoW : o ≤ W := by
          rw [hWo]
          exact Nat.le_mul_of_pos_right o (Nat.pow_pos (by decide))
        have htw : 2 ^ tw ≤ W := by
          rw [hWo]
          exact Nat.le_mul_of_pos_left _ ho0
        have htw2 : tw ≤ 8900 := by
          rcases Nat.lt_or_ge 8900 tw with z | z
          · exfalso
            have : (2 : Nat) ^ 8900 ≤ 2 ^ tw := Nat.pow_le_pow_right (by decide) (by omega)
            omega
          · exact z
        walk_at "go"
        refine ⟨o, rfl, ho0, ho, by omega, fun E hE hEle => ?_⟩
        walk_at "go"
        refine ⟨cap, r, d, _, _, rfl, kr1, fun H3 x3 => ?_⟩
        rw [smallV_nat]
        have fin : ∀ (e' : Nat) (H4 : Hp) (ti : Option V), Ex H2 H4 → 2 ^ e' % W = 2 ^ ee % W →
            Ex H H4 ∧ ∃ (f' : Int) (c e o' t' cy ti' : Option V), [some (V.ref a), some (V.int (m : Nat)), some (V.int (W : Nat)), some (V.int (f + cc * ((2 ^ e' % W : Nat) : Int))), some (V.int cc), some (V.ref r), some (V.int (o : Nat)), some (V.int (tw : Nat)), some (V.int (E : Nat)), ti] = [some (V.ref a), some (V.int (m : Nat)), some (V.int (W : Nat)), some (V.int f'), c, e, o', t', cy, ti'] ∧ f' % (W : Int) = (lo + sumR (rows.take (i + 1))) % (W : Int) := fun e' H4 ti x4 he => by
          refine ⟨x1.trans x4, _, _, _, _, _, _, _, rfl, ?_⟩
          rw [he, emod_add_mul rfl _ rfl, take_snoc hqq, sumR_append]
          show (f + cc * 2 ^ ee) % (W : Int) = (lo + (sumR (rows.take i) + (cc * 2 ^ ee + 0))) % (W : Int)
          rw [Int.add_emod, hf, ← Int.add_emod]
          congr 1
          omega
        by_cases h64 : ee < 2 ^ 64
        · rw [if_pos h64]
          have cm : CMulX cc ((2 ^ ee % W : Nat) : Int) := mulx_ok (a := bt cc) (b := 8900) (bt_self cc) (by rw [Int.natAbs_natCast]; exact Nat.lt_trans (Nat.mod_lt _ hW0) hW9) (by omega)
          walk_at "go"
          refine ⟨ee, W, rfl, hW0, hW9, ?_⟩
          walk_at "go"
          exact fin ee H3 _ x3 rfl
        · rw [if_neg h64]
          have hE0 := hE.1
          have cm1 : CMulX (E : Int) (((tw / E + 1 : Nat)) : Int) := cmN (x := 8900) (y := 8900) (by omega) (by
            have := Nat.div_le_self tw E
            have h2 : (9000 : Nat) < 2 ^ 8900 := Nat.lt_of_lt_of_le (show 9000 < 2 ^ 14 by decide) (Nat.pow_le_pow_right (by decide) (by decide))
            omega) (by decide)
          have cd1 : CDivW (tw : Int) (E : Int) := cdN hE0 (by omega)
          have et : ((tw : Nat) : Int) / (E : Nat) + 1 = ((tw / E + 1 : Nat) : Int) := by
            rw [Int.natCast_add]
            rfl
          walk_at "go"
          refine ⟨r, cap, B + S.s, _, E, rfl, kr1.ex x3, cap_lim, hE0, Nat.le_trans hEle (Nat.le_trans hoW hW), by omega, fun H4 x4 => ?_⟩
          walk_at "go"
          rw [et]
          have ev : ((ee : Nat) : Int) % (E : Nat) + (E : Nat) * ((tw / E + 1 : Nat) : Int) = ((ee % E + E * (tw / E + 1) : Nat) : Int) := by
            rw [Int.natCast_add (ee % E), Int.natCast_mul, Int.natCast_emod]
          walk_at "go"
          rw [ev]
          have hsame : 2 ^ (ee % E + E * (tw / E + 1)) % W = 2 ^ ee % W := by
            rw [hWo]
            have h1 : tw < E * (tw / E + 1) := by
              have := Nat.div_add_mod tw E
              have h2 := Nat.mod_lt tw hE0
              rw [Nat.mul_add, Nat.mul_one]
              omega
            refine far_pow ho hE (by omega) (by omega) ?_
            rw [Nat.add_mul_mod_self_left, Nat.mod_mod]
          have cm : CMulX cc ((2 ^ (ee % E + E * (tw / E + 1)) % W : Nat) : Int) := mulx_ok (a := bt cc) (b := 8900) (bt_self cc) (by rw [Int.natAbs_natCast]; exact Nat.lt_trans (Nat.mod_lt _ hW0) hW9) (by omega)
          generalize ee % E + E * (tw / E + 1) = e' at hsame cm
          refine ⟨e', W, rfl, hW0, hW9, ?_⟩
          walk_at "go"
          exact fin e' H4 _ (x3.trans x4) hsame
      · intro N hN
        refine while_it (fun z σ H' => H' = H1' ∧ ∃ o tw : Nat, σ = [some (V.ref a), some (V.int (m : Nat)), some (V.int (W : Nat)), some (V.int f), some (V.int cc), some (V.ref r), some (V.int (o : Nat)), some (V.int (tw : Nat)), cy0, ti0] ∧ z = o ∧ W = o * 2 ^ tw ∧ 0 < o) (m0 := W) ⟨rfl, W, 0, rfl, rfl, by rw [Nat.pow_zero, Nat.mul_one], hW0⟩ ?_
        rintro z σ H2 ⟨rfl, o, tw, rfl, rfl, hWo, ho0⟩
        walk_at "go"
        refine r_if2 (fun e => ?_) (fun e => ?_)
        · have he : z % 2 = 0 := by
            have := V.int.inj (of_decide_eq_true e)
            omega
          refine r_turn ?_
          walk_at "go"
          refine ⟨z / 2, by omega, rfl, z / 2, tw + 1, rfl, rfl, ?_, by omega⟩
          rw [hWo, Nat.pow_succ]
          have : z = z / 2 * 2 := by omega
          rw [Nat.mul_comm (2 ^ tw) 2, ← Nat.mul_assoc, ← this]
        · have he : z % 2 = 1 := by
            have : ¬ ((z : Nat) : Int) % 2 = 0 := fun y => of_decide_eq_false e (congrArg V.int y)
            omega
          walk_at "go"
          exact hN _ _ ⟨rfl, z, tw, rfl, hWo, he⟩
    · rintro σ H' ⟨x1, f, c0, e0, o0, t0, cy0, ti0, rfl, hf⟩
      have ha1 := x1 _ _ ha
      have cd : CDivW (f % ((W : Nat) : Int)) (sn : Int) := cdN hs0 (by omega)
      have e1 : rows.take xs.length = rows := by rw [prd_len hrows, List.take_length]
      rw [e1, Int.add_comm, ← hval] at hf
      have hWi : (0 : Int) < (W : Nat) := by omega
      walk_at "go"
      exact hq f H' x1 hf
theorem ok_rest (T : Txt K mg) {cap : Sz} (cap_lim : cap.Le LIM) : ∀ d : Nat, FnOk P w K mg base CX0 (1 + d) (He.ga K "rest_of") (fdOf K (He.ga K "rest_of")) p_rest_of (spRest K cap d)
  | 0 => fnOk_none (fun vs H Q E h => by obtain ⟨a, S, B, v, m, rfl, ha, _⟩ := h; exact ha)
  | d + 1 => ok_rest1 cap_lim T (ok_rest T cap_lim d) ((ok_totient T).mono (show 1 ≤ 1 + d by omega)) ((ok_power_rest T).mono (show 1 ≤ 1 + d by omega)) ((ok_small T).mono (show 1 ≤ 1 + d by omega))
theorem ok_mod {k d : Nat} {cap : Sz} (T : Txt K mg)
    (G_rest_of : FnOk P w K mg base CX0 k (He.ga K "rest_of") (fdOf K (He.ga K "rest_of")) p_rest_of (spRest K cap d))
    (G_is_whole : FnOk P w K mg base CX0 k (He.ga K "is_whole") (fdOf K (He.ga K "is_whole")) p_is_whole (spWhole K)) :
    FnOk P w K mg base CX0 (k + 1) (He.ma K (He.ga K "Tower") "__mod__") (fdOf K (He.fAd K ("Tower", some "__mod__"))) p_Tower___mod__ (spMod K cap d) := by
  refine FunD.ok T.d_Tower___mod__ sc_Tower___mod__ (fun vs H Q E h => ?_) (fun cdv A outer s H vs Q E hr h => ?_)
  · obtain ⟨a, S, v, m, rfl, _⟩ := h
    rfl
  · obtain ⟨a, S, v, m, rfl, ha, hS, h1, h2, hB, q⟩ := h
    refine ⟨_, PSs.nox ((pss_cons (ps_if (PW.pt (pw_or (pt_not (pt_val (pe_call G_is_whole hr rfl T.g_is_whole T.d_is_whole.kp (b_is_whole T) .nil pass0 (pa_cons (pv 1) pa_nil)))) (pw_or1 (pt_not (pt_chain op_le op_le pe_int (pv 1) (pe_gint rfl T.c_MOST_DIVISOR))))))
      (pss_one ps_never)
      pss_nil)
    (pss_one (ps_ret (pe_call G_rest_of hr rfl T.g_rest_of T.d_rest_of.kp (b_rest_of T) .nil pass0 (pa_cons (pv 0) (pa_cons (pv 1) pa_nil))))))), ?_⟩
    show tSeq _ _ _ [some (V.ref a), some (V.int (m : Nat))] H
    walk_at "K"
    walk_at "go"
    refine ⟨_, _, _, rfl, .int _, ?_⟩
    walk_at "go"
    refine r_ifT' (decide_eq_true (by omega)) ?_
    walk_at "go"
    rw [decide_eq_true (show ((m : Nat) : Int) ≤ 1000 by omega)]
    walk_at "go"
    exact ⟨a, S, 10, v, m, rfl, ha, hS, h1, by omega, hB, q⟩
theorem ok_floordiv {k d : Nat} {cap : Sz} (T : Txt K mg)
    (G_rest_of : FnOk P w K mg base CX0 k (He.ga K "rest_of") (fdOf K (He.ga K "rest_of")) p_rest_of (spRest K cap (d + 1)))
    (G_settled : FnOk P w K mg base CX0 k (He.ga K "settled") (fdOf K (He.ga K "settled")) p_settled (spSettled K cap d))
    (G_is_whole : FnOk P w K mg base CX0 k (He.ga K "is_whole") (fdOf K (He.ga K "is_whole")) p_is_whole (spWhole K)) :
    FnOk P w K mg base CX0 (k + 1) (He.ma K (He.ga K "Tower") "__floordiv__") (fdOf K (He.fAd K ("Tower", some "__floordiv__"))) p_Tower___floordiv__ (spDiv K cap (d + 1)) := by
  refine FunD.ok T.d_Tower___floordiv__ sc_Tower___floordiv__ (fun vs H Q E h => ?_) (fun cdv A outer s H vs Q E hr h => ?_)
  · obtain ⟨a, S, v, m, rfl, _⟩ := h
    rfl
  · obtain ⟨a, S, v, m, rfl, ha0, hS, h1, h2, hB, q⟩ := h
    obtain ⟨dx, lo, p, sh, xs, rows, ha, hp, hrows, wf⟩ := ha0
    have kT := T.k_Tower
    have n1 := T.n_Tower_low
    have n2 := T.n_Tower_parts
    have n3 := T.n_Tower_share
    refine ⟨_, PSs.nox ((pss_cons (ps_if (PW.pt (pw_or (pt_not (pt_val (pe_call G_is_whole hr rfl T.g_is_whole T.d_is_whole.kp (b_is_whole T) .nil pass0 (pa_cons (pv 1) pa_nil)))) (pw_or1 (pt_not (pt_chain op_le op_le pe_int (pv 1) (pe_gint rfl T.c_MOST_DIVISOR))))))
      (pss_one ps_never)
      pss_nil)
    (pss_cons (ps_set (i := 2) sc_Tower___floordiv__.nd rfl (Or.inl rfl) (pe_call G_rest_of hr rfl T.g_rest_of T.d_rest_of.kp (b_rest_of T) .nil pass0 (pa_cons (pv 0) (pa_cons (pv 1) pa_nil))))
    (pss_one (ps_ret (pe_call G_settled hr rfl T.g_settled T.d_settled.kp (b_settled T) .nil pass0 (pa_cons (pe_callTy call_listN (by rfl) T.f_list (by decide +kernel) (pa_cons (pe_fld (pv 0) rfl) pa_nil)) (pa_cons (pe_op op_sub (pe_fld (pv 0) rfl) (pe_op op_mulX (pv 2) (pe_fld (pv 0) rfl))) (pa_cons (pe_op op_mulX (pe_fld (pv 0) rfl) (pv 1)) pa_nil))))))))), ?_⟩
    show tSeq _ _ _ [some (V.ref a), some (V.int (m : Nat)), none] H
    walk_at "K"
    walk_at "go"
    refine ⟨_, _, _, rfl, .int _, ?_⟩
    walk_at "go"
    refine r_ifT' (decide_eq_true (by omega)) ?_
    walk_at "go"
    rw [decide_eq_true (show ((m : Nat) : Int) ≤ 1000 by omega)]
    walk_at "go"
    refine ⟨a, S, 10, v, m, rfl, ⟨dx, lo, p, sh, xs, rows, ha, hp, hrows, wf⟩, hS, h1, by omega, hB, fun H1 x1 => ?_⟩
    have ha1 := x1 _ _ ha
    have hp1 := x1.tup hp
    have hr0 := Int.emod_nonneg v (show ((m : Nat) : Int) ≠ 0 by omega)
    have hr1 := Int.emod_lt_of_pos v (show (0 : Int) < (m : Nat) by omega)
    have hdm : (m : Int) * (v / (m : Int)) + v % (m : Int) = v := Int.mul_ediv_add_emod v m
    generalize v % ((m : Nat) : Int) = rr at hr0 hr1 hdm
    have hwz := wf.z
    have hSz : S.z ≤ 4000000 := hS.z
    have hSs : S.s ≤ 1200 := hS.s
    have hSn : S.n ≤ 1200 := hS.n
    have hrn := wf.n
    have bsh := bt_share wf.pos wf.s
    have brr : bt rr ≤ 10 := bt_le.mpr (by omega)
    have bm : bt (m : Int) ≤ 10 := bt_le.mpr (by omega)
    have cm1 : CMulX rr sh := mulx_ok (bt_self rr) (bt_self sh) (by omega)
    have cm2 : CMulX sh (m : Int) := mulx_ok (bt_self sh) (bt_self (m : Int)) (by omega)
    walk_at "go"
    intro l hl
    have x2 : Ex H (L2.upd H1 l (.lst xs)) := x1.trans (Ex.new hl)
    have ha2 := x2 _ _ ha
    walk_at "go"
    have hb1 := bt_mul rr sh
    have hb2 := bt_add lo (-(rr * sh))
    rw [bt_neg] at hb2
    have eb : lo - rr * sh = lo + -(rr * sh) := by omega
    have hsm : sh * (m : Int) > 0 := Int.mul_pos wf.pos (by omega)
    have hle : Sz.Le ⟨wtR rows + bt (lo - rr * sh), rows.length, S.s + 10⟩ (divSz S) := by
      refine ⟨?_, hrn, Nat.le_refl _⟩
      show wtR rows + bt (lo - rr * sh) ≤ S.z + 2 * S.s + 12
      rw [eb]
      omega
    refine ⟨l, lo - rr * sh, sh * (m : Int), xs, rows, S.s + 10, v / (m : Int), rfl, SqL.of upd_same, RowsV.ex x2 hrows, by omega, by rw [eb]; omega, hsm, ?_, by omega, ?_, fun r H' x' h' => q r H' (x2.trans x') (h'.mono hle)⟩
    · have e1 : (sh * (m : Int)).toNat = sh.toNat * m := by
        have h3 : (sh * (m : Int)).natAbs = sh.natAbs * m := by rw [Int.natAbs_mul, Int.natAbs_natCast]
        have := wf.pos
        have e4 : sh.natAbs = sh.toNat := by omega
        rw [e4] at h3
        omega
      rw [e1, Nat.pow_add]
      exact Nat.mul_le_mul wf.s (by omega)
    · have hv := wf.val
      have e2 : v / (m : Int) * (sh * (m : Int)) = (v - rr) * sh := by
        have : v - rr = (m : Int) * (v / (m : Int)) := by omega
        rw [this, Int.mul_comm sh, ← Int.mul_assoc, Int.mul_comm (v / (m : Int))]
      rw [e2, Int.sub_mul, hv]
      omega
end
end PW
/-! ### length -/
namespace PW
open PySem PySem.Spec PyProof.Rows L2
def lgv (v : Int) : Int := if v ≤ 0 then 0 else (bt v : Nat) - 1
def lenSz (c : Sz) : Sz := ⟨c.z + 4 * c.s + 40, c.n, c.s⟩
theorem lenSz_le {c : Sz} : c.Le (lenSz c) := ⟨by show c.z ≤ c.z + 4 * c.s + 40; omega, Nat.le_refl _, Nat.le_refl _⟩
def spLength (K : PySem.W.Frag) (cap : Sz) (d : Nat) : Sp := fun vs H Q _ => ∃ a S v, vs = [.ref a] ∧ IsT K cap H d S a v ∧ S.Le LIM ∧ ∀ r H', Ex H H' → IsT K cap H' (max 1 (d - 1)) (lenSz cap) r (lgv v) → Q (.ref r) H'
def gSz (c : Sz) (j : Nat) : Sz := ⟨c.z + 25 + c.s + j * (c.s + 2), c.n, c.s⟩
theorem gSz_le {c : Sz} {j : Nat} (h : j ≤ 3) : (gSz c j).Le (lenSz c) := by
  refine ⟨?_, Nat.le_refl _, Nat.le_refl _⟩
  show c.z + 25 + c.s + j * (c.s + 2) ≤ c.z + 4 * c.s + 40
  have : j * (c.s + 2) ≤ 3 * (c.s + 2) := Nat.mul_le_mul_right _ h
  omega
theorem gSz0 {c : Sz} {i : Int} (h : bt i ≤ 24) : (totSz c ⟨bt i, 0, 0⟩ 0).Le (gSz c 0) := by
  refine ⟨?_, Nat.le_refl _, Nat.le_refl _⟩
  show c.z + bt i + c.n * 0 + 0 * (0 + c.s) + c.s + 0 + 0 + 1 ≤ c.z + 25 + c.s + 0 * (c.s + 2)
  omega
theorem gSzS {c : Sz} {j : Nat} : (totSz (gSz c j) ⟨bt 1, 0, 0⟩ 0).Le (gSz c (j + 1)) := by
  refine ⟨?_, Nat.le_refl _, Nat.le_refl _⟩
  have b1 : bt 1 = 1 := by decide
  show c.z + 25 + c.s + j * (c.s + 2) + bt 1 + c.n * 0 + 0 * (0 + c.s) + c.s + 0 + 0 + 1 ≤ c.z + 25 + c.s + (j + 1) * (c.s + 2)
  rw [Nat.add_mul]
  omega
theorem len_bounds {S : Sz} {low : Int} {c : Int} {e : Nat} {r : Rw} {share v : Int} (w : Wf S low ((c, e) :: r) share v) (hv : 0 < v) : bt share ≤ e ∧ bt v ≤ bt c + e - bt share + 2 ∧ bt c + e ≤ bt v + bt share + 1 := by
  obtain ⟨h1, h2⟩ := w.size
  have hb := bt_pos w.far.1
  have hs := bt_pos (i := share) (by have := w.pos; omega)
  obtain ⟨_, _, _, e3⟩ := far_sum w.far
  have ht : bt share ≤ e := by
    rcases w.top c e r rfl with rfl | t
    · have : bt 1 = 1 := by decide
      omega
    · omega
  refine ⟨ht, bt_le.mpr ?_, ?_⟩
  · rcases Nat.lt_or_ge v.natAbs (2 ^ (bt c + e - bt share + 2)) with q | q
    · exact q
    · exfalso
      have h3 : 2 ^ (bt c + e - bt share + 2) * 2 ^ (bt share - 1) ≤ v.natAbs * 2 ^ (bt share - 1) := Nat.mul_le_mul_right _ q
      rw [← Nat.pow_add] at h3
      have e5 : bt c + e - bt share + 2 + (bt share - 1) = bt c + e + 1 := by omega
      rw [e5] at h3
      omega
  · have hu := bt_self v
    rcases Nat.lt_or_ge (bt v + bt share + 1) (bt c + e) with q | q
    · exfalso
      have h3 : v.natAbs * 2 ^ bt share < 2 ^ bt v * 2 ^ bt share := (Nat.mul_lt_mul_right (Nat.pow_pos (by decide))).mpr hu
      rw [← Nat.pow_add] at h3
      have h4 : 2 ^ (bt v + bt share) ≤ 2 ^ (bt c + e - 2) := Nat.pow_le_pow_right (by decide) (by omega)
      omega
    · exact q
theorem pw_above {g : Nat} {v : Int} (hv : 0 < v) : (v < pw2 ((g : Nat) : Int)) ↔ bt v ≤ g := by
  have hp : pw2 ((g : Nat) : Int) = 2 ^ g := by
    unfold pw2
    rw [if_neg (by omega), Int.toNat_natCast]
  rw [hp, bt_le]
  have h2 : ((2 : Int) ^ g) = ((2 ^ g : Nat) : Int) := (Int.natCast_pow 2 g).symm
  rw [h2]
  omega
section
variable {P : Program} {w : World} {K : PySem.W.Frag} {mg : Str → Option Value} {base : Heap}
theorem ok_length {k d : Nat} {cap : Sz} (cap_lim : (lenSz cap).Le LIM) (T : Txt K mg)
    (G_bits : FnOk P w K mg base CX0 (k + 1) (He.ga K "bits") (fdOf K (He.ga K "bits")) p_bits spBits)
    (G_Tower_sign : FnOk P w K mg base CX0 (k + 1) (He.ma K (He.ga K "Tower") "sign") (fdOf K (He.fAd K ("Tower", some "sign"))) p_Tower_sign (spSign K))
    (G_Tower___add__ : FnOk P w K mg base CX0 (k + 1) (He.ma K (He.ga K "Tower") "__add__") (fdOf K (He.fAd K ("Tower", some "__add__"))) p_Tower___add__ (spAdd K cap d))
    (G_Tower___sub__ : FnOk P w K mg base CX0 (k + 1) (He.ma K (He.ga K "Tower") "__sub__") (fdOf K (He.fAd K ("Tower", some "__sub__"))) p_Tower___sub__ (spSub K cap d))
    (G_Tower_above : FnOk P w K mg base CX0 (k + 1) (He.ma K (He.ga K "Tower") "above") (fdOf K (He.fAd K ("Tower", some "above"))) p_Tower_above (spAbove K (lenSz cap) (d + 1)))
    (G_Tower_power : FnOk P w K mg base CX0 (k + 1) (sgA "Tower" "power" K) (fdOf K (sgA "Tower" "power" K)) p_Tower_power (spPower K (lenSz cap) d))
    (G_Tower___init__ : FnOk P w K mg base CX0 k (He.ma K (He.ga K "Tower") "__init__") (fdOf K (He.fAd K ("Tower", some "__init__"))) p_Tower___init__ (spInit K)) :
    FnOk P w K mg base CX0 (k + 2) (He.ma K (He.ga K "Tower") "length") (fdOf K (He.fAd K ("Tower", some "length"))) p_Tower_length (spLength K cap (d + 1)) := by
  refine FunD.ok T.d_Tower_length sc_Tower_length (fun vs H Q E h => ?_) (fun cdv A outer s H vs Q E hr h => ?_)
  · obtain ⟨a, S, v, rfl, _⟩ := h
    rfl
  · obtain ⟨a, S, v, rfl, hself, hS, q⟩ := h
    have hself' := hself
    obtain ⟨dx, lo, p, sh, xs, rows, ha, hp, hrows, wf⟩ := hself
    have kT := T.k_Tower
    have n1 := T.n_Tower_low
    have n2 := T.n_Tower_parts
    have n3 := T.n_Tower_share
    have clim : cap.Le LIM := ⟨Nat.le_trans lenSz_le.z cap_lim.z, Nat.le_trans lenSz_le.n cap_lim.n, Nat.le_trans lenSz_le.s cap_lim.s⟩
    have hwz := wf.z
    have hSz : S.z ≤ 4000000 := hS.z
    have hSs : S.s ≤ 1200 := hS.s
    have bsh := bt_share wf.pos wf.s
    refine ⟨_, PSs.nox ((pss_cons (ps_if (pt_cmpR op_le (pe_meth0 (pv 0) T.k_Tower T.m_Tower_sign G_Tower_sign hr (b_Tower_sign T) .nil pass0) pe_int (nomark _))
      (pss_one (ps_ret (pe_make T.mk_Tower G_Tower___init__ hr rfl T.g_Tower (b_Tower___init___2 T) (dv_Tower___init___2 T) pass0 (pa_cons pe_int pa_nil))))
      pss_nil)
    (pss_cons (ps_if (pt_cmpR (PW.op_eqE hr.units0) (pe_fld (pv 0) rfl) (pe_tup pa_nil) (nomark _))
      (pss_one (ps_ret (pe_make T.mk_Tower G_Tower___init__ hr rfl T.g_Tower (b_Tower___init___2 T) (dv_Tower___init___2 T) pass0 (pa_cons (pe_op op_sub (pe_call G_bits hr rfl T.g_bits T.d_bits.kp (b_bits T) .nil pass0 (pa_cons (pe_fld (pv 0) rfl) pa_nil)) pe_int) pa_nil))))
      pss_nil)
    (pss_cons (ps_asg (pe_ix ix_tup (pe_fld (pv 0) rfl) pe_int (fun _ _ => rfl)) (pg_tup rfl (pgs_cons (pg_name (i := 1) sc_Tower_length.nd rfl (Or.inl rfl) (hf := by first | exact Or.inl rfl | exact Or.inr rfl)) (pgs_cons (pg_name (i := 2) sc_Tower_length.nd rfl (Or.inl rfl) (hf := by first | exact Or.inl rfl | exact Or.inr rfl)) pgs_nil))))
    (pss_cons (ps_set (i := 3) sc_Tower_length.nd rfl (Or.inl rfl) (pe_op (PW.op_ownB T.o_Tower___add__ G_Tower___add__ hr (b_Tower___add__ T) pass0) (pv 2) (pe_op op_add (pe_op op_sub (pe_call G_bits hr rfl T.g_bits T.d_bits.kp (b_bits T) .nil pass0 (pa_cons (pv 1) pa_nil)) (pe_call G_bits hr rfl T.g_bits T.d_bits.kp (b_bits T) .nil pass0 (pa_cons (pe_fld (pv 0) rfl) pa_nil))) pe_int)))
    (pss_cons (ps_while PassesOwn.never (pt_val (pe_meth (PW.pe_smeth (pe_glob (v := .ref _) rfl T.g_Tower rfl) T.sm_Tower_power G_Tower_power hr (b_Tower_power T) pass0 (pa_cons (pv 3) pa_nil)) T.k_Tower T.m_Tower_above G_Tower_above hr (b_Tower_above T) .nil pass0 (pa_cons (pv 0) pa_nil)))
      (pss_one (ps_set (i := 3) sc_Tower_length.nd rfl (Or.inl rfl) (pe_op (PW.op_ownB T.o_Tower___sub__ G_Tower___sub__ hr (b_Tower___sub__ T) pass0) (pv 3) pe_int))))
    (pss_one (ps_ret (pv 3))))))))), ?_⟩
    show tSeq _ _ _ [some (V.ref a), none, none, none] H
    walk_at "K"
    walk_at "go"
    refine ⟨cap, a, d + 1, S, v, rfl, hself', fun H1 x1 => ?_⟩
    have ha1 := x1 _ _ ha
    have hp1 := x1.tup hp
    walk_at "go"
    have small24 : ∀ {i : Int}, i.natAbs < 2 ^ 24 → Sz.Le ⟨bt i, 0, 0⟩ (lenSz cap) := fun h => ⟨by
      have := bt_le.mpr h
      show bt _ ≤ cap.z + 4 * cap.s + 40
      omega, Nat.zero_le _, Nat.zero_le _⟩
    refine r_if2 (fun e => ?_) (fun e => ?_)
    · have h0 : v ≤ 0 := by
        have h2 : ¬ 0 < sgn v := by
          have := of_decide_eq_true e
          omega
        have h3 : ¬ 0 < v := fun z => h2 (sgn_pos.mpr z)
        omega
      walk_at "go"
      refine mk_plain (cap := cap) (d := 0) T.e_Tower___init___parts (small24 (by decide)) fun r H' x' h' => q r H' (x1.trans x') ?_
      have : lgv v = 0 := by
        unfold lgv
        rw [if_pos h0]
      rw [this]
      exact h'.deep (Nat.le_max_left ..)
    · have h0 : 0 < v := by
        have h2 : ¬ sgn v ≤ 0 := of_decide_eq_false e
        exact sgn_pos.mp (by omega)
      have hlg : lgv v = ((bt v : Nat) : Int) - 1 := by
        unfold lgv
        rw [if_neg (by omega)]
      rw [hlg] at q
      walk_at "go"
      intro p0 hp0
      walk_at "go"
      have x2 : Ex H (L2.upd H1 p0 (.tup [])) := x1.trans (Ex.new hp0)
      have ha2 := x2 _ _ ha
      have hp2 := x2.tup hp
      have hrows2 := RowsV.ex x2 hrows
      have hself2 := hself'.ex x2
      generalize L2.upd H1 p0 (.tup []) = H2 at x2 ha2 hp2 hrows2 hself2 ⊢
      cases hrows2 with
      | nil =>
        have e1 := wf.low_eq.1
        subst e1
        refine r_ifT' rfl ?_
        walk_at "go"
        refine ⟨v, rfl, ?_⟩
        walk_at "go"
        have hbv : wtR ([] : Rw) + bt v ≤ S.z := hwz
        refine mk_plain (cap := cap) (d := 0) T.e_Tower___init___parts (small24 (by omega)) fun r H' x' h' => q r H' (x2.trans x') (h'.deep (Nat.le_max_left ..))
      | @cons x0 q0 xr rr hr0 hrr =>
        obtain ⟨c, ee⟩ := q0
        obtain ⟨t, r, rfl, k1, k2⟩ := hr0
        have k1' : SqT K H2 t [.int c, .ref r] := k1
        have k2' : IsT K cap H2 d cap r ((ee : Nat) : Int) := k2
        obtain ⟨b1, b2, b3⟩ := len_bounds wf h0
        have hw4 : bt c + 265 + wtR rr + bt lo ≤ S.z := hwz
        refine r_ifF' rfl ?_
        walk_at "go"
        refine ⟨c, rfl, ?_⟩
        walk_at "go"
        refine ⟨sh, rfl, ?_⟩
        walk_at "go"
        have bi : bt (((bt c : Nat) : Int) - ((bt sh : Nat) : Int) + 1) ≤ 24 := bt_le.mpr (by omega)
        have hd1 := k2'.pos
        refine rOwn_num rfl k2' (NumV.int hd1) ?_
        refine ⟨r, _, cap, _, _, _, rfl, k2', NumV.int hd1, clim, ⟨by show bt _ ≤ 4000000; omega, Nat.zero_le _, Nat.zero_le _⟩, fun g0 H3 x3 hg0 => ?_⟩
        have hmax : max 1 (d + 1 - 1) = d := by
          show max 1 d = d
          omega
        rw [hmax] at q
        have hG : ((ee : Nat) : Int) + (((bt c : Nat) : Int) - ((bt sh : Nat) : Int) + 1) = ((ee + bt c + 1 - bt sh : Nat) : Int) := by omega
        rw [hG] at hg0
        have hL : bt v ≤ ee + bt c + 1 - bt sh + 1 := by omega
        have hL2 : ee + bt c + 1 - bt sh ≤ bt v + 2 := by omega
        have hvb : 1 ≤ bt v := bt_pos (by omega)
        generalize ee + bt c + 1 - bt sh = G at hg0 hL hL2
        clear hG
        walk_at "go"
        refine while_it (fun m σ H' => Ex H3 H' ∧ ∃ (g : Addr) (j : Nat), σ = [some (V.ref a), some (V.int c), some (V.ref r), some (V.ref g)] ∧ m + j = 3 ∧ IsT K cap H' d (gSz cap j) g ((G : Int) - (j : Nat)) ∧ bt v + j ≤ G + 1) (m0 := 3) ⟨Ex.refl _, g0, 0, rfl, rfl, ?_, by omega⟩ ?_
        · have := hg0.mono (gSz0 bi)
          simpa using this
        · rintro m σ H4 ⟨x4, g, j, rfl, hm, hg, hbj⟩
          have hself4 := hself2.ex (x3.trans x4)
          have ha4 := (x3.trans x4) _ _ ha2
          obtain ⟨g', hg'⟩ : ∃ g' : Nat, (G : Int) - (j : Nat) = (g' : Nat) := ⟨G - j, by omega⟩
          rw [hg'] at hg
          walk_at "go"
          have hgn : NumV K (lenSz cap) H4 d (gSz cap j) (.ref g) ((g' : Nat) : Int) := .inl ⟨g, rfl, hg.cap lenSz_le⟩
          refine ⟨.ref g, _, _, rfl, hgn, gSz_le (by omega), fun r2 H5 x5 h5 => ?_⟩
          obtain ⟨dx5, fl5, fp5, fs5, hri5⟩ := h5.ins'
          walk_at "go"
          refine ⟨r2, .ref a, PSZ, S, _, v, rfl, h5, .inl ⟨a, rfl, (hself4.ex x5).cap lenSz_le⟩, ⟨by decide, by decide, by decide⟩, hS, fun H6 x6 => ?_⟩
          walk_at "go"
          have hg6 := hg.ex (x5.trans x6)
          refine r_if2 (fun e2 => ?_) (fun e2 => ?_)
          · have hab := (pw_above h0).mp (of_decide_eq_true e2)
            refine r_turn ?_
            walk_at "go"
            refine rOwn_num rfl hg6 (NumV.int (i := 1) hd1) ?_
            have glim : (gSz cap j).Le LIM := by
              have := gSz_le (c := cap) (j := j) (by omega)
              exact ⟨Nat.le_trans this.z cap_lim.z, Nat.le_trans this.n cap_lim.n, Nat.le_trans this.s cap_lim.s⟩
            refine ⟨g, _, _, _, _, _, rfl, hg6, NumV.int (i := 1) hd1, glim, ⟨by decide, by decide, by decide⟩, fun g2 H7 x7 hg2 => ?_⟩
            walk_at "go"
            refine ⟨m - 1, by omega, x4.trans ((x5.trans x6).trans x7), g2, j + 1, rfl, by omega, ?_, by omega⟩
            have e3 : (G : Int) - ((j + 1 : Nat) : Int) = ((g' : Nat) : Int) - 1 := by omega
            rw [e3]
            exact hg2.mono gSzS
          · have hab : ¬ bt v ≤ g' := fun z => of_decide_eq_false e2 ((pw_above h0).mpr z)
            have e3 : ((bt v : Nat) : Int) - 1 = (g' : Nat) := by omega
            walk_at "go"
            refine q g H6 ((x2.trans x3).trans (x4.trans (x5.trans x6))) ?_
            rw [e3]
            exact hg6.mono (gSz_le (by omega))
end
end PW
/-! ### the operators at one level -/
namespace PW
open PySem PySem.Spec PyProof.Rows L2
section
variable {P : Program} {w : World} {K : PySem.W.Frag} {mg : Str → Option Value} {base : Heap}
theorem o_settled {cap : Sz} (cl : cap.Le LIM) (T : Txt K mg) (d : Nat) : FnOk P w K mg base CX0 (lv d + 3) (He.ga K "settled") (fdOf K (He.ga K "settled")) p_settled (spSettled K cap d) := by
  obtain ⟨h1, h2, h3⟩ := ok_core (P := P) (w := w) (base := base) cl T d
  have o := ok_ordered cl T h3
  have g := ok_gathered cl T o ((ok_bits T).mono (by omega)) ((ok_doubled T).mono (by omega)) ((ok_small T).mono (by omega)) (h2.mono (by omega))
  exact ok_settled (k := lv d + 1) T g ((ok_bits T).mono (by omega)) ((ok_doubled T).mono (by omega)) ((ok_common T).mono (by omega)) ((ok_small T).mono (by omega)) ((ok_init T).mono (by show 2 ≤ 4 + 6 * d + 1; omega))
theorem o_add {cap : Sz} (cl : cap.Le LIM) (T : Txt K mg) (d : Nat) : FnOk P w K mg base CX0 (lv d + 1) (He.ma K (He.ga K "Tower") "__add__") (fdOf K (He.fAd K ("Tower", some "__add__"))) p_Tower___add__ (spAdd K cap d) := ok_add T (ok_core cl T d).1 ((ok_is_number T).mono (by show 2 ≤ 4 + 6 * d; omega)) ((ok_tower_of T).mono (by show 4 ≤ 4 + 6 * d; omega))
theorem o_radd {cap : Sz} (cl : cap.Le LIM) (T : Txt K mg) (d : Nat) : FnOk P w K mg base CX0 (lv d + 1) (He.ma K (He.ga K "Tower") "__radd__") (fdOf K (He.fAd K ("Tower", some "__radd__"))) p_Tower___radd__ (spAdd K cap d) := ok_radd T (ok_core cl T d).1 ((ok_is_number T).mono (by show 2 ≤ 4 + 6 * d; omega)) ((ok_tower_of T).mono (by show 4 ≤ 4 + 6 * d; omega))
theorem o_rsub {cap : Sz} (cl : cap.Le LIM) (T : Txt K mg) (d : Nat) : FnOk P w K mg base CX0 (lv d + 1) (He.ma K (He.ga K "Tower") "__rsub__") (fdOf K (He.fAd K ("Tower", some "__rsub__"))) p_Tower___rsub__ (spRsub K cap d) := ok_rsub T (ok_core cl T d).1 ((ok_is_number T).mono (by show 2 ≤ 4 + 6 * d; omega)) ((ok_tower_of T).mono (by show 4 ≤ 4 + 6 * d; omega))
theorem o_neg {cap : Sz} (cl : cap.Le LIM) (T : Txt K mg) (d : Nat) : FnOk P w K mg base CX0 (lv d + 2) (He.ma K (He.ga K "Tower") "__neg__") (fdOf K (He.fAd K ("Tower", some "__neg__"))) p_Tower___neg__ (spNeg K cap d) := ok_neg (k := lv d) T ((ok_core cl T d).1.mono (by omega)) ((ok_init T).mono (by show 2 ≤ 4 + 6 * d; omega))
theorem o_mul {cap : Sz} (cl : cap.Le LIM) (T : Txt K mg) (d : Nat) : FnOk P w K mg base CX0 (lv d + 2) (He.ma K (He.ga K "Tower") "__mul__") (fdOf K (He.fAd K ("Tower", some "__mul__"))) p_Tower___mul__ (spMul K cap d) := ok_mul (k := lv d) T ((ok_core cl T d).1.mono (by omega)) ((ok_is_whole T).mono (by omega)) ((ok_init T).mono (by show 2 ≤ 4 + 6 * d; omega))
theorem o_rmul {cap : Sz} (cl : cap.Le LIM) (T : Txt K mg) (d : Nat) : FnOk P w K mg base CX0 (lv d + 2) (He.ma K (He.ga K "Tower") "__rmul__") (fdOf K (He.fAd K ("Tower", some "__rmul__"))) p_Tower___rmul__ (spMul K cap d) := ok_rmul (k := lv d) T ((ok_core cl T d).1.mono (by omega)) ((ok_is_whole T).mono (by omega)) ((ok_init T).mono (by show 2 ≤ 4 + 6 * d; omega))
theorem o_abs {cap : Sz} (cl : cap.Le LIM) (T : Txt K mg) (d : Nat) : FnOk P w K mg base CX0 (lv d + 3) (He.ma K (He.ga K "Tower") "__abs__") (fdOf K (He.fAd K ("Tower", some "__abs__"))) p_Tower___abs__ (spAbs K cap d) := ok_abs T (o_neg cl T d) ((ok_sign T).mono (by omega))
theorem o_eq {cap : Sz} (cl : cap.Le LIM) (T : Txt K mg) (d : Nat) : FnOk P w K mg base CX0 (lv d + 1) (He.ma K (He.ga K "Tower") "__eq__") (fdOf K (He.fAd K ("Tower", some "__eq__"))) p_Tower___eq__ (spEq K cap d) := ok_eq T ((ok_is_number T).mono (by show 2 ≤ 4 + 6 * d; omega)) (ok_core cl T d).2.1 ((ok_sign T).mono (by show 1 ≤ 4 + 6 * d; omega))
theorem o_power {cap : Sz} (T : Txt K mg) (d : Nat) : FnOk P w K mg base CX0 (6) (sgA "Tower" "power" K) (fdOf K (sgA "Tower" "power" K)) p_Tower_power (spPower K cap d) := ok_power (k := 4) T ((ok_is_number T).mono (by decide)) ((ok_tower_of T).mono (by decide)) ((ok_doubled T).mono (by decide)) ((ok_small T).mono (by decide)) ((ok_sign T).mono (by decide)) ((ok_init T).mono (by decide))
theorem o_mod {cap : Sz} (cl : cap.Le LIM) (T : Txt K mg) (d : Nat) : FnOk P w K mg base CX0 (lv d + 1) (He.ma K (He.ga K "Tower") "__mod__") (fdOf K (He.fAd K ("Tower", some "__mod__"))) p_Tower___mod__ (spMod K cap d) := ok_mod T ((ok_rest T cl d).mono (by show 1 + d ≤ 4 + 6 * d; omega)) ((ok_is_whole T).mono (by show 1 ≤ 4 + 6 * d; omega))
theorem o_floordiv {cap : Sz} (cl : cap.Le LIM) (T : Txt K mg) (d : Nat) : FnOk P w K mg base CX0 (lv (d + 1) + 1) (He.ma K (He.ga K "Tower") "__floordiv__") (fdOf K (He.fAd K ("Tower", some "__floordiv__"))) p_Tower___floordiv__ (spDiv K cap (d + 1)) := ok_floordiv T ((ok_rest T cl (d + 1)).mono (by show 1 + (d + 1) ≤ 4 + 6 * (d + 1); omega)) ((o_settled cl T d).mono (by show 4 + 6 * d + 3 ≤ 4 + 6 * (d + 1); omega)) ((ok_is_whole T).mono (by show 1 ≤ 4 + 6 * (d + 1); omega))
theorem o_length {cap : Sz} (cl : cap.Le LIM) (cl2 : (lenSz cap).Le LIM) (T : Txt K mg) (d : Nat) : FnOk P w K mg base CX0 (lv (d + 1) + 2) (He.ma K (He.ga K "Tower") "length") (fdOf K (He.fAd K ("Tower", some "length"))) p_Tower_length (spLength K cap (d + 1)) := ok_length (k := lv (d + 1)) cl2 T ((ok_bits T).mono (by omega)) ((ok_sign T).mono (by omega)) ((o_add cl T d).mono (by show 4 + 6 * d + 1 ≤ 4 + 6 * (d + 1) + 1; omega)) ((ok_core cl T d).2.1.mono (by show 4 + 6 * d ≤ 4 + 6 * (d + 1) + 1; omega)) ((ok_core cl2 T (d + 1)).2.2.mono (by omega)) ((o_power T d).mono (by show 6 ≤ 4 + 6 * (d + 1) + 1; omega)) ((ok_init T).mono (by show 2 ≤ 4 + 6 * (d + 1); omega))
end
end PW
/-! ### the operators at any cap and depth -/
namespace PW
open PySem PySem.Spec PyProof.Rows L2
structure CapOk (c : Sz) : Prop where
  z : c.z + 4 * c.s + 40 ≤ 4000000
  n : c.n ≤ 1200
  s : c.s ≤ 1200
theorem CapOk.lim {c : Sz} (h : CapOk c) : c.Le LIM := ⟨by have := h.z; show c.z ≤ 4000000; omega, h.n, h.s⟩
theorem CapOk.lim2 {c : Sz} (h : CapOk c) : (lenSz c).Le LIM := ⟨h.z, h.n, h.s⟩
def anyC (D : Nat) (sp : Sz → Nat → Sp) : Sp := fun vs H Q E => ∃ c d, CapOk c ∧ d ≤ D ∧ sp c d vs H Q E
theorem lv_mono {d D : Nat} (h : d ≤ D) : lv d ≤ lv D := by
  show 4 + 6 * d ≤ 4 + 6 * D
  omega
theorem meth_num {K : PySem.W.Frag} {cap : Sz} {C a : Addr} {m : Str} {d : Nat} {S : Sz} {v : Int} {sp : Sp} {dvs : List V} {E : XK} {t : L2.TA} {σ : L2.St} {H : Hp} {Q : VK} (hC : C = TwC K) (ha : IsT K cap H d S a v)
    (q : t σ H fun vs H2 => sp (.ref a :: (vs ++ dvs)) H2 Q E) (hm : ∀ l p s, (fsT l p s).lookup m = none := by intros; rfl) : MethN C m sp dvs E t σ Q (.ref a) H := by
  subst hC
  obtain ⟨dx, l, p, s, h⟩ := ha.ins'
  exact r_methC h (hm l p s) q
theorem small_lgv {v : Int} (h : v.natAbs < 2 ^ 100000) : smallV (lgv v) = .int (lgv v) := by
  unfold smallV
  have h1 : bt v ≤ 100000 := bt_le.mpr h
  have h2 : (lgv v).natAbs ≤ 100000 := by
    unfold lgv
    split <;> omega
  rw [if_pos (Nat.lt_of_le_of_lt h2 (by decide))]
section
variable {P : Program} {w : World} {K : PySem.W.Frag} {mg : Str → Option Value} {base : Heap}
theorem fnOk_any {CX : CXT} {k D : Nat} {f : Addr} {fd : FuncData} {ps : List Str} {sp : Sz → Nat → Sp} (h : ∀ c d, CapOk c → d ≤ D → FnOk P w K mg base CX k f fd ps (sp c d)) : FnOk P w K mg base CX k f fd ps (anyC D sp) :=
  ⟨fun vs H Q E ⟨c, d, hc, hd, z⟩ => (h c d hc hd).len vs H Q E z, fun A outer s H args us vs Q E hr he hb hv ⟨c, d, hc, hd, z⟩ => (h c d hc hd).run A outer s H args us vs Q E hr he hb hv z⟩
theorem a_sub (T : Txt K mg) (D : Nat) : FnOk P w K mg base CX0 (lv D + 3) (He.ma K (He.ga K "Tower") "__sub__") (fdOf K (He.fAd K ("Tower", some "__sub__"))) p_Tower___sub__ (anyC D (spSub K)) := fnOk_any fun c d hc hd => (ok_core hc.lim T d).2.1.mono (by have := lv_mono hd; omega)
theorem a_above (T : Txt K mg) (D : Nat) : FnOk P w K mg base CX0 (lv D + 3) (He.ma K (He.ga K "Tower") "above") (fdOf K (He.fAd K ("Tower", some "above"))) p_Tower_above (anyC D (spAbove K)) := fnOk_any fun c d hc hd => (ok_core hc.lim T d).2.2.mono (by have := lv_mono hd; omega)
theorem a_add (T : Txt K mg) (D : Nat) : FnOk P w K mg base CX0 (lv D + 3) (He.ma K (He.ga K "Tower") "__add__") (fdOf K (He.fAd K ("Tower", some "__add__"))) p_Tower___add__ (anyC D (spAdd K)) := fnOk_any fun c d hc hd => (o_add hc.lim T d).mono (by have := lv_mono hd; omega)
theorem a_radd (T : Txt K mg) (D : Nat) : FnOk P w K mg base CX0 (lv D + 3) (He.ma K (He.ga K "Tower") "__radd__") (fdOf K (He.fAd K ("Tower", some "__radd__"))) p_Tower___radd__ (anyC D (spAdd K)) := fnOk_any fun c d hc hd => (o_radd hc.lim T d).mono (by have := lv_mono hd; omega)
theorem a_rsub (T : Txt K mg) (D : Nat) : FnOk P w K mg base CX0 (lv D + 3) (He.ma K (He.ga K "Tower") "__rsub__") (fdOf K (He.fAd K ("Tower", some "__rsub__"))) p_Tower___rsub__ (anyC D (spRsub K)) := fnOk_any fun c d hc hd => (o_rsub hc.lim T d).mono (by have := lv_mono hd; omega)
theorem a_neg (T : Txt K mg) (D : Nat) : FnOk P w K mg base CX0 (lv D + 3) (He.ma K (He.ga K "Tower") "__neg__") (fdOf K (He.fAd K ("Tower", some "__neg__"))) p_Tower___neg__ (anyC D (spNeg K)) := fnOk_any fun c d hc hd => (o_neg hc.lim T d).mono (by have := lv_mono hd; omega)
theorem a_abs (T : Txt K mg) (D : Nat) : FnOk P w K mg base CX0 (lv D + 3) (He.ma K (He.ga K "Tower") "__abs__") (fdOf K (He.fAd K ("Tower", some "__abs__"))) p_Tower___abs__ (anyC D (spAbs K)) := fnOk_any fun c d hc hd => (o_abs hc.lim T d).mono (by have := lv_mono hd; omega)
theorem a_mul (T : Txt K mg) (D : Nat) : FnOk P w K mg base CX0 (lv D + 3) (He.ma K (He.ga K "Tower") "__mul__") (fdOf K (He.fAd K ("Tower", some "__mul__"))) p_Tower___mul__ (anyC D (spMul K)) := fnOk_any fun c d hc hd => (o_mul hc.lim T d).mono (by have := lv_mono hd; omega)
theorem a_rmul (T : Txt K mg) (D : Nat) : FnOk P w K mg base CX0 (lv D + 3) (He.ma K (He.ga K "Tower") "__rmul__") (fdOf K (He.fAd K ("Tower", some "__rmul__"))) p_Tower___rmul__ (anyC D (spMul K)) := fnOk_any fun c d hc hd => (o_rmul hc.lim T d).mono (by have := lv_mono hd; omega)
theorem a_eq (T : Txt K mg) (D : Nat) : FnOk P w K mg base CX0 (lv D + 3) (He.ma K (He.ga K "Tower") "__eq__") (fdOf K (He.fAd K ("Tower", some "__eq__"))) p_Tower___eq__ (anyC D (spEq K)) := fnOk_any fun c d hc hd => (o_eq hc.lim T d).mono (by have := lv_mono hd; omega)
theorem a_power (T : Txt K mg) (D : Nat) : FnOk P w K mg base CX0 (lv D + 3) (sgA "Tower" "power" K) (fdOf K (sgA "Tower" "power" K)) p_Tower_power (anyC D (spPower K)) := fnOk_any fun c d hc hd => (o_power T d).mono (by show 6 ≤ 4 + 6 * D + 3; omega)
theorem a_mod (T : Txt K mg) (D : Nat) : FnOk P w K mg base CX0 (lv D + 3) (He.ma K (He.ga K "Tower") "__mod__") (fdOf K (He.fAd K ("Tower", some "__mod__"))) p_Tower___mod__ (anyC D (spMod K)) := fnOk_any fun c d hc hd => (o_mod hc.lim T d).mono (by have := lv_mono hd; omega)
theorem a_floordiv (T : Txt K mg) (D : Nat) : FnOk P w K mg base CX0 (lv D + 3) (He.ma K (He.ga K "Tower") "__floordiv__") (fdOf K (He.fAd K ("Tower", some "__floordiv__"))) p_Tower___floordiv__ (anyC D (spDiv K)) := fnOk_any fun c d hc hd => by
  cases d with
  | zero => exact fnOk_none (fun vs H Q E h => by obtain ⟨a, S, v, m, rfl, ha, _⟩ := h; exact ha)
  | succ d => exact (o_floordiv hc.lim T d).mono (by have := lv_mono hd; omega)
theorem a_length (T : Txt K mg) (D : Nat) : FnOk P w K mg base CX0 (lv D + 3) (He.ma K (He.ga K "Tower") "length") (fdOf K (He.fAd K ("Tower", some "length"))) p_Tower_length (anyC D (spLength K)) := fnOk_any fun c d hc hd => by
  cases d with
  | zero => exact fnOk_none (fun vs H Q E h => by obtain ⟨a, S, v, rfl, ha, _⟩ := h; exact ha)
  | succ d => exact (o_length hc.lim hc.lim2 T d).mono (by have := lv_mono hd; omega)
end
end PW
/-! ### own errors made and raised: all that the text raises -/
namespace PW
open PySem PySem.Spec PyProof.Rows L2
section
variable {P : Program} {w : World} {K : PySem.W.Frag} {mg : Str → Option Value} {base : Heap}
theorem xmk_InvalidNumber (hP : IsPG P) (T : Txt K mg) : Makes1 P w K mg (He.ga K "InvalidNumber") "InvalidNumber" "value" := by
  intro A s v R X hg ⟨mb, hb, hbb⟩ hlim hd hR
  have M := T.x_InvalidNumber
  refine PySem.W.exc_made (M := fun m => ∃ tu, m = fun (y : Str) => if y = "value" then some v else if y = "tag" then some (.str "InvalidNumber" tu) else none) M.oex M.iC M.tC X (by show 1 ≤ sizeLine; decide) ?_ ?_
  · intro A' h2 x t0 R' hA' hk xK hx hq
    refine PySem.W.init_run (s := ⟨h2, s.gens, s.drawn, s.toks, s.os⟩) (mg := mg) (mb := mb) (args := [v]) (binds := [("self", .ref x), ("value", v)]) M.oex (T.xi_InvalidNumber hP) (X.keeps hk) (hg.keeps hk) (hb.keeps hk) ((hbb _ (by decide)).trans (by rfl)) (hlim.keeps hk) hx (by omega)
      (fun _ _ _ _ _ _ _ _ => BindsTo.of_eq (by rfl)) (by decide +kernel) (fun y hy => ?_) rfl rfl rfl T.f_super (fun _ _ _ => rfl) (fun _ => rfl) (fun _ => rfl) rfl rfl (by rfl) (by rfl) (by rfl) (by rfl) ?_
    · rcases List.mem_cons.mp hy with rfl | hy
      · rfl
      · rcases List.mem_cons.mp hy with rfl | hy
        · rfl
        · cases hy
    · intro L cda cc s1 t1 os g d hn hL k hx1
      have xL : L ≠ x := Nat.ne_of_gt (Nat.lt_of_lt_of_le (Heap.lt_size hx) hL)
      refine PySem.W.init1_run (tag := "InvalidNumber") (fld := "value") (v := v) M.oex (PySem.W.in_but (X.keeps hk) xK k) hn (by rfl) (by rfl) hx1 xK xL rfl (by rfl) (by rfl) (by rfl) (M.no _ (by decide)) (M.no _ (by decide)) ?_
      intro h' tk dx tu e
      obtain ⟨g1, d1, os1⟩ : s1.gens = s.gens ∧ s1.drawn = s.drawn ∧ s1.os = s.os := ⟨g, d, os⟩
      have z := hq h' tk dx t1 _ ⟨tu, rfl⟩ ⟨fun b o nb q => e.keep b o nb (k b o nb q), e.obj, ?_, e.dne, e.ns⟩
      · rw [← g1, ← d1, ← os1] at z
        exact z
      · exact Nat.le_trans (Nat.le_trans hL (Nat.le_of_lt hn.lt)) e.dbig
  · intro h' tk e d m ⟨tu, hm⟩ E
    subst hm
    exact hR h' tk e d tu E

end
end PW
/-! ### what an error has; a call's value or its error's tag and field -/
namespace PW
open PySem PySem.Spec PyProof.Rows L2
/-- the errors of the text: class, tag, dict, what _law_field tells -/
inductive ErrRow (K : PySem.W.Frag) : Addr → Str → List (Str × V) → V → Prop where
  | InvalidNumber (v : V) : ErrRow K (He.ga K "InvalidNumber") "InvalidNumber" [("value", v), ("tag", .str "InvalidNumber")] v
theorem ErrRow.facts {K : PySem.W.Frag} {mg : Str → Option Value} (T : Txt K mg) {C : Addr} {tag : Str} {fs : List (Str × V)} {x : V} (h : ErrRow K C tag fs x) : XfC K C ∧ PySem.W.findIn K (.ref C) "tag" = some none ∧ PySem.W.exmAny K (.ref C) [.ref (He.ga K "WishError"), .ref (He.ga K "Missing"), .ref (He.ga K "NothingLeft")] = some true ∧ fs.lookup ("tag" : Str) = some (V.str tag) := by
  cases h with
  | InvalidNumber v => exact ⟨T.x_InvalidNumber.xf, T.x_InvalidNumber.no _ (by decide), T.xm_InvalidNumber, rfl⟩

/-- H holds an error -/
def ErrD (C : Addr) (fs : List (Str × V)) (cls : Value) (d : Option Addr) (H : Hp) : Prop := ∃ dd, cls = .ref C ∧ d = some dd ∧ H dd = some (.xd fs)
def spField (K : PySem.W.Frag) : Sp := fun vs H Q _ => ∃ a C tag fs x cls d, vs = [.ref a] ∧ ErrRow K C tag fs x ∧ H a = some (excE a cls d) ∧ ErrD C fs cls d H ∧ ∀ H', Ex H H' → Q x H'
section
variable {P : Program} {w : World} {K : PySem.W.Frag} {mg : Str → Option Value} {base : Heap}
theorem cxW_K {N : List Str} {qual : Str} {scope : Scope} {f : Addr} {cd : Value} {A : Around} {outer : List Env} {s : Shared} {H : Hp} {E : XK} : (cxW P w K mg base N qual scope f cd A outer s H E).K = K := rfl
theorem okW__law_field (T : Txt K mg) : FnW P w K mg base 1 (He.ga K "_law_field") (fdOf K (He.ga K "_law_field")) p__law_field (spField K) := by
  refine fnW_of T.d__law_field sc__law_field (fun vs H Q E h => ?_) (fun cdv A outer s H vs Q E hr h => ?_)
  · obtain ⟨a, C, tag, fs, x, cls, d, rfl, _⟩ := h
    rfl
  · obtain ⟨a, C, tag, fs, x, cls, d, rfl, row, ha, ⟨dd, rfl, rfl, hd⟩, q⟩ := h
    refine ⟨_, ((pss_cons (ps_if (pt_cmpR op_in_seq (PW.pe_xe (pv 0)) (pe_lst (pa_cons pe_str (pa_cons pe_str pa_nil))) rfl)
      (pss_one (ps_ret (PW.pe_xe (pv 0))))
      pss_nil)
    (pss_cons (ps_if (pt_cmpR op_in_seq (PW.pe_xe (pv 0)) (pe_lst (pa_cons pe_str (pa_cons pe_str (pa_cons pe_str (pa_cons pe_str (pa_cons pe_str (pa_cons pe_str pa_nil))))))) rfl)
      (pss_one (ps_ret (PW.pe_xe (pv 0))))
      pss_nil)
    (pss_cons (ps_if (pt_cmpR op_in_seq (PW.pe_xe (pv 0)) (pe_lst (pa_cons pe_str (pa_cons pe_str pa_nil))) rfl)
      (pss_one (ps_ret (PW.pe_xe (pv 0))))
      pss_nil)
    (pss_cons (ps_if (pt_cmpR op_eq (PW.pe_xe (pv 0)) pe_str (nomark _))
      (pss_one (ps_ret (PW.pe_xe (pv 0))))
      pss_nil)
    (pss_cons (ps_if (pt_cmpR op_eq (PW.pe_xe (pv 0)) pe_str (nomark _))
      (pss_one (ps_ret (PW.pe_xe (pv 0))))
      pss_nil)
    (pss_cons (ps_if (pt_cmpR op_eq (PW.pe_xe (pv 0)) pe_str (nomark _))
      (pss_one (ps_ret (PW.pe_xe (pv 0))))
      pss_nil)
    (pss_one (ps_ret (pe_ifExp (pt_cmpR op_eq (PW.pe_xe (pv 0)) pe_str (nomark _)) (PW.pe_xe (pv 0)) pe_non)))))))))), ?_⟩
    show tSeq _ _ _ [some (V.ref a)] H
    simp only [cxW_K]
    cases row with
    | InvalidNumber v =>
      have M := T.x_InvalidNumber
      refine ⟨_, rfl, a, _, dd, _, _, rfl, M.xf, M.no _ (by decide), ha, hd, rfl, ?_⟩
      walk_at "go"
      intro p0 hp0
      walk_at "go"
      refine ⟨_, rfl, a, _, dd, _, _, rfl, M.xf, M.no _ (by decide), (Ex.new hp0 _ _ ha), (Ex.new hp0 _ _ hd), rfl, ?_⟩
      exact q _ (Ex.new hp0)

/-- try: return ("value", a()) / except (..) as e: return (e.tag, _law_field(e)) -/
def ErrK (K : PySem.W.Frag) (Q : VK) : XK := fun cls d H' => ∃ C tag fs x, ErrRow K C tag fs x ∧ ErrD C fs cls d H' ∧ ∀ p H'', Ex H' H'' → H'' p = some (.tup [.str tag, x]) → Q (.ref p) H''
def TTwhy (K : PySem.W.Frag) : (XK → Hp → VK → Prop) → Hp → VK → Prop := fun tl H Q =>
  tl (ErrK K Q) H (fun v H' => [V.str "value", v].length ≤ sizeLine ∧ ∀ p, H' p = none → Q (.ref p) (upd H' p (.tup [.str "value", v])))
theorem r_why {tl : XK → Hp → VK → Prop} {H : Hp} {Q : VK} (h : tl (ErrK K Q) H (fun v H' => [V.str "value", v].length ≤ sizeLine ∧ ∀ p, H' p = none → Q (.ref p) (upd H' p (.tup [.str "value", v])))) : TTwhy K tl H Q := h
theorem why_gives {X : Cx} {k : Nat} {q : Str} {g : Addr} {cdg : Value} (T : Txt X.K X.mg) (hr : Room (k + 3) X.A) (h0 : ∀ f : Addr, (L2.start n__law_why [V.ref f])[0]? = some (some (V.ref f))) :
    LamX.GivesTo X n__law_why "_law_why" (defScope s__law_why) g cdg (defBody s__law_why) "_law_ask_z" q (TTwhy X.K) := by
  intro f c' s H Q tl act hc h
  have GF := okW__law_field (P := X.prog) (w := X.w) (base := X.base) T
  refine ⟨_, pss_one (ps_try_e3 (X := (cxOf C8.CX0 X.prog X.w X.K X.mg X.base n__law_why "_law_why" (defScope s__law_why) g cdg X.A X.stack s H C8.E0).nox) (i := 1)
      (c1 := .ref (He.ga X.K "WishError")) (c2 := .ref (He.ga X.K "Missing")) (c3 := .ref (He.ga X.K "NothingLeft"))
      (tb := fun W D σ H => ∃ Ech : XK, (∀ cls d σ' H', Ech cls d H' → W cls d σ' H') ∧ σ[0]? = some (some (.ref f)) ∧ H c' = some (LamX.CodeO c' q) ∧ tl Ech H (fun v H1 => [V.str "value", v].length ≤ sizeLine ∧ ∀ p, H1 p = none → D.rt (.ref p) (upd H1 p (.tup [.str "value", v]))))
      (ts := fun a cls d => tRet (tTup (tCons (tXe X.K "tag" (tVar 1)) (tCons (tCall (spField X.K) [] E0 (tCons (tVar 1) tNil)) tNil))))
      rfl rfl rfl sc__law_why.nd rfl rfl ⟨rfl, by decide, .inl T.g_WishError⟩ ⟨rfl, by decide, .inl T.g_Missing⟩ ⟨rfl, by decide, .inl T.g_NothingLeft⟩ (fun W pn xe tk _ => ?_)
      (fun a cls d pn => ?_)), ?_⟩
  · refine ⟨fun pins s' σ H' D I h' => ?_⟩
    obtain ⟨Ech, hW, h1, h2, h3⟩ := h'
    have hq : ∀ (p1 p2 p3 p4 p5 : Pos) (j j2 : Nat), PSs ((cxOf C8.CX0 X.prog X.w X.K X.mg X.base n__law_why "_law_why" (defScope s__law_why) g cdg X.A X.stack s H C8.E0).tr pn xe) [.Return (some (.Tuple [.Constant (.str "value") j p4, .Call (.Name "_law_ask_z" p1) [] [] p2] j2 p3)) p5] _ :=
      fun p1 p2 p3 p4 p5 j j2 => pss_one (ps_ret (pe_tup (pa_cons pe_str (pa_cons (act W pn xe Ech p1 p2 tk hW) pa_nil))))
    refine (hq _ _ _ _ _ _ _).run pins s' σ H' D I ?_
    exact ⟨h1, h2, h3⟩
  · have z : Room 1 (X.A.deeper (envOfC "_law_why" (defScope s__law_why) s.heap.objs.size g cdg)) := (hr.deeper _).mono (by omega)
    have hr1 : L2H.RoomH 1 ((cxOf C8.CX0 X.prog X.w X.K X.mg X.base n__law_why "_law_why" (defScope s__law_why) g cdg X.A X.stack s H C8.E0).nox.suite a pn).A := ⟨z.dp, z.un⟩
    exact pss_one (ps_ret (pe_tup (pa_cons (pe_xe (pv 1)) (pa_cons (pe_callW GF hr1 rfl T.g__law_field T.d__law_field.kp (b__law_field T) (pa_cons (pv 1) pa_nil)) pa_nil))))
  · refine ⟨_, fun cls d σ' H' hx => ?_, h0 f, hc, h⟩
    obtain ⟨C, tag, fs, x, row, hI, hQ⟩ := hx
    obtain ⟨dd, rfl, rfl, hd⟩ := hI
    obtain ⟨xf, hno, hxm, hlk⟩ := row.facts T
    refine ⟨hxm, fun a ha hl => ?_⟩
    have e1 : upd H' a (excE a (.ref C) (some dd)) dd = some (.xd fs) := Ex.new ha _ _ hd
    have e2 : upd H' a (excE a (.ref C) (some dd)) a = some (excE a (.ref C) (some dd)) := upd_same
    have l1 : (σ'.set 1 (some (.ref a)))[1]? = some (some (.ref a)) := by
      rw [List.getElem?_set_self (by rw [hl]; show 1 < n__law_why.length; decide)]
    refine ⟨.ref a, l1, a, _, dd, _, _, rfl, xf, hno, e2, e1, hlk, .ref a, l1, ?_⟩
    refine ⟨a, C, tag, fs, x, _, _, rfl, row, e2, ⟨dd, rfl, rfl, e1⟩, fun H2 x2 => ⟨by show 2 ≤ sizeLine; decide, fun p hp => ?_⟩⟩
    exact hQ p _ (((Ex.new ha).trans x2).trans (Ex.new hp)) upd_same
/-- _law_why(lambda: body) -/
theorem pe_why {X : Cx} {c Pt : Addr} {k : Nat} {params : Arguments} {body : Expr} {scope : Scope} {t : XK → L2.TE} {p lpos pos : Pos} (T : Txt X.K X.mg) (TB : LamX.TabB X.base X.mg c Pt) (hcode : X.env.code = .ref c) (hg : Gl X "_law_why") (hr : Room (k + 3) X.A)
    (L : LamX.LamS X.env.scope scope) (hdef : defaultsOf params X.env = ([], [])) (hbind : ∀ (q : Str) (cl : List (Str × Addr)) (pm cv ctv : Value), bindArgs (PySem.W.kla_fn "<lambda>" q params body scope cl pm cv ctv) ⟨[], []⟩ = pure [])
    (hbody : ∀ (A : Around) (outer : List Env) (s : Shared) (H : Hp) (E : XK) (f c' : Addr), Room k (A.deeper (LamX.lamEnv X scope s.heap.objs.size f c')) → PE (LamX.lamCx X A outer s H E scope f c') body (t E)) :
    PE X (.Call (.Name "_law_why" p) [.Lambda params body scope lpos] [] pos) (LamX.tLam [(Pt, X.env.qual ++ "<lambda>")] (TTwhy X.K) t) := by
  obtain ⟨oc, od, dV, kV, doc, pm, an, cdv, ct, osl, e, lk, hcd, _, _⟩ := T.d__law_why.ex
  have hb := b__law_why T
  rw [e] at lk
  have e2 : fdOf X.K (He.fAd X.K ("_law_why", none)) = _ := e
  rw [e2] at hb
  exact LamX.pe_lamcall (k := k) (Ng := n__law_why) (a := "_law_ask_z") hg T.g__law_why T.d__law_why.kp lk hcd hb sc__law_why rfl (.inl rfl) (why_gives T hr fun _ => rfl) TB hcode List.mem_cons_self (fun q hq _ => by
    rcases List.mem_cons.mp hq with rfl | hq
    · rfl
    · exact nomatch hq) (hr.mono (by omega)) L hdef hbind hbody
end
end PW
/-! ### _law_why and _law_whys over known lambdas (behind L_whyG) -/
namespace PW
open PySem PySem.Spec PyProof.Rows L2
open LamX (CodeO TabS Tabs ExtN TabB)
def spWhyD (P : Program) (w : World) (K : PySem.W.Frag) (mg : Str → Option Value) (base : Heap) (kk : Nat) : Sp := fun vs H Q _ => ∃ (f : Addr) (cs : List (Addr × Obj)) (H0 : Hp) (tl : XK → Hp → VK → Prop), vs = [.ref f] ∧ H = showC cs H0 ∧ NoC cs H0 ∧ CallD P w K mg base kk cs H0 f tl ∧
  ∃ Q0 : VK, TTwhy K tl H0 Q0 ∧ ∀ v H3, NoC cs H3 → Q0 v H3 → Q v (showC cs H3)
/-- what the lambdas give, one by one, wherever the heap has grown to -/
def Whys (K : PySem.W.Frag) (tls : List (XK → Hp → VK → Prop)) (H0 : Hp) (Q : VK) : Prop := ∃ φ : Nat → V → Hp → Prop, (∀ i v H H', Ex H H' → φ i v H → φ i v H') ∧ (∀ i v H D xs, H D = some (.lst xs) → φ i v H → φ i v (PW.hide H D)) ∧
  (∀ i tl, tls[i]? = some tl → ∀ H, Ex H0 H → TTwhy K tl H fun v H' => Ex H H' ∧ φ i v H') ∧
  ∀ vs H p, Ex H0 H → H0 p = none → H p = some (.lst vs) → vs.length = tls.length → (∀ i v, vs[i]? = some v → φ i v H) → Q (.ref p) H
def spWhysD (P : Program) (w : World) (K : PySem.W.Frag) (mg : Str → Option Value) (base : Heap) (kk : Nat) : Sp := fun vs H Q _ => ∃ (b : Addr) (cs : List (Addr × Obj)) (H0 : Hp) (fs : List Addr) (tls : List (XK → Hp → VK → Prop)), vs = [.ref b] ∧ H = showC cs H0 ∧ NoC cs H0 ∧ H0 b = some (.lst (fs.map V.ref)) ∧ fs.length ≤ 100 ∧
  Paired (CallD P w K mg base kk cs H0) fs tls ∧ ∃ Q0 : VK, Whys K tls H0 Q0 ∧ ∀ v H3, NoC cs H3 → Q0 v H3 → Q v (showC cs H3)
section
variable {P : Program} {w : World} {K : PySem.W.Frag} {mg : Str → Option Value} {base : Heap}
theorem okD__law_why {kk : Nat} (T : Txt K mg) : FnOk P w K mg base CX0 (kk + 3) (He.ga K "_law_why") (fdOf K (He.ga K "_law_why")) p__law_why (spWhyD P w K mg base kk) := by
  refine FunD.okC (p := ("_law_why", none)) T.d__law_why sc__law_why (fun vs H Q E h => ?_) (fun A outer s H vs Q E hr h => ?_)
  · obtain ⟨f, cs, H0, tl, rfl, _⟩ := h
    rfl
  · obtain ⟨f, cs, H0, tl, rfl, eH, n, hc, Q0, ht, hq0⟩ := h
    have GF := okW__law_field (P := P) (w := w) (base := base) T
    refine ⟨_, PSs.nox (pss_one (ps_try_e3 (X := (cxOf CX0 P w K mg base n__law_why "_law_why" (defScope s__law_why) _ _ A outer s H E).nox) (i := 1)
        (c1 := .ref (He.ga K "WishError")) (c2 := .ref (He.ga K "Missing")) (c3 := .ref (He.ga K "NothingLeft"))
        (tb := fun W D σ H => ∃ (f : Addr) (cs : List (Addr × Obj)) (H0 : Hp) (tl : XK → Hp → VK → Prop) (Ech : XK) (Q0 : VK), σ[0]? = some (some (.ref f)) ∧ H = showC cs H0 ∧ NoC cs H0 ∧ CallD P w K mg base kk cs H0 f tl ∧ (∀ cls d H', ShX cs Ech cls d H' → W cls d σ H') ∧
          tl Ech H0 Q0 ∧ ∀ v H1, NoC cs H1 → Q0 v H1 → [V.str "value", v].length ≤ sizeLine ∧ ∀ p, showC cs H1 p = none → D.rt (.ref p) (upd (showC cs H1) p (.tup [.str "value", v])))
        (ts := fun a cls d => tRet (tTup (tCons (tXe K "tag" (tVar 1)) (tCons (tCall (spField K) [] E0 (tCons (tVar 1) tNil)) tNil))))
        rfl rfl rfl sc__law_why.nd rfl rfl ⟨rfl, by decide, .inl T.g_WishError⟩ ⟨rfl, by decide, .inl T.g_Missing⟩ ⟨rfl, by decide, .inl T.g_NothingLeft⟩ (fun W pn xe tk _ => ?_)
        (fun a cls d pn => ?_))), ?_⟩
    · refine ⟨fun pins s' σ H' D I h' => ?_⟩
      obtain ⟨f, cs, H0, tl, Ech, Q1, h1, h2, h3, h4, h5, h6, h7⟩ := h'
      have hrd : Room (kk + 1) ((cxOf CX0 P w K mg base n__law_why "_law_why" (defScope s__law_why) (He.fAd K ("_law_why", none)) (.ref (He.codeOf K ("_law_why", none))) A outer s H E).nox.tr pn xe).A := hr.mono (by omega)
      have hq : ∀ (p1 p2 p3 p4 p5 : Pos) (j j2 : Nat), PSs ((cxOf CX0 P w K mg base n__law_why "_law_why" (defScope s__law_why) (He.fAd K ("_law_why", none)) (.ref (He.codeOf K ("_law_why", none))) A outer s H E).nox.tr pn xe) [.Return (some (.Tuple [.Constant (.str "value") j p4, .Call (.Name "_law_ask_z" p1) [] [] p2] j2 p3)) p5] _ :=
        fun p1 p2 p3 p4 p5 j j2 => pss_one (ps_ret (pe_tup (pa_cons pe_str (pa_cons (pe_dyn (k := kk) (i := 0) (W := W) tk hrd rfl (.inl rfl)) pa_nil))))
      refine (hq _ _ _ _ _ _ _).run pins s' σ H' D I ?_
      exact ⟨f, cs, H0, tl, Ech, Q1, h1, h2, h3, h4, h5, h6, h7⟩
    · have z : Room 1 (A.deeper (envOfC "_law_why" (defScope s__law_why) s.heap.objs.size (He.fAd K ("_law_why", none)) (.ref (He.codeOf K ("_law_why", none))))) := hr.mono (by omega)
      have hr1 : L2H.RoomH 1 ((cxOf CX0 P w K mg base n__law_why "_law_why" (defScope s__law_why) (He.fAd K ("_law_why", none)) (.ref (He.codeOf K ("_law_why", none))) A outer s H E).nox.suite a pn).A := ⟨z.dp, z.un⟩
      exact pss_one (ps_ret (pe_tup (pa_cons (pe_xe (pv 1)) (pa_cons (pe_callW GF hr1 rfl T.g__law_field T.d__law_field.kp (b__law_field T) (pa_cons (pv 1) pa_nil)) pa_nil))))
    · subst eH
      refine ⟨f, cs, H0, tl, ErrK K Q0, _, rfl, rfl, n, hc, fun cls d H' hx => ?_, ht, fun v H3 n3 h3 => ⟨h3.1, fun p hp => ?_⟩⟩
      · obtain ⟨H3, rfl, n3, C, tag, fs, x, row, hI, hQ⟩ := hx
        obtain ⟨dd, rfl, rfl, hd⟩ := hI
        obtain ⟨xf, hno, hxm, hlk⟩ := row.facts T
        refine ⟨hxm, fun a ha hl => ?_⟩
        have e1 : upd (showC cs H3) a (excE a (.ref C) (some dd)) dd = some (.xd fs) := Ex.new ha _ _ (n3.show hd)
        have e2 : upd (showC cs H3) a (excE a (.ref C) (some dd)) a = some (excE a (.ref C) (some dd)) := upd_same
        have l1 : ([some (V.ref f), none].set 1 (some (V.ref a)))[1]? = some (some (V.ref a)) := rfl
        refine ⟨.ref a, l1, a, _, dd, _, _, rfl, xf, hno, e2, e1, hlk, .ref a, l1, ?_⟩
        refine ⟨a, C, tag, fs, x, _, _, rfl, row, e2, ⟨dd, rfl, rfl, e1⟩, fun H2 x2 => ⟨by show 2 ≤ sizeLine; decide, fun p hp => ?_⟩⟩
        have xx : Ex (showC cs H3) (upd H2 p (.tup [.str tag, x])) := ((Ex.new ha).trans x2).trans (Ex.new hp)
        have z := hq0 (.ref p) (hideC cs (upd H2 p (.tup [.str tag, x]))) noC_hide (hQ p _ (ex_hideC n3 xx) ?_)
        · rw [ex_show xx] at z
          exact z
        · cases q : cs.lookup p with
          | none =>
            rw [hideC_out q]
            exact upd_same
          | some o =>
            have z := xx p _ (showC_in q)
            rw [upd_same] at z
            cases z
      · obtain ⟨pc, pn⟩ := showC_none hp
        show Q (.ref p) _
        rw [showC_upd hp]
        refine hq0 (.ref p) _ (fun b o q => ?_) (h3.2 p pn)
        rw [upd_ne (fun z => by
          rw [z, pc] at q
          cases q)]
        exact n3 b o q
theorem okD__law_whys {kk : Nat} (T : Txt K mg) (G__law_why : FnOk P w K mg base CX0 (kk + 3) (He.ga K "_law_why") (fdOf K (He.ga K "_law_why")) p__law_why (spWhyD P w K mg base kk)) : FnOk P w K mg base CX0 (kk + 4) (He.ga K "_law_whys") (fdOf K (He.ga K "_law_whys")) p__law_whys (spWhysD P w K mg base kk) := by
  refine FunD.ok T.d__law_whys sc__law_whys (fun vs H Q E h => ?_) (fun cdv A outer s H vs Q E hr h => ?_)
  · obtain ⟨b, cs, H0, fs, tls, rfl, _⟩ := h
    rfl
  · obtain ⟨b, cs, H0, fs, tls, rfl, rfl, n, hb, hl, hp, Q0, ⟨φ, hφ, hφ2, hs, hd⟩, hq0⟩ := h
    refine ⟨_, PSs.nox ((pss_one (ps_ret (pe_lc (own := [("_law_ask_z", 1)]) rfl sc__law_whys.nd (pi_list (pv 0)) (blkOk_by (own := [("_law_ask_z", 1)]) (N := n__law_whys) (sc := defScope s__law_whys) (by decide +kernel)) (fun _ _ _ _ _ => (pg_name (i := 1) sc__law_whys.nd rfl (Or.inl rfl) (hf := by first | exact Or.inl rfl | exact Or.inr rfl))) (fun _ _ _ _ _ => pts_nil) (fun _ _ _ _ _ => (pe_call G__law_why hr rfl T.g__law_why T.d__law_why.kp (b__law_why T) .nil pass0 (pa_cons (pv 1) pa_nil))))))), ?_⟩
    show tRet _ _ [some (V.ref b), none] (showC cs H0)
    have hbs := n.show hb
    walk_at "K"
    walk_at "go"
    intro D hD
    obtain ⟨Dc, Dn⟩ := showC_none hD
    have hlen := prd_len hp
    refine lc_grow (walk_list (xs := fs.map V.ref)) (σw := [some (.ref b), none]) rfl (fun i H v => φ i v (hideC cs H)) hD (by rw [List.length_map]; omega) (fun _ x => SqL.of (x _ _ (n.show hb))) (fun i H H' v x h => ?_) ?_ ?_
    · exact hφ i v _ _ (fun b u e => by
        obtain ⟨q1, q2⟩ := hideC_some e
        exact (hideC_out q1).trans (x _ _ q2)) h
    · rintro i v H4' H4 acc R hi x4 hacc ⟨rfl, hv⟩ hR
      rw [List.getElem?_map] at hv
      obtain ⟨f, hf, rfl⟩ : ∃ f, fs[i]? = some f ∧ v = .ref f := by
        cases e : fs[i]? with
        | none =>
          rw [e] at hv
          cases hv
        | some f =>
          rw [e] at hv
          exact ⟨f, rfl, (Option.some.inj hv).symm⟩
      obtain ⟨tl, htl, hc⟩ := prd_get hp hf
      have xx : Ex H0 (hideC cs H4) := ex_hideC n x4
      have e4 : showC cs (hideC cs H4) = H4 := ex_show x4
      walk_at "go"
      refine ⟨rfl, ?_⟩
      walk_at "go"
      refine ⟨f, cs, hideC cs H4, tl, rfl, e4.symm, noC_hide, hc.ex xx, _, hs i tl htl _ xx, fun v' H' n' h' => ?_⟩
      obtain ⟨xh, hv'⟩ := h'
      have hD' : H' D = some (.lst acc) := xh _ _ ((hideC_out Dc).trans hacc)
      refine hR v' _ ?_ (by
        have z := ex_showC (cs := cs) xh
        rw [e4] at z
        exact z)
      have eh : hideC cs (PW.hide (showC cs H') D) = PW.hide H' D := by
        funext b
        by_cases q : b = D
        · subst q
          rw [hide_same, hideC_out Dc, hide_same]
        · rw [hide_ne q]
          cases z : cs.lookup b with
          | none => rw [hideC_out z, hide_ne q, showC_out z]
          | some o => rw [hideC_in z, n' b o z]
      show φ i v' _
      rw [eh]
      exact hφ2 i v' H' D acc hD' hv'
    · intro H3 acc x3 hacc hl3 hE
      have e3 : showC cs (hideC cs H3) = H3 := ex_show x3
      walk_at "go"
      have z := hq0 (.ref D) (hideC cs H3) noC_hide (hd acc (hideC cs H3) D (ex_hideC n x3) Dn ((hideC_out Dc).trans hacc) (by rw [hl3, List.length_map]; exact hlen) fun i v e => hφ i v _ _ (fun b u q => by
        obtain ⟨q1, q2⟩ := hideC_some q
        refine (hideC_out q1).trans ?_
        by_cases q3 : b = D
        · rw [q3, hide_same] at q2
          cases q2
        · rwa [hide_ne q3] at q2) (hE i v e))
      rw [e3] at z
      exact z
end
end PW
/-! ### _law_whys called from the law, which holds the lambdas' cells -/
namespace PW
open PySem PySem.Spec PyProof.Rows L2
open LamX (CodeO TabS Tabs ExtN TabB)
def tCallS (S : L2.St → List V → Hp → VK → Prop) (t : TA) : L2.TE := fun σ H Q => t σ H fun vs H1 => S σ vs H1 Q
def sWhysL (X : Cx) (kk : Nat) : L2.St → List V → Hp → VK → Prop := fun σ vs H1 Q => ∃ (b : Addr) (fs : List Addr) (ts : List (XK → L2.TE)), vs = [.ref b] ∧ H1 b = some (.lst (fs.map V.ref)) ∧ fs.length ≤ 100 ∧ Paired (fun f t => IsLam X kk H1 f t) fs ts ∧ Whys X.K (ts.map fun t E H Q => t E σ H Q) H1 Q
def sWhyL (X : Cx) (kk : Nat) : L2.St → List V → Hp → VK → Prop := fun σ vs H1 Q => ∃ (f : Addr) (t : XK → L2.TE), vs = [.ref f] ∧ IsLam X kk H1 f t ∧ TTwhy X.K (fun E H Q => t E σ H Q) H1 Q
theorem prd_mapR {α β γ : Type} {F : α → β → Prop} {G : α → γ → Prop} {g : β → γ} (h : ∀ a b, F a b → G a (g b)) : ∀ {xs : List α} {ys : List β}, Paired F xs ys → Paired G xs (ys.map g)
  | _, _, .nil => .nil
  | _, _, .cons r t => .cons (h _ _ r) (prd_mapR h t)
section
variable {X : Cx} {k kk : Nat} {f : Addr} {fd : FuncData} {ps : List Str} {x : Str} {q pos : Pos} {e : Expr} {t : TA}
theorem pe_callL {sp : Sp} {S : L2.St → List V → Hp → VK → Prop} (F : FnOk X.prog X.w X.K X.mg X.base CX0 k f fd ps sp) (hr : Room k X.A) (hg : Gl X x) (hm : X.mg x = some (.ref f)) (hk : PySem.W.keepIn X.K (.ref f) = true) (hb : Binds X.K fd ps []) (hfn : ∀ x, X.fn x = true) (ha : PA X [e] t)
    (hS : ∀ σ vs H1 Q cs, S σ vs H1 Q → CellsOf X σ cs → NoC cs H1 → sp vs (showC cs H1) (fun v H2 => Q v (hideC cs H2)) E0)
    (hdb : (x == ("__debug__" : Str)) = false := by decide)
    (he : starEach (e :: []) X.env = (false, eval e X.env) :: starEach [] X.env := by rfl) (hpl : (backTo pos (starEach [] X.env)).any (·.1) = false := by rfl) : PE X (.Call (.Name x q) [e] [] pos) (tCallS S t) := by
  refine ⟨fun pins s σ H Q I h => wpAny_Call_Name_kw (ld_glob I hg hm (PySem.W.callWith_K (h₀ := X.base) I.ok.mod.kin hk (thn (ha.run pos pins s σ H _ I h) fun us s1 ⟨vs, H1, I1, r, q⟩ => ⟨I1.kIn, ?_⟩) he hpl) hdb)⟩
  obtain ⟨C, n, c1, c2, c3⟩ := cells_of I1 hfn
  have q2 := hS _ _ _ _ _ q C n
  have b := hb s1 us I1.kIn (by rw [List.append_nil, ← r.length]; exact F.len _ _ _ _ q2)
  rw [List.append_nil] at b
  have e1 := env_show I1.env0 n c1 c2 c3
  refine wpAny_call (codeAny_mono (F.run X.A X.stack s1 _ ⟨us, []⟩ us vs _ E0 hr e1 b r q2) fun r s' hq => ?_)
  cases r with
  | error e => exact (show False from hq).elim
  | ok fl =>
    cases fl with
    | ret u => exact I1.after (ce_hide e1 n hq fun v H2 _ h => h)
    | next => exact False.elim hq
    | brk => exact False.elim hq
    | cont => exact False.elim hq
theorem pe_whysL (F : FnOk X.prog X.w X.K X.mg X.base CX0 k f fd ps (spWhysD X.prog X.w X.K X.mg X.base kk)) (hr : Room k X.A) (hg : Gl X x) (hm : X.mg x = some (.ref f)) (hk : PySem.W.keepIn X.K (.ref f) = true) (hb : Binds X.K fd ps []) (hfn : ∀ x, X.fn x = true) (ha : PA X [e] t)
    (hdb : (x == ("__debug__" : Str)) = false := by decide)
    (he : starEach (e :: []) X.env = (false, eval e X.env) :: starEach [] X.env := by rfl) (hpl : (backTo pos (starEach [] X.env)).any (·.1) = false := by rfl) : PE X (.Call (.Name x q) [e] [] pos) (tCallS (sWhysL X kk) t) :=
  pe_callL F hr hg hm hk hb hfn ha (fun σ vs H1 Q cs ⟨b, fs, ts, e1, e2, e3, e4, e5⟩ C n => ⟨b, cs, H1, fs, _, e1, rfl, n, e2, e3, prd_mapR (fun _ _ l => l.call C) e4, Q, e5, fun v H3 n3 h => by
    show Q v (hideC cs (showC cs H3))
    rw [hide_show n3]
    exact h⟩) hdb he hpl
theorem pe_whyL (F : FnOk X.prog X.w X.K X.mg X.base CX0 k f fd ps (spWhyD X.prog X.w X.K X.mg X.base kk)) (hr : Room k X.A) (hg : Gl X x) (hm : X.mg x = some (.ref f)) (hk : PySem.W.keepIn X.K (.ref f) = true) (hb : Binds X.K fd ps []) (hfn : ∀ x, X.fn x = true) (ha : PA X [e] t)
    (hdb : (x == ("__debug__" : Str)) = false := by decide)
    (he : starEach (e :: []) X.env = (false, eval e X.env) :: starEach [] X.env := by rfl) (hpl : (backTo pos (starEach [] X.env)).any (·.1) = false := by rfl) : PE X (.Call (.Name x q) [e] [] pos) (tCallS (sWhyL X kk) t) :=
  pe_callL F hr hg hm hk hb hfn ha (fun σ vs H1 Q cs ⟨f, t, e1, e2, e3⟩ C n => ⟨f, cs, H1, _, e1, rfl, n, e2.call C, Q, e3, fun v H3 n3 h => by
    show Q v (hideC cs (showC cs H3))
    rw [hide_show n3]
    exact h⟩) hdb he hpl
end
end PW
/-! ### an error InvalidNumber -/
namespace PW
open PySem PySem.Spec PyProof.Rows L2
/-- H' holds an error InvalidNumber about x -/
def InvD (K : PySem.W.Frag) (x : V) (cls : Value) (d : Option Addr) (H : Hp) : Prop := ∃ dd, cls = .ref (He.ga K "InvalidNumber") ∧ d = some dd ∧ H dd = some (.xd [("value", x), ("tag", .str "InvalidNumber")])
def InvE (K : PySem.W.Frag) (x : V) (H : Hp) (E : XK) : Prop := ∀ cls d H', Ex H H' → InvD K x cls d H' → E cls d H'
theorem InvE.new {K : PySem.W.Frag} {x : V} {H : Hp} {E : XK} (h : InvE K x H E) {d : Addr} (hd : H d = none) : E (.ref (He.ga K "InvalidNumber")) (some d) (upd H d (.xd [("value", x), ("tag", .str "InvalidNumber")])) := h _ _ _ (Ex.new hd) ⟨d, rfl, rfl, upd_same⟩
end PW
/-! ### calls that raise InvalidNumber -/
namespace PW
open PySem PySem.Spec PyProof.Rows L2
def spNev : Sp := fun _ _ _ _ => False
def spPowerX (K : PySem.W.Frag) : Sp := fun vs H Q E => ∃ x, vs = [x] ∧ Wh K H x false false ∧ InvE K x H E
def spInitX (K : PySem.W.Frag) : Sp := fun vs H Q E => ∃ a x t y z, vs = [a, x, y, z] ∧ Wh K H x false t ∧ InvE K x H E
/-- no divisor -/
inductive BadDiv (K : PySem.W.Frag) (H : Hp) : V → Prop where
  | not {x : V} {t : Bool} (h : Wh K H x false t) : BadDiv K H x
  | low (i : Int) (h : ¬ (1 ≤ i ∧ i ≤ 1000)) : BadDiv K H (.int i)
def spDivX (K : PySem.W.Frag) : Sp := fun vs H Q E => ∃ a x, vs = [.ref a, x] ∧ BadDiv K H x ∧ InvE K x H E
section
variable {P : Program} {w : World} {K : PySem.W.Frag} {mg : Str → Option Value} {base : Heap}
theorem fnOk_nev {CX : CXT} {k : Nat} {f : Addr} {fd : FuncData} {ps : List Str} : FnOk P w K mg base CX k f fd ps spNev := ⟨fun _ _ _ _ h => h.elim, fun _ _ _ _ _ _ _ _ _ _ _ _ _ h => h.elim⟩
theorem okX_power (hP : IsPG P) (T : Txt K mg) : FnOk P w K mg base (L2.CX P w) 4 (sgA "Tower" "power" K) (fdOf K (sgA "Tower" "power" K)) p_Tower_power (spPowerX K) := by
  have G_is_number := (ok_is_number (P := P) (w := w) (base := base) T).mono (show 2 ≤ 3 by decide)
  have G_tower_of : FnOk P w K mg base CX0 (3) (He.ga K "tower_of") (fdOf K (He.ga K "tower_of")) p_tower_of (spNev) := fnOk_nev
  have G_doubled : FnOk P w K mg base CX0 (3) (He.ga K "doubled") (fdOf K (He.ga K "doubled")) p_doubled (spNev) := fnOk_nev
  have G_Tower_small : FnOk P w K mg base CX0 (3) (He.ma K (He.ga K "Tower") "small") (fdOf K (He.fAd K ("Tower", some "small"))) p_Tower_small (spNev) := fnOk_nev
  have G_Tower_sign : FnOk P w K mg base CX0 (3) (He.ma K (He.ga K "Tower") "sign") (fdOf K (He.fAd K ("Tower", some "sign"))) p_Tower_sign (spNev) := fnOk_nev
  have G_Tower___init__ : FnOk P w K mg base CX0 (2) (He.ma K (He.ga K "Tower") "__init__") (fdOf K (He.fAd K ("Tower", some "__init__"))) p_Tower___init__ (spNev) := fnOk_nev
  refine FunD.ok T.d_Tower_power sc_Tower_power (fun vs H Q E h => ?_) (fun cdv A outer s H vs Q E hr h => ?_)
  · obtain ⟨x, rfl, _⟩ := h
    rfl
  · obtain ⟨x, rfl, wh, hE⟩ := h
    refine ⟨_, ((pss_cons (ps_if (pt_not (pt_val (pe_call G_is_number hr rfl T.g_is_number T.d_is_number.kp (b_is_number T) .nil pass0 (pa_cons (pv 0) pa_nil))))
      (pss_one (ps_raise rfl (takes_of rfl rfl rfl rfl) (PW.pmk1 (xmk_InvalidNumber hP T) (by decide) (raises_own T.x_InvalidNumber.oex.exC T.x_InvalidNumber.oex.tyC) T.x_InvalidNumber.oex.kC T.g_InvalidNumber hr (pa_cons (pv 0) pa_nil) rfl)))
      pss_nil)
    (pss_cons (ps_set (i := 1) sc_Tower_power.nd rfl (Or.inl rfl) (pe_call G_tower_of hr rfl T.g_tower_of T.d_tower_of.kp (b_tower_of T) .nil pass0 (pa_cons (pv 0) pa_nil)))
    (pss_cons (ps_if (pt_cmpR op_lt (pe_meth0 (pv 1) T.k_Tower T.m_Tower_sign G_Tower_sign hr (b_Tower_sign T) .nil pass0) pe_int (nomark _))
      (pss_one (ps_ret (pe_make T.mk_Tower G_Tower___init__ hr rfl T.g_Tower (b_Tower___init___2 T) (dv_Tower___init___2 T) pass0 (pa_cons pe_int pa_nil))))
      pss_nil)
    (pss_cons (ps_set (i := 2) sc_Tower_power.nd rfl (Or.inl rfl) (pe_meth0 (pv 1) T.k_Tower T.m_Tower_small G_Tower_small hr (b_Tower_small T) .nil pass0))
    (pss_cons (ps_if (PW.pt (pw_and (pt_cmp (pc_notN (pv 2)) rfl) (pw_and1 (pt_cmpR op_le (pv 2) (pe_gint rfl T.c_PLAIN) (nomark _)))))
      (pss_one (ps_ret (pe_make T.mk_Tower G_Tower___init__ hr rfl T.g_Tower (b_Tower___init___2 T) (dv_Tower___init___2 T) pass0 (pa_cons (pe_call G_doubled hr rfl T.g_doubled T.d_doubled.kp (b_doubled T) .nil pass0 (pa_cons (pv 2) pa_nil)) pa_nil))))
      pss_nil)
    (pss_one (ps_ret (pe_makeK T.mk_Tower G_Tower___init__ hr rfl T.g_Tower (kb_Tower___init___1_parts T) pass0 (pa_cons pe_int pa_nil) (pk_cons (pe_tup (pa_cons (pe_tup (pa_cons pe_int (pa_cons (pv 1) pa_nil))) pa_nil)) pk_nil)))))))))), ?_⟩
    show tSeq _ _ _ [some x, none, none] H
    walk_at "K"
    walk_at "go"
    refine ⟨x, _, _, rfl, wh, ?_⟩
    walk_at "go"
    exact ⟨_, rfl, _, rfl, fun d hd => hE.new hd⟩
theorem okX_init (hP : IsPG P) (T : Txt K mg) : FnOk P w K mg base (L2.CX P w) 3 (He.ma K (He.ga K "Tower") "__init__") (fdOf K (He.fAd K ("Tower", some "__init__"))) p_Tower___init__ (spInitX K) := by
  have G_is_whole := (ok_is_whole (P := P) (w := w) (base := base) T).mono (show 1 ≤ 2 by decide)
  refine FunD.ok T.d_Tower___init__ sc_Tower___init__ (fun vs H Q E h => ?_) (fun cdv A outer s H vs Q E hr h => ?_)
  · obtain ⟨a, x, t, y, z, rfl, _⟩ := h
    rfl
  · obtain ⟨a, x, t, y, z, rfl, wh, hE⟩ := h
    refine ⟨_, ((pss_cons (ps_if (pt_not (pt_val (pe_call G_is_whole hr rfl T.g_is_whole T.d_is_whole.kp (b_is_whole T) .nil pass0 (pa_cons (pv 1) pa_nil))))
      (pss_one (ps_raise rfl (takes_of rfl rfl rfl rfl) (PW.pmk1 (xmk_InvalidNumber hP T) (by decide) (raises_own T.x_InvalidNumber.oex.exC T.x_InvalidNumber.oex.tyC) T.x_InvalidNumber.oex.kC T.g_InvalidNumber hr (pa_cons (pv 1) pa_nil) rfl)))
      pss_nil)
    (pss_cons (ps_fld (pv 0) (pv 1) rfl)
    (pss_cons (ps_fld (pv 0) (pv 2) rfl)
    (pss_one (ps_fld (pv 0) (pv 3) rfl)))))), ?_⟩
    show tSeq _ _ _ [some a, some x, some y, some z] H
    walk_at "K"
    walk_at "go"
    refine ⟨x, _, _, rfl, wh, ?_⟩
    walk_at "go"
    exact ⟨_, rfl, _, rfl, fun d hd => hE.new hd⟩
theorem okX_mod (hP : IsPG P) (T : Txt K mg) : FnOk P w K mg base (L2.CX P w) 3 (He.ma K (He.ga K "Tower") "__mod__") (fdOf K (He.fAd K ("Tower", some "__mod__"))) p_Tower___mod__ (spDivX K) := by
  have G_is_whole := (ok_is_whole (P := P) (w := w) (base := base) T).mono (show 1 ≤ 2 by decide)
  have G_rest_of : FnOk P w K mg base CX0 (2) (He.ga K "rest_of") (fdOf K (He.ga K "rest_of")) p_rest_of (spNev) := fnOk_nev
  refine FunD.ok T.d_Tower___mod__ sc_Tower___mod__ (fun vs H Q E h => ?_) (fun cdv A outer s H vs Q E hr h => ?_)
  · obtain ⟨a, x, rfl, _⟩ := h
    rfl
  · obtain ⟨a, x, rfl, hb, hE⟩ := h
    refine ⟨_, ((pss_cons (ps_if (PW.pt (pw_or (pt_not (pt_val (pe_call G_is_whole hr rfl T.g_is_whole T.d_is_whole.kp (b_is_whole T) .nil pass0 (pa_cons (pv 1) pa_nil)))) (pw_or1 (pt_not (pt_chain op_le op_le pe_int (pv 1) (pe_gint rfl T.c_MOST_DIVISOR))))))
      (pss_one (ps_raise rfl (takes_of rfl rfl rfl rfl) (PW.pmk1 (xmk_InvalidNumber hP T) (by decide) (raises_own T.x_InvalidNumber.oex.exC T.x_InvalidNumber.oex.tyC) T.x_InvalidNumber.oex.kC T.g_InvalidNumber hr (pa_cons (pv 1) pa_nil) rfl)))
      pss_nil)
    (pss_one (ps_ret (pe_call G_rest_of hr rfl T.g_rest_of T.d_rest_of.kp (b_rest_of T) .nil pass0 (pa_cons (pv 0) (pa_cons (pv 1) pa_nil))))))), ?_⟩
    show tSeq _ _ _ [some (V.ref a), some x] H
    walk_at "K"
    walk_at "go"
    cases hb with
    | not wh =>
      refine ⟨x, _, _, rfl, wh, ?_⟩
      walk_at "go"
      exact ⟨_, rfl, _, rfl, fun d hd => hE.new hd⟩
    | low i hi =>
      refine ⟨_, _, _, rfl, .int i, ?_⟩
      walk_at "go"
      refine r_if2 (fun e1 => ?_) (fun e1 => ?_)
      · walk_at "go"
        have e2 : ¬ i ≤ 1000 := fun z => hi ⟨of_decide_eq_true e1, z⟩
        rw [decide_eq_false e2]
        walk_at "go"
        exact ⟨_, rfl, _, rfl, fun d hd => hE.new hd⟩
      · walk_at "go"
        exact ⟨_, rfl, _, rfl, fun d hd => hE.new hd⟩
theorem okX_floordiv (hP : IsPG P) (T : Txt K mg) : FnOk P w K mg base (L2.CX P w) 3 (He.ma K (He.ga K "Tower") "__floordiv__") (fdOf K (He.fAd K ("Tower", some "__floordiv__"))) p_Tower___floordiv__ (spDivX K) := by
  have G_is_whole := (ok_is_whole (P := P) (w := w) (base := base) T).mono (show 1 ≤ 2 by decide)
  have G_rest_of : FnOk P w K mg base CX0 (2) (He.ga K "rest_of") (fdOf K (He.ga K "rest_of")) p_rest_of (spNev) := fnOk_nev
  have G_settled : FnOk P w K mg base CX0 (2) (He.ga K "settled") (fdOf K (He.ga K "settled")) p_settled (spNev) := fnOk_nev
  refine FunD.ok T.d_Tower___floordiv__ sc_Tower___floordiv__ (fun vs H Q E h => ?_) (fun cdv A outer s H vs Q E hr h => ?_)
  · obtain ⟨a, x, rfl, _⟩ := h
    rfl
  · obtain ⟨a, x, rfl, hb, hE⟩ := h
    refine ⟨_, ((pss_cons (ps_if (PW.pt (pw_or (pt_not (pt_val (pe_call G_is_whole hr rfl T.g_is_whole T.d_is_whole.kp (b_is_whole T) .nil pass0 (pa_cons (pv 1) pa_nil)))) (pw_or1 (pt_not (pt_chain op_le op_le pe_int (pv 1) (pe_gint rfl T.c_MOST_DIVISOR))))))
      (pss_one (ps_raise rfl (takes_of rfl rfl rfl rfl) (PW.pmk1 (xmk_InvalidNumber hP T) (by decide) (raises_own T.x_InvalidNumber.oex.exC T.x_InvalidNumber.oex.tyC) T.x_InvalidNumber.oex.kC T.g_InvalidNumber hr (pa_cons (pv 1) pa_nil) rfl)))
      pss_nil)
    (pss_cons (ps_set (i := 2) sc_Tower___floordiv__.nd rfl (Or.inl rfl) (pe_call G_rest_of hr rfl T.g_rest_of T.d_rest_of.kp (b_rest_of T) .nil pass0 (pa_cons (pv 0) (pa_cons (pv 1) pa_nil))))
    (pss_one (ps_ret (pe_call G_settled hr rfl T.g_settled T.d_settled.kp (b_settled T) .nil pass0 (pa_cons (pe_callTy call_listN (by rfl) T.f_list (by decide +kernel) (pa_cons (pe_fld (pv 0) rfl) pa_nil)) (pa_cons (pe_op op_sub (pe_fld (pv 0) rfl) (pe_op op_mulX (pv 2) (pe_fld (pv 0) rfl))) (pa_cons (pe_op op_mulX (pe_fld (pv 0) rfl) (pv 1)) pa_nil))))))))), ?_⟩
    show tSeq _ _ _ [some (V.ref a), some x, none] H
    walk_at "K"
    walk_at "go"
    cases hb with
    | not wh =>
      refine ⟨x, _, _, rfl, wh, ?_⟩
      walk_at "go"
      exact ⟨_, rfl, _, rfl, fun d hd => hE.new hd⟩
    | low i hi =>
      refine ⟨_, _, _, rfl, .int i, ?_⟩
      walk_at "go"
      refine r_if2 (fun e1 => ?_) (fun e1 => ?_)
      · walk_at "go"
        have e2 : ¬ i ≤ 1000 := fun z => hi ⟨of_decide_eq_true e1, z⟩
        rw [decide_eq_false e2]
        walk_at "go"
        exact ⟨_, rfl, _, rfl, fun d hd => hE.new hd⟩
      · walk_at "go"
        exact ⟨_, rfl, _, rfl, fun d hd => hE.new hd⟩
end
end PW
/-! ### the draws -/
namespace PW
open PySem PySem.Spec PyProof.Rows L2
/-- all but b stays -/
def ExB (b : Addr) (H H' : Hp) : Prop := ∀ a o, a ≠ b → H a = some o → H' a = some o
theorem ExB.refl {b : Addr} {H : Hp} : ExB b H H := fun _ _ _ h => h
theorem ExB.trans {b : Addr} {H H1 H2 : Hp} (x : ExB b H H1) (y : ExB b H1 H2) : ExB b H H2 := fun a o n h => y a o n (x a o n h)
theorem ExB.upd {b : Addr} {H H1 : Hp} {o : HO} (x : ExB b H H1) : ExB b H (L2.upd H1 b o) := fun a u n h => by
  rw [upd_ne n]
  exact x a u n h
structure BagAt (H : Hp) (b c : Addr) : Prop where
  ex : ∃ (cells : List Int) (i g s : Int), H b = some (.lst [.ref c, .int i, .int g, .int s]) ∧ H c = some (.lst (cells.map V.int)) ∧ 0 ≤ i ∧ 0 ≤ g ∧ 0 ≤ s ∧ s < 2147483549
theorem bag_ne {H : Hp} {b c : Addr} {cells : List Int} {i g s : Int} (h : H b = some (.lst [.ref c, .int i, .int g, .int s])) (h2 : H c = some (.lst (cells.map V.int))) : c ≠ b := by
  intro e
  subst e
  rw [h] at h2
  injection h2 with h2
  injection h2 with h2
  cases cells with
  | nil => cases h2
  | cons z r =>
    rw [List.map_cons] at h2
    injection h2 with h3
    cases h3
theorem BagAt.upd {H : Hp} {b c : Addr} {cells : List Int} {i g s i' g' s' : Int} (h : H b = some (.lst [.ref c, .int i, .int g, .int s])) (h2 : H c = some (.lst (cells.map V.int))) (a1 : 0 ≤ i') (a2 : 0 ≤ g') (a3 : 0 ≤ s') (a4 : s' < 2147483549) :
    BagAt (L2.upd H b (.lst [.ref c, .int i', .int g', .int s'])) b c :=
  ⟨cells, i', g', s', upd_same, by rw [upd_ne (bag_ne h h2)]; exact h2, a1, a2, a3, a4⟩
theorem atI_ints {xs : List Int} {i : Int} (h0 : 0 ≤ i) (h : i < (xs.length : Int)) : ∃ z, atI (xs.map V.int) i = some (.int z) := by
  have hl : i.toNat < xs.length := by omega
  have e : i = (i.toNat : Int) := by omega
  have h2 : atI (xs.map V.int) (i.toNat : Int) = some (.int xs[i.toNat]) := atI_nat (by rw [List.getElem?_map, List.getElem?_eq_getElem hl]; rfl)
  exact ⟨_, by rw [← e] at h2; exact h2⟩
theorem BagAt.objs {H : Hp} {b c : Addr} (h : BagAt H b c) : (∃ o, H b = some o) ∧ (∃ o, H c = some o) ∧ c ≠ b := by
  obtain ⟨cells, i, g, s, h1, h2, _⟩ := h
  exact ⟨⟨_, h1⟩, ⟨_, h2⟩, bag_ne h1 h2⟩
/-- where the two lists of the bag stay -/
theorem BagAt.keep {H H' : Hp} {b c : Addr} (h : BagAt H b c) (e1 : ∀ o, H b = some o → H' b = some o) (e2 : ∀ o, H c = some o → H' c = some o) : BagAt H' b c := by
  obtain ⟨cells, i, g, s, h1, h2, r⟩ := h
  exact ⟨cells, i, g, s, e1 _ h1, e2 _ h2, r⟩
theorem BagAt.put {H : Hp} {b c D : Addr} {o : HO} (h : BagAt H b c) (n1 : b ≠ D) (n2 : c ≠ D) : BagAt (L2.upd H D o) b c := h.keep (fun o e => by rw [upd_ne n1]; exact e) fun o e => by rw [upd_ne n2]; exact e
theorem BagAt.grow {H H' : Hp} {b c : Addr} (h : BagAt H b c) (e : ∀ a o, H a = some o → H' a = some o) : BagAt H' b c := h.keep (fun o q => e _ o q) fun o q => e _ o q
theorem BagAt.ne {H : Hp} {b c D : Addr} (h : BagAt H b c) (hD : H D = none) : b ≠ D ∧ c ≠ D := by
  obtain ⟨⟨o, h1⟩, ⟨o2, h2⟩, _⟩ := h.objs
  exact ⟨ne_of_none h1 hD, ne_of_none h2 hD⟩
theorem BagAt.new {H : Hp} {b c D : Addr} {o : HO} (h : BagAt H b c) (hD : H D = none) : BagAt (L2.upd H D o) b c := h.put (h.ne hD).1 (h.ne hD).2
def spPull : Sp := fun vs H Q _ => ∃ (b c : Addr) (m : Int), vs = [.ref b, .int m] ∧ BagAt H b c ∧ 0 < m ∧ m.natAbs.log2 < 9000 ∧ ∀ r H', 0 ≤ r → r < m → BagAt H' b c → ExB b H H' → Q (.int r) H'
section
variable {P : Program} {w : World} {K : PySem.W.Frag} {mg : Str → Option Value} {base : Heap}
theorem ok__law_pull (T : Txt K mg) : FnOk P w K mg base CX0 1 (He.ga K "_law_pull") (fdOf K (He.ga K "_law_pull")) p__law_pull spPull := by
  refine FunD.ok T.d__law_pull sc__law_pull (fun vs H Q E h => ?_) (fun cdv A outer s H vs Q E hr h => ?_)
  · obtain ⟨b, c, m, rfl, _⟩ := h
    rfl
  · obtain ⟨b, c, m, rfl, ⟨cells, i, g, z, hb, hc, hi, hg, hz, hz2⟩, hm, hm9, hQ⟩ := h
    have hcb := bag_ne hb hc
    refine ⟨_, PSs.nox ((pss_cons (ps_if (PW.pt (pw_and (pt_cmpR op_eq (pe_ix ix_list (pv 0) pe_int (fun _ _ => rfl)) pe_int (nomark _)) (pw_and1 (pt_cmpR op_lt (pe_ix ix_list (pv 0) pe_int (fun _ _ => rfl)) (pe_callB call_lenN (by rfl) T.f_len (by decide +kernel) (pa_cons (pe_ix ix_list (pv 0) pe_int (fun _ _ => rfl)) pa_nil)) (nomark _)))))
      (pss_cons (ps_set (i := 2) sc__law_pull.nd rfl (Or.inl rfl) (pe_ix ix_list (pe_ix ix_list (pv 0) pe_int (fun _ _ => rfl)) (pe_ix ix_list (pv 0) pe_int (fun _ _ => rfl)) (fun _ _ => rfl)))
        (pss_cons (ps_asg (pe_op op_add (pe_ix ix_list (pv 0) pe_int (fun _ _ => rfl)) pe_int) (pg_sub (pv 0) pe_int set_list))
        (pss_one (ps_if (pt_cmpR op_ge (pv 2) (pe_op op_pow pe_int pe_int) (nomark _))
          (pss_one (ps_asg (pv 2) (pg_sub (pv 0) pe_int set_list)))
          (pss_one (ps_asg (pe_op op_mod (pe_callTy call_intN (by rfl) T.f_int (by decide +kernel) (pa_cons (pe_op op_add (pe_op op_add (pe_op op_mulX (pe_ix ix_list (pv 0) pe_int (fun _ _ => rfl)) pe_int) (pe_op op_mulX (pe_op op_mod (pe_callTy call_intN (by rfl) T.f_int (by decide +kernel) (pa_cons (pv 2) pa_nil)) pe_int) pe_int)) pe_int) pa_nil)) pe_int) (pg_sub (pv 0) pe_int set_list)))))))
      pss_nil)
    (pss_cons (ps_if (pt_cmpR op_gt (pe_ix ix_list (pv 0) pe_int (fun _ _ => rfl)) pe_int (nomark _))
      (pss_cons (ps_set (i := 3) sc__law_pull.nd rfl (Or.inl rfl) (pe_op op_mod (pe_callTy call_intN (by rfl) T.f_int (by decide +kernel) (pa_cons (pe_ix ix_list (pv 0) pe_int (fun _ _ => rfl)) pa_nil)) (pv 1)))
        (pss_cons (ps_asg (pe_op op_fdivW (pe_ix ix_list (pv 0) pe_int (fun _ _ => rfl)) (pv 1)) (pg_sub (pv 0) pe_int set_list))
        (pss_one (ps_ret (pv 3)))))
      pss_nil)
    (pss_cons (ps_set (i := 4) sc__law_pull.nd rfl (Or.inl rfl) (pe_ix ix_list (pv 0) pe_int (fun _ _ => rfl)))
    (pss_cons (ps_asg (pe_op op_mod (pe_callTy call_intN (by rfl) T.f_int (by decide +kernel) (pa_cons (pe_op op_add (pe_op op_add (pe_op op_mulX (pv 4) (pv 4)) (pe_op op_mulX (pv 4) pe_int)) pe_int) pa_nil)) pe_int) (pg_sub (pv 0) pe_int set_list))
    (pss_one (ps_ret (pe_op op_mod (pe_callTy call_intN (by rfl) T.f_int (by decide +kernel) (pa_cons (pe_op op_add (pe_op op_fdivW (pe_ix ix_list (pv 0) pe_int (fun _ _ => rfl)) pe_int) (pe_op op_mulX (pe_op op_mod (pe_callTy call_intN (by rfl) T.f_int (by decide +kernel) (pa_cons (pe_ix ix_list (pv 0) pe_int (fun _ _ => rfl)) pa_nil)) pe_int) pe_int)) pa_nil)) (pv 1))))))))), ?_⟩
    show tSeq _ _ _ [some (V.ref b), some (V.int m), none, none, none] H
    walk_at "K"
    refine r_seqP (fun σ' H' => ∃ (x : Option V) (i g z : Int), σ' = [some (V.ref b), some (V.int m), x, none, none] ∧ H' b = some (.lst [.ref c, .int i, .int g, .int z]) ∧ H' c = some (.lst (cells.map V.int)) ∧ 0 ≤ i ∧ 0 ≤ g ∧ 0 ≤ z ∧ z < 2147483549 ∧ ExB b H H') ?_ ?_
    · clear hb hc hi hg hz hz2 i g z
      rintro σ' H' ⟨x, i, g, z, rfl, hb, hc, hi, hg, hz, hz2, hx⟩
      refine r_seqP (fun σ2 H2 => σ2 = [some (V.ref b), some (V.int m), x, none, none] ∧ H2 = H') ?_ ?_
      · rintro σ2 H2 ⟨rfl, rfl⟩
        walk_at "go"
        refine hQ _ _ (Int.emod_nonneg _ (by omega)) (Int.emod_lt_of_pos _ hm) (BagAt.upd hb hc hi hg (Int.emod_nonneg _ (by decide)) (Int.emod_lt_of_pos _ (by decide))) (ExB.upd hx)
      · intro N hN
        walk_at "go"
        refine r_if2 (fun e => ?_) (fun e => ?_)
        · have hg1 : 0 < g := by simpa using e
          walk_at "go"
          refine hQ _ _ (Int.emod_nonneg _ (by omega)) (Int.emod_lt_of_pos _ hm) (BagAt.upd hb hc hi (Int.ediv_nonneg hg (by omega)) hz hz2) (ExB.upd hx)
        · walk_at "go"
          exact hN _ _ ⟨rfl, rfl⟩
    · intro N hN
      walk_at "go"
      refine r_if2 (fun e => ?_) (fun e => ?_)
      · walk_at "go"
        refine r_if2 (fun e2 => ?_) (fun e2 => ?_)
        · have hlt : i < (cells.length : Int) := by simpa using e2
          obtain ⟨y, hy⟩ := atI_ints hi hlt
          walk_at "go"
          refine r_ixL (SqL.of hc) hy ?_
          walk_at "go"
          refine r_if2 (fun e3 => ?_) (fun e3 => ?_)
          · have h1 := of_decide_eq_true e3
            have h2 : (0 : Int) < 10 ^ Int.toNat 18 := by decide
            walk_at "go"
            refine hN _ _ ⟨some (.int y), i + 1, y, z, rfl, upd_same, (upd_ne hcb).trans ((upd_ne hcb).trans hc), by omega, by omega, hz, hz2, ExB.upd (ExB.upd ExB.refl)⟩
          · walk_at "go"
            refine hN _ _ ⟨some (.int y), i + 1, g, _, rfl, upd_same, (upd_ne hcb).trans ((upd_ne hcb).trans hc), by omega, hg, Int.emod_nonneg _ (by decide), Int.emod_lt_of_pos _ (by decide), ExB.upd (ExB.upd ExB.refl)⟩
        · walk_at "go"
          exact hN _ _ ⟨none, i, g, z, rfl, hb, hc, hi, hg, hz, hz2, ExB.refl⟩
      · walk_at "go"
        exact hN _ _ ⟨none, i, g, z, rfl, hb, hc, hi, hg, hz, hz2, ExB.refl⟩
end
end PW
namespace PW
open PySem PySem.Spec PyProof.Rows L2
/-- what is drawn from: a list, a tuple, a text -/
def SeqV (K : PySem.W.Frag) (H : Hp) (b : Addr) (s : V) (xs : List V) : Prop :=
  (∃ p, s = .ref p ∧ p ≠ b ∧ (H p = some (.lst xs) ∨ SqT K H p xs)) ∨ ∃ z : Str, s = .str z ∧ z.length ≤ sizeLine ∧ xs = z.cps.toList.map fun c => .str ⟨#[c]⟩
def spOf (K : PySem.W.Frag) : Sp := fun vs H Q _ => ∃ (b c : Addr) (s : V) (xs : List V), vs = [.ref b, s] ∧ BagAt H b c ∧ SeqV K H b s xs ∧ 0 < xs.length ∧ xs.length ≤ sizeLine ∧ ∀ v H', v ∈ xs → BagAt H' b c → ExB b H H' → Q v H'
theorem ExB.tup {K : PySem.W.Frag} {b p : Addr} {H H' : Hp} {xs : List V} (e : ExB b H H') (n : p ≠ b) (h : SqT K H p xs) : SqT K H' p xs := by
  rcases h with (h | ⟨o, h⟩) | h
  · exact .inl (.inl (e _ _ n h))
  · exact .inl (.inr ⟨o, e _ _ n h⟩)
  · exact .inr h
theorem seqLog {n : Nat} (h : n ≤ sizeLine) : ((n : Nat) : Int).natAbs.log2 < 9000 := by
  have h2 : n ≤ 2 ^ 24 := h
  have h3 : (n : Int).natAbs < 2 ^ 25 := by
    rw [Int.natAbs_natCast]
    exact Nat.lt_of_le_of_lt h2 (by decide)
  exact Nat.lt_trans (PySem.Flt.log2_lt_of (by decide) h3) (by decide)
section
variable {P : Program} {w : World} {K : PySem.W.Frag} {mg : Str → Option Value} {base : Heap}
theorem ok__law_of {k : Nat} (T : Txt K mg) (G__law_pull : FnOk P w K mg base CX0 k (He.ga K "_law_pull") (fdOf K (He.ga K "_law_pull")) p__law_pull spPull) : FnOk P w K mg base CX0 (k + 1) (He.ga K "_law_of") (fdOf K (He.ga K "_law_of")) p__law_of (spOf K) := by
  refine FunD.ok T.d__law_of sc__law_of (fun vs H Q E h => ?_) (fun cdv A outer s H vs Q E hr h => ?_)
  · obtain ⟨b, c, s, xs, rfl, _⟩ := h
    rfl
  · obtain ⟨b, c, q, xs, rfl, hb, hs, h0, hl, hQ⟩ := h
    refine ⟨_, PSs.nox ((pss_one (ps_ret (pe_ix ix_seq (pv 1) (pe_call G__law_pull hr rfl T.g__law_pull T.d__law_pull.kp (b__law_pull T) .nil pass0 (pa_cons (pv 0) (pa_cons (pe_callB call_lenN (by rfl) T.f_len (by decide +kernel) (pa_cons (pv 1) pa_nil)) pa_nil))) (fun _ _ => rfl))))), ?_⟩
    show tRet _ _ [some (V.ref b), some q] H
    walk_at "K"
    have hlen : ∀ R : VK, R (.int (xs.length : Nat)) H → cLen K [q] H R := fun R hR => by
      rcases hs with ⟨p, rfl, hp, hp2 | hp2⟩ | ⟨z, rfl, hz, e⟩
      · exact r_cLenL (SqL.of hp2) hR
      · exact r_cLenT hp2 hR
      · refine r_cLenS hz ?_
        have e2 : xs.length = z.length := by rw [e, List.length_map]; rfl
        rw [← e2]
        exact hR
    walk_at "go"
    refine hlen _ ?_
    walk_at "go"
    refine ⟨b, c, (xs.length : Nat), rfl, hb, by omega, seqLog hl, fun r H' r0 r1 hb' hx => ?_⟩
    rcases hs with ⟨p, rfl, hp, hp2 | hp2⟩ | ⟨z, rfl, hz, e⟩
    · obtain ⟨v, hv, ha⟩ := atI_mem r0 r1
      exact r_ixqL (SqL.of (hx _ _ hp hp2)) ha (hQ v H' hv hb' hx)
    · obtain ⟨v, hv, ha⟩ := atI_mem r0 r1
      exact r_ixqT (ExB.tup hx hp hp2) ha (hQ v H' hv hb' hx)
    · have e2 : xs.length = z.cps.toList.length := by rw [e, List.length_map]
      rw [e2] at r1
      obtain ⟨v, hv, ha⟩ := atI_mem r0 r1
      exact r_ixqS hz ha (hQ _ H' (by rw [e]; exact List.mem_map.mpr ⟨v, hv, rfl⟩) hb' hx)
end
end PW
namespace PW
open PySem PySem.Spec PyProof.Rows L2
theorem cutV_ints (ns : List Int) (lo hi : Option Int) : ∃ cells : List Int, cutV (ns.map V.int) lo hi = cells.map V.int := by
  unfold cutV
  rw [← List.map_drop, ← List.map_take]
  exact ⟨_, rfl⟩
/-- a new bag -/
def spBag (K : PySem.W.Frag) : Sp := fun vs H Q _ => ∃ (a : Addr) (ns : List Int), vs = [.ref a] ∧ SqL K H a (ns.map V.int) ∧ ns.length ≤ 63 ∧ ∀ b c H', H b = none → H c = none → BagAt H' b c → (∀ a o, H a = some o → H' a = some o) → Q (.ref b) H'
section
variable {P : Program} {w : World} {K : PySem.W.Frag} {mg : Str → Option Value} {base : Heap}
theorem ok__law_bag (T : Txt K mg) : FnOk P w K mg base CX0 1 (He.ga K "_law_bag") (fdOf K (He.ga K "_law_bag")) p__law_bag (spBag K) := by
  refine FunD.ok T.d__law_bag sc__law_bag (fun vs H Q E h => ?_) (fun cdv A outer s H vs Q E hr h => ?_)
  · obtain ⟨a, ns, rfl, _⟩ := h
    rfl
  · obtain ⟨a, ns, rfl, ha, hl, hQ⟩ := h
    refine ⟨_, PSs.nox ((pss_one (ps_ret (pe_lst (pa_cons (pe_callTy call_listN (by rfl) T.f_list (by decide +kernel) (pa_cons (pe_slice sl_list (pv 0) po_none (po_some pe_int)) pa_nil)) (pa_cons pe_int (pa_cons pe_int (pa_cons pe_int pa_nil)))))))), ?_⟩
    show tRet _ _ [some (V.ref a)] H
    walk_at "K"
    walk_at "go"
    intro l hl1
    walk_at "go"
    intro c hc
    walk_at "go"
    intro b hb
    have hcl : c ≠ l := Ne.symm (ne_of_none upd_same hc)
    have hb2 : (L2.upd H l (.lst (cutV (ns.map V.int) none (some 63)))) b = none := Same.free (H' := L2.upd (L2.upd H l (.lst (cutV (ns.map V.int) none (some 63)))) c (.lst (cutV (ns.map V.int) none (some 63)))) (fun x o e => by rw [upd_ne (ne_of_none e hc)]; exact e) hb
    have hb3 : H b = none := Same.free (H' := L2.upd H l (.lst (cutV (ns.map V.int) none (some 63)))) (fun x o e => by rw [upd_ne (ne_of_none e hl1)]; exact e) hb2
    have hbc : c ≠ b := ne_of_none upd_same hb
    obtain ⟨cells, e⟩ := cutV_ints ns none (some 63)
    have hc3 : H c = none := Same.free (H' := L2.upd H l (.lst (cutV (ns.map V.int) none (some 63)))) (fun x o e => by rw [upd_ne (ne_of_none e hl1)]; exact e) hc
    refine hQ b c _ hb3 hc3 ⟨cells, 0, 0, 5618, upd_same, (upd_ne hbc).trans ?_, by decide, by decide, by decide, by decide⟩ fun x o ex => ?_
    · rw [e]
      exact upd_same
    · rw [upd_ne (ne_of_none ex hb3), upd_ne (ne_of_none ex hc3), upd_ne (ne_of_none ex hl1)]
      exact ex
end
end PW
namespace PW
open PySem PySem.Spec PyProof.Rows L2
/-- alike to depth n, part by part -/
def Sm (K : PySem.W.Frag) : Nat → Hp → V → V → Prop
  | 0, _, x, y => x = y ∧ flatV x = true
  | n + 1, H, x, y => (x = y ∧ flatV x = true) ∨ ∃ (p q : Addr) (xs ys : List V), x = .ref p ∧ y = .ref q ∧ ((H p = some (.lst xs) ∧ H q = some (.lst ys)) ∨ (H p = some (.tup xs) ∧ H q = some (.tup ys))) ∧
      xs.length = ys.length ∧ xs.length ≤ 100000 ∧ ∀ (i : Nat) u v, xs[i]? = some u → ys[i]? = some v → Sm K n H u v
theorem Sm.mono {K : PySem.W.Frag} : ∀ {n : Nat} {H H' : Hp} {x y : V}, Ex H H' → Sm K n H x y → Sm K n H' x y
  | 0, _, _, _, _, _, h => h
  | n + 1, H, H', x, y, e, h => by
    rcases h with h | ⟨p, q, xs, ys, h1, h2, h3, h4, h5, h6⟩
    · exact .inl h
    · refine .inr ⟨p, q, xs, ys, h1, h2, ?_, h4, h5, fun i u v hu hv => Sm.mono e (h6 i u v hu hv)⟩
      rcases h3 with h3 | h3
      · exact .inl ⟨e _ _ h3.1, e _ _ h3.2⟩
      · exact .inr ⟨e _ _ h3.1, e _ _ h3.2⟩
theorem Sm.flat {K : PySem.W.Frag} {n : Nat} {H : Hp} {x : V} (h : flatV x = true) : Sm K n H x x := by
  cases n with
  | zero => exact ⟨rfl, h⟩
  | succ n => exact .inl ⟨rfl, h⟩
theorem Sm.flats {K : PySem.W.Frag} {n : Nat} {H : Hp} {p q : Addr} {xs : List V} (hp : H p = some (.lst xs)) (hq : H q = some (.lst xs)) (hl : xs.length ≤ 100000) (hf : ∀ v ∈ xs, flatV v = true) : Sm K (n + 1) H (.ref p) (.ref q) :=
  .inr ⟨p, q, xs, xs, rfl, rfl, .inl ⟨hp, hq⟩, rfl, hl, fun i u v hu hv => by
    rw [hu] at hv
    injection hv with hv
    subst hv
    exact Sm.flat (hf u (List.mem_of_getElem? hu))⟩
def spSame (K : PySem.W.Frag) (n : Nat) : Sp := fun vs H Q _ => ∃ x y, vs = [x, y] ∧ Sm K n H x y ∧ ∀ H', Ex H H' → Q (.bl true) H'
theorem op_or {X : Cx} {f : Value → Value → Sem Value} {r1 r2 : R2} (h1 : OpR X f r1) (h2 : OpR X f r2) : OpR X f (fun x y H Q => r1 x y H Q ∨ r2 x y H Q) :=
  fun pins s σ H x y v u Q I rx ry h => h.elim (h1 pins s σ H x y v u Q I rx ry) (h2 pins s σ H x y v u Q I rx ry)
theorem r_isiT2C {K : PySem.W.Frag} {H : Hp} {Q : VK} {x : V} {tp C : Addr} {m1 m2 : String} {b1 b2 : Bool} (ht : H tp = some (.tup [.ty m1, .ty m2])) (h : TyX K H x (.ref C)) (e1 : PySem.W.kitOne K (.ref C) (.type m1) = some b1) (e2 : PySem.W.kitOne K (.ref C) (.type m2) = some b2) (q : Q (.bl (b1 || b2)) H) : rIsiT K [x, .ref tp] H Q := by
  refine ⟨x, tp, [.ty m1, .ty m2], .ref C, [.type m1, .type m2], b1 || b2, rfl, ht, .cons (.ty m1) (.cons (.ty m2) .nil), h, ?_, q⟩
  refine kitAny_cons e1 (fun h1 => ?_) (fun h1 => by rw [h1]; rfl)
  rw [h1, Bool.false_or]
  exact kitAny_cons e2 (fun h2 => by rw [h2]; exact kitAny_nil) fun h2 => h2
/-- two equal numbers of the program -/
def TwEq (K : PySem.W.Frag) (D : Nat) (H : Hp) (x y : V) : Prop := ∃ a b c d S1 S2 v, x = .ref a ∧ y = .ref b ∧ CapOk c ∧ d ≤ D ∧ IsT K c H d S1 a v ∧ IsT K c H d S2 b v ∧ S1.Le LIM ∧ S2.Le LIM
theorem TwEq.ex {K : PySem.W.Frag} {D : Nat} {H H' : Hp} {x y : V} (e : Ex H H') (h : TwEq K D H x y) : TwEq K D H' x y := by
  obtain ⟨a, b, c, d, S1, S2, v, h1, h2, h3, h4, h5, h6, h7⟩ := h
  exact ⟨a, b, c, d, S1, S2, v, h1, h2, h3, h4, h5.ex e, h6.ex e, h7⟩
/-- alike to depth n, part by part; the leaves may be numbers of the program -/
def SmT (K : PySem.W.Frag) (D : Nat) : Nat → Hp → V → V → Prop
  | 0, H, x, y => (x = y ∧ flatV x = true) ∨ TwEq K D H x y
  | n + 1, H, x, y => ((x = y ∧ flatV x = true) ∨ TwEq K D H x y) ∨ ∃ (p q : Addr) (xs ys : List V), x = .ref p ∧ y = .ref q ∧ ((H p = some (.lst xs) ∧ H q = some (.lst ys)) ∨ (H p = some (.tup xs) ∧ H q = some (.tup ys))) ∧
      xs.length = ys.length ∧ xs.length ≤ 100000 ∧ ∀ (i : Nat) u v, xs[i]? = some u → ys[i]? = some v → SmT K D n H u v
theorem SmT.mono {K : PySem.W.Frag} {D : Nat} : ∀ {n : Nat} {H H' : Hp} {x y : V}, Ex H H' → SmT K D n H x y → SmT K D n H' x y
  | 0, _, _, _, _, e, h => h.imp id (TwEq.ex e)
  | n + 1, H, H', x, y, e, h => by
    rcases h with h | ⟨p, q, xs, ys, h1, h2, h3, h4, h5, h6⟩
    · exact .inl (h.imp id (TwEq.ex e))
    · refine .inr ⟨p, q, xs, ys, h1, h2, ?_, h4, h5, fun i u v hu hv => SmT.mono e (h6 i u v hu hv)⟩
      rcases h3 with h3 | h3
      · exact .inl ⟨e _ _ h3.1, e _ _ h3.2⟩
      · exact .inr ⟨e _ _ h3.1, e _ _ h3.2⟩
theorem SmT.leaf {K : PySem.W.Frag} {D n : Nat} {H : Hp} {x y : V} (h : (x = y ∧ flatV x = true) ∨ TwEq K D H x y) : SmT K D n H x y := by
  cases n with
  | zero => exact h
  | succ n => exact .inl h
theorem SmT.flat {K : PySem.W.Frag} {D n : Nat} {H : Hp} {x : V} (h : flatV x = true) : SmT K D n H x x := SmT.leaf (.inl ⟨rfl, h⟩)
theorem SmT.lsts {K : PySem.W.Frag} {D n : Nat} {H : Hp} {p q : Addr} {xs ys : List V} (hp : H p = some (.lst xs)) (hq : H q = some (.lst ys)) (hl : xs.length ≤ 100000) (h : Paired (SmT K D n H) xs ys) : SmT K D (n + 1) H (.ref p) (.ref q) :=
  .inr ⟨p, q, xs, ys, rfl, rfl, .inl ⟨hp, hq⟩, prd_len h, hl, fun i u v hu hv => by
    obtain ⟨y, hy, z⟩ := prd_get h hu
    rw [hv] at hy
    injection hy with hy
    subst hy
    exact z⟩
theorem SmT.tups {K : PySem.W.Frag} {D n : Nat} {H : Hp} {p q : Addr} {xs ys : List V} (hp : H p = some (.tup xs)) (hq : H q = some (.tup ys)) (hl : xs.length ≤ 100000) (h : Paired (SmT K D n H) xs ys) : SmT K D (n + 1) H (.ref p) (.ref q) :=
  .inr ⟨p, q, xs, ys, rfl, rfl, .inr ⟨hp, hq⟩, prd_len h, hl, fun i u v hu hv => by
    obtain ⟨y, hy, z⟩ := prd_get h hu
    rw [hv] at hy
    injection hy with hy
    subst hy
    exact z⟩
theorem prd_flats {K : PySem.W.Frag} {D n : Nat} {H : Hp} : ∀ {xs : List V}, (∀ v ∈ xs, flatV v = true) → Paired (SmT K D n H) xs xs
  | [], _ => .nil
  | x :: r, h => .cons (SmT.flat (h x List.mem_cons_self)) (prd_flats fun v hv => h v (List.mem_cons_of_mem _ hv))
theorem Sm.toT {K : PySem.W.Frag} {D : Nat} : ∀ {n : Nat} {H : Hp} {x y : V}, Sm K n H x y → SmT K D n H x y
  | 0, _, _, _, h => .inl h
  | n + 1, H, x, y, h => by
    rcases h with h | ⟨p, q, xs, ys, h1, h2, h3, h4, h5, h6⟩
    · exact .inl (.inl h)
    · exact .inr ⟨p, q, xs, ys, h1, h2, h3, h4, h5, fun i u v hu hv => Sm.toT (h6 i u v hu hv)⟩
theorem fnOk_weak {P : Program} {w : World} {K : PySem.W.Frag} {mg : Str → Option Value} {base : Heap} {CX : CXT} {k : Nat} {f : Addr} {fd : FuncData} {ps : List Str} {sp sp' : Sp} (h : ∀ vs H Q E, sp' vs H Q E → sp vs H Q E) (F : FnOk P w K mg base CX k f fd ps sp) : FnOk P w K mg base CX k f fd ps sp' :=
  ⟨fun vs H Q E z => F.len vs H Q E (h vs H Q E z), fun A outer s H args us vs Q E hr he hb hv z => F.run A outer s H args us vs Q E hr he hb hv (h vs H Q E z)⟩
def spSameT (K : PySem.W.Frag) (D n : Nat) : Sp := fun vs H Q _ => ∃ x y, vs = [x, y] ∧ SmT K D n H x y ∧ ∀ H', Ex H H' → Q (.bl true) H'
section
variable {P : Program} {w : World} {K : PySem.W.Frag} {mg : Str → Option Value} {base : Heap}
def spNo : Sp := fun _ _ _ _ => False
theorem fnOk_no {CX : CXT} {k : Nat} {f : Addr} {fd : FuncData} {ps : List Str} : FnOk P w K mg base CX k f fd ps spNo := ⟨fun _ _ _ _ h => h.elim, fun _ _ _ _ _ _ _ _ _ _ _ _ _ h => h.elim⟩
theorem ok1__law_same {k n D : Nat} {spj : Sp} (T : Txt K mg) (G_Tower___eq__ : FnOk P w K mg base CX0 k (He.ma K (He.ga K "Tower") "__eq__") (fdOf K (He.fAd K ("Tower", some "__eq__"))) p_Tower___eq__ (anyC D (spEq K))) (hj : n = 0 ∨ ∃ j, n = j + 1 ∧ spj = spSameT K D j) (G__law_same : FnOk P w K mg base CX0 k (He.ga K "_law_same") (fdOf K (He.ga K "_law_same")) p__law_same spj) :
    FnOk P w K mg base CX0 (k + 1) (He.ga K "_law_same") (fdOf K (He.ga K "_law_same")) p__law_same (spSameT K D n) := by
  refine FunD.ok T.d__law_same sc__law_same (fun vs H Q E h => ?_) (fun cdv A outer s H vs Q E hr h => ?_)
  · obtain ⟨x, y, rfl, _⟩ := h
    rfl
  · obtain ⟨x, y, rfl, hs, hQ⟩ := h
    refine ⟨_, PSs.nox ((pss_cons (ps_if (pt_val (pe_callB call_isiT (by rfl) T.f_isinstance (by decide +kernel) (pa_cons (pv 1) (pa_cons (pe_tup (pa_cons (pe_bltn (v := .ty "list") (u := .type "list") (by rfl) T.f_list (by decide +kernel) rfl) (pa_cons (pe_bltn (v := .ty "tuple") (u := .type "tuple") (by rfl) T.f_tuple (by decide +kernel) rfl) pa_nil))) pa_nil))))
      (pss_cons (ps_if (PW.pt (pw_or (pt_cmpR op_ne (pe_callB call_isi (by rfl) T.f_isinstance (by decide +kernel) (pa_cons (pv 0) (pa_cons (pe_bltn (v := .ty "list") (u := .type "list") (by rfl) T.f_list (by decide +kernel) rfl) pa_nil))) (pe_callB call_isi (by rfl) T.f_isinstance (by decide +kernel) (pa_cons (pv 1) (pa_cons (pe_bltn (v := .ty "list") (u := .type "list") (by rfl) T.f_list (by decide +kernel) rfl) pa_nil))) (nomark _)) (pw_or1 (pt_cmpR op_ne (pe_callB call_isi (by rfl) T.f_isinstance (by decide +kernel) (pa_cons (pv 0) (pa_cons (pe_bltn (v := .ty "tuple") (u := .type "tuple") (by rfl) T.f_tuple (by decide +kernel) rfl) pa_nil))) (pe_callB call_isi (by rfl) T.f_isinstance (by decide +kernel) (pa_cons (pv 1) (pa_cons (pe_bltn (v := .ty "tuple") (u := .type "tuple") (by rfl) T.f_tuple (by decide +kernel) rfl) pa_nil))) (nomark _)))))
          (pss_one (ps_ret pe_bl))
          pss_nil)
        (pss_one (ps_ret (pe_and (pe_cmpR op_eq (pe_callB call_lenN (by rfl) T.f_len (by decide +kernel) (pa_cons (pv 0) pa_nil)) (pe_callB call_lenN (by rfl) T.f_len (by decide +kernel) (pa_cons (pv 1) pa_nil)) (nomark _)) (pe_one (pe_callB (cr_all rfl) (by rfl) T.f_all (by decide +kernel) (pa_cons (pe_lc (own := [("_law_one_z", 2), ("_law_other_z", 3)]) (g := (gTup K 2 (gCons (gName 2) (gCons (gName 3) gNil)))) rfl sc__law_same.nd (RZ.pi_zipA (by rfl) T.f_zip (pa_cons (pv 0) (pa_cons (pv 1) pa_nil))) (blkOk_by (own := [("_law_one_z", 2), ("_law_other_z", 3)]) (N := n__law_same) (sc := defScope s__law_same) (by decide +kernel)) (fun _ _ _ _ _ => by (refine' PW.pg_tupX (K := K) ?a1 ?b1 ?c1 ?d1 ?h1; (case a1 => rfl); (case b1 => rfl); (case c1 => rfl); (case d1 => rfl); refine' PW.pgs_consX ?a2 ?b2 ?h2; (case a2 => rfl); (case b2 => (refine PW.pg_nameX 2 ?_ ?_ ?_ ?_; exact sc__law_same.nd; rfl; (first | exact Or.inl rfl | exact Or.inr rfl); (first | exact Or.inl rfl | exact Or.inr rfl))); refine' PW.pgs_consX ?a3 ?b3 ?h3; (case a3 => rfl); (case b3 => (refine PW.pg_nameX 3 ?_ ?_ ?_ ?_; exact sc__law_same.nd; rfl; (first | exact Or.inl rfl | exact Or.inr rfl); (first | exact Or.inl rfl | exact Or.inr rfl))); exact pgs_nil)) (fun _ _ _ _ _ => pts_nil) (fun _ _ _ _ _ => (pe_call G__law_same hr rfl T.g__law_same T.d__law_same.kp (b__law_same T) .nil pass0 (pa_cons (pv 2) (pa_cons (pv 3) pa_nil))))) pa_nil)))))))
      pss_nil)
    (pss_cons (ps_if (PW.pt (pw_or (pt_cmp (pc_isN (pv 1)) rfl) (pw_or1 (pt_cmp (pc_isN (pv 0)) rfl))))
      (pss_one (ps_ret (pe_and (pe_cmp (pc_isN (pv 1)) rfl) (pe_one (pe_cmp (pc_isN (pv 0)) rfl)))))
      pss_nil)
    (pss_cons (ps_if (PW.pt (pw_or (pt_cmpR op_ne (pe_callB call_isi (by rfl) T.f_isinstance (by decide +kernel) (pa_cons (pv 0) (pa_cons (pe_bltn (v := .ty "bool") (u := .type "bool") (by rfl) T.f_bool (by decide +kernel) rfl) pa_nil))) (pe_callB call_isi (by rfl) T.f_isinstance (by decide +kernel) (pa_cons (pv 1) (pa_cons (pe_bltn (v := .ty "bool") (u := .type "bool") (by rfl) T.f_bool (by decide +kernel) rfl) pa_nil))) (nomark _)) (pw_or1 (pt_cmpR op_ne (pe_callB call_isi (by rfl) T.f_isinstance (by decide +kernel) (pa_cons (pv 0) (pa_cons (pe_bltn (v := .ty "int") (u := .type "int") (by rfl) T.f_int (by decide +kernel) rfl) pa_nil))) (pe_callB call_isi (by rfl) T.f_isinstance (by decide +kernel) (pa_cons (pv 1) (pa_cons (pe_bltn (v := .ty "int") (u := .type "int") (by rfl) T.f_int (by decide +kernel) rfl) pa_nil))) (nomark _)))))
      (pss_one (ps_ret pe_bl))
      pss_nil)
    (pss_one (ps_ret (pe_and (pe_cmpR op_eq (pe_callB call_isi (by rfl) T.f_isinstance (by decide +kernel) (pa_cons (pv 0) (pa_cons (pe_bltn (v := .ty "str") (u := .type "str") (by rfl) T.f_str (by decide +kernel) rfl) pa_nil))) (pe_callB call_isi (by rfl) T.f_isinstance (by decide +kernel) (pa_cons (pv 1) (pa_cons (pe_bltn (v := .ty "str") (u := .type "str") (by rfl) T.f_str (by decide +kernel) rfl) pa_nil))) (nomark _)) (pe_one (pe_cmpR (PW.op_or op_eq (PW.cmp_ownB (fun _ _ => rfl) T.m_Tower___eq__.at_ T.m_Tower___eq__.fn G_Tower___eq__ hr (b_Tower___eq__ T) pass0)) (pv 0) (pv 1) (nomark _)))))))))), ?_⟩
    show tSeq _ _ _ [some x, some y, none, none] H
    walk_at "K"
    by_cases hf : x = y ∧ flatV x = true
    · obtain ⟨rfl, hf⟩ := hf
      cases x with
      | non =>
        walk_at "go"
        intro p hp
        walk_at "go"
        exact hQ _ (Ex.new hp)
      | bl b =>
        walk_at "go"
        intro p hp
        walk_at "go"
        refine Or.inl ?_
        walk_at "go"
        exact hQ _ (Ex.new hp)
      | int i =>
        walk_at "go"
        intro p hp
        walk_at "go"
        refine Or.inl ?_
        walk_at "go"
        exact hQ _ (Ex.new hp)
      | str z =>
        walk_at "go"
        intro p hp
        walk_at "go"
        refine Or.inl ?_
        walk_at "go"
        exact hQ _ (Ex.new hp)
      | _ => cases hf
    · by_cases ht : TwEq K D H x y
      · obtain ⟨a, b, c, d, S1, S2, v, rfl, rfl, hc, hd, ha, hb, hS1, hS2⟩ := ht
        obtain ⟨dx, fl, fp, fs, hi⟩ := ha.ins'
        obtain ⟨dx2, fl2, fp2, fs2, hi2⟩ := hb.ins'
        have k1 : PySem.W.kitOne K (.ref (TwC K)) (.type "list") = some false := T.it_Tower.r "list" (by decide)
        have k2 : PySem.W.kitOne K (.ref (TwC K)) (.type "tuple") = some false := T.it_Tower.r "tuple" (by decide)
        have k3 : PySem.W.kitOne K (.ref (TwC K)) (.type "bool") = some false := T.it_Tower.r "bool" (by decide)
        have k4 : PySem.W.kitOne K (.ref (TwC K)) (.type "int") = some false := T.it_Tower.r "int" (by decide)
        have k5 : PySem.W.kitOne K (.ref (TwC K)) (.type "str") = some false := T.it_Tower.r "str" (by decide)
        walk_at "go"
        intro p hp
        have x1 := Ex.new (o := .tup [V.ty "list", V.ty "tuple"]) hp
        have ty1 := ty_ins T.i_Tower (x1 _ _ hi)
        have ty2 := ty_ins T.i_Tower (x1 _ _ hi2)
        walk_at "go"
        refine r_isiT2C upd_same ty2 k1 k2 ?_
        walk_at "go"
        refine Or.inr ?_
        refine rOwn_num rfl (ha.ex x1) (.inl ⟨b, rfl, hb.ex x1⟩) ?_
        refine ⟨c, d, hc, hd, a, .ref b, S1, v, rfl, ha.ex x1, hS1, .inl ⟨S2, v, .inl ⟨b, rfl, hb.ex x1⟩, hS2, fun H2 x2 => ?_⟩⟩
        rw [decide_eq_true (rfl : v = v)]
        exact hQ _ (x1.trans x2)
      · cases n with
        | zero => exact hs.elim (fun z => absurd z hf) (fun z => absurd z ht)
        | succ n =>
          rcases hs with (hs | hs) | ⟨p, q, xs, ys, rfl, rfl, hpq, hl, hl2, hit⟩
          · exact absurd hs hf
          · exact absurd hs ht
          · have j0 : ∃ j, n + 1 = j + 1 ∧ spj = spSameT K D j := hj.elim (fun z => nomatch z) id
            obtain ⟨j, ej, rfl⟩ := j0
            have ej2 : j = n := by omega
            subst ej2
            have comp : ∀ (J : It) (G : Hp → Prop) (H1 : Hp) (L : Addr) (Qd : Hp → Prop), Walk J xs.length G (YPair (fun i => xs[i]?) (fun i => ys[i]?)) → Ex H H1 → (∀ H', Ex H1 H' → G H') → H1 L = none → (∀ H' bs, Ex H H' → H' L = some (.lst ((List.replicate bs true).map V.bl)) → Qd H') →
                LcW J (gTup K 2 (gCons (gName 2) (gCons (gName 3) gNil))) tYes (tCall (spSameT K D j) [] E0 (tCons (tVar 2) (tCons (tVar 3) tNil))) [2, 3] [some (.ref p), some (.ref q), none, none] H1 L Qd := by
              intro J G H1 L Qd w x1 hG hD hR
              refine lc_grow w (σw := [some (.ref p), some (.ref q), none, none]) rfl (fun _ _ v => v = .bl true) hD hl2 hG (fun _ _ _ _ _ e => e) ?_ ?_
              · rintro i x H2 H3 acc R2 hi x2 ha ⟨T2, u, v, rfl, hT2, rfl, hu, hv⟩ hR2
                walk_at "go"
                refine ⟨rfl, ?_⟩
                walk_at "go"
                exact ⟨u, v, rfl, SmT.mono ((x1.trans x2).trans (Ex.new hT2)) (hit i u v hu hv), fun H4 x4 => hR2 _ _ rfl ((Ex.new hT2).trans x4)⟩
              · intro H2 acc x2 ha hlen hb
                refine hR H2 acc.length (x1.trans x2) ?_
                rw [ha, ← all_true (fun i v e => hb i v e)]
            rcases hpq with ⟨hp1, hq1⟩ | ⟨hp1, hq1⟩
            · walk_at "go"
              intro t ht
              have e1 := (Ex.new (o := .tup [V.ty "list", V.ty "tuple"]) ht) _ _ hp1
              have e2 := (Ex.new (o := .tup [V.ty "list", V.ty "tuple"]) ht) _ _ hq1
              walk_at "go"
              refine r_ifT' (decide_eq_true (by rw [hl])) ?_
              walk_at "go"
              refine ⟨p, q, xs, ys, rfl, Or.inl ⟨SqL.of e1, SqL.of e2, fun D hD => ?_⟩⟩
              refine comp _ _ _ D _ (walk_zip (by rw [← hl, Nat.min_self])) (Ex.new ht) (fun H' x => ⟨SqL.of (x _ _ e1), SqL.of (x _ _ e2)⟩) hD fun H' bs x hb => ?_
              walk_at "go"
              refine r_all (SqL.of hb) ?_
              rw [replicate_all]
              exact hQ _ x
            · walk_at "go"
              intro t ht
              have e1 := (Ex.new (o := .tup [V.ty "list", V.ty "tuple"]) ht) _ _ hp1
              have e2 := (Ex.new (o := .tup [V.ty "list", V.ty "tuple"]) ht) _ _ hq1
              walk_at "go"
              refine r_ifT' (decide_eq_true (by rw [hl])) ?_
              walk_at "go"
              refine ⟨p, q, xs, ys, rfl, Or.inr ⟨SqT.of e1, SqT.of e2, fun D hD => ?_⟩⟩
              refine comp _ _ _ D _ (walk_zipT (by rw [← hl, Nat.min_self])) (Ex.new ht) (fun H' x => ⟨SqT.of (x _ _ e1), SqT.of (x _ _ e2)⟩) hD fun H' bs x hb => ?_
              walk_at "go"
              refine r_all (SqL.of hb) ?_
              rw [replicate_all]
              exact hQ _ x
theorem ok__law_same {k D : Nat} (T : Txt K mg) (G_Tower___eq__ : FnOk P w K mg base CX0 k (He.ma K (He.ga K "Tower") "__eq__") (fdOf K (He.fAd K ("Tower", some "__eq__"))) p_Tower___eq__ (anyC D (spEq K))) : ∀ n : Nat, FnOk P w K mg base CX0 (k + n + 1) (He.ga K "_law_same") (fdOf K (He.ga K "_law_same")) p__law_same (spSameT K D n)
  | 0 => ok1__law_same T G_Tower___eq__ (.inl rfl) (fnOk_no (k := k))
  | n + 1 => ok1__law_same T (G_Tower___eq__.mono (by omega)) (.inr ⟨n, rfl, rfl⟩) (ok__law_same T G_Tower___eq__ n)
theorem sameT_flat {k n D : Nat} (F : FnOk P w K mg base CX0 (k) (He.ga K "_law_same") (fdOf K (He.ga K "_law_same")) p__law_same (spSameT K D n)) : FnOk P w K mg base CX0 (k) (He.ga K "_law_same") (fdOf K (He.ga K "_law_same")) p__law_same (spSame K n) := fnOk_weak (fun vs H Q E h => by
  obtain ⟨x, y, e, h, q⟩ := h
  exact ⟨x, y, e, Sm.toT h, q⟩) F
end
end PW
/-! ### the law's own numbers: two, size, sign, whole, is -/
namespace PW
open PySem PySem.Spec PyProof.Rows L2
def spTwo : Sp := fun vs H Q _ => ∃ t : Int, vs = [.int t] ∧ t ≤ 1000 ∧ Q (.int (pw2 t)) H
def spLSize : Sp := fun vs H Q _ => ∃ v : Int, vs = [.int v] ∧ Q (.int (lgv v)) H
def spLSign : Sp := fun vs H Q _ => ∃ v : Int, vs = [.int v] ∧ Q (.int (sgn v)) H
def spLWhole : Sp := fun vs H Q _ => ∃ (b c : Addr), vs = [.ref b] ∧ BagAt H b c ∧ ∀ (z : Int) H', z.natAbs < 2 ^ 910 → BagAt H' b c → ExB b H H' → Q (.int z) H'
def spLIs (K : PySem.W.Frag) (cap : Sz) (d : Nat) : Sp := fun vs H Q _ => ∃ a S v, vs = [.ref a, .int v] ∧ IsT K cap H d S a v ∧ S.Le LIM ∧ v.natAbs < 2 ^ 100000 ∧ ∀ H', Ex H H' → Q (.bl true) H'
theorem ExB.hides {b : Addr} {H H' : Hp} (x : ExB b H H') : Ex (PW.hide H b) (PW.hide H' b) := fun a o h => by
  have na : a ≠ b := fun z => by
    rw [z, hide_same] at h
    cases h
  rw [hide_ne na] at h ⊢
  exact x a o na h
theorem Ex.toB {b : Addr} {H H' : Hp} (x : Ex H H') : ExB b H H' := fun a o _ h => x a o h
theorem mem5 {v : V} (h : v ∈ [V.int 1, .int 1, .int 3, .int (0 - 1), .int (0 - 5)]) : ∃ i : Int, v = .int i ∧ i.natAbs ≤ 5 := by
  simp only [List.mem_cons, List.not_mem_nil, or_false] at h
  rcases h with rfl | rfl | rfl | rfl | rfl
  all_goals exact ⟨_, rfl, by decide⟩
theorem mem4 {v : V} {r : Int} (h0 : 0 ≤ r) (h1 : r < 10 ^ Int.toNat 6) (h : v ∈ [V.int 0, .int 1, .int (0 - 1), .int r]) : ∃ i : Int, v = .int i ∧ i.natAbs ≤ 1000000 := by
  have e : (10 : Int) ^ Int.toNat 6 = 1000000 := by decide
  rw [e] at h1
  simp only [List.mem_cons, List.not_mem_nil, or_false] at h
  rcases h with rfl | rfl | rfl | rfl
  · exact ⟨_, rfl, by decide⟩
  · exact ⟨_, rfl, by decide⟩
  · exact ⟨_, rfl, by decide⟩
  · exact ⟨_, rfl, by omega⟩
theorem pw2_nat (n : Nat) : pw2 ((n : Nat) : Int) = 2 ^ n := by
  unfold pw2
  rw [if_neg (by omega), Int.toNat_natCast]
theorem mods_mem {x : V} {i : Nat} (h : [V.int 1000, .int 997, .int 991, .int 983, .int 977, .int 971, .int 729][i]? = some x) : ∃ m : Nat, x = .int (m : Nat) ∧ 1 ≤ m ∧ m ≤ 1000 := by
  have hm := List.mem_of_getElem? h
  simp only [List.mem_cons, List.not_mem_nil, or_false] at hm
  rcases hm with rfl | rfl | rfl | rfl | rfl | rfl | rfl
  · exact ⟨1000, rfl, by decide, by decide⟩
  · exact ⟨997, rfl, by decide, by decide⟩
  · exact ⟨991, rfl, by decide, by decide⟩
  · exact ⟨983, rfl, by decide, by decide⟩
  · exact ⟨977, rfl, by decide, by decide⟩
  · exact ⟨971, rfl, by decide, by decide⟩
  · exact ⟨729, rfl, by decide, by decide⟩
end PW
namespace PW
open PySem PySem.Spec PyProof.Rows L2
section
variable {P : Program} {w : World} {K : PySem.W.Frag} {mg : Str → Option Value} {base : Heap}
theorem ok__law_two (T : Txt K mg) : FnOk P w K mg base CX0 (1) (He.ga K "_law_two") (fdOf K (He.ga K "_law_two")) p__law_two (spTwo) := by
  refine FunD.ok T.d__law_two sc__law_two (fun vs H Q E h => ?_) (fun cdv A outer s H vs Q E hr h => ?_)
  · obtain ⟨t, rfl, _⟩ := h
    rfl
  · obtain ⟨t, rfl, ht, q⟩ := h
    refine ⟨_, PSs.nox ((pss_cons (ps_if (pt_cmpR op_lt (pv 0) pe_int (nomark _))
      (pss_one (ps_ret pe_int))
      pss_nil)
    (pss_cons (ps_set (i := 1) sc__law_two.nd rfl (Or.inl rfl) pe_int)
    (pss_cons (ps_for PassesOwn.never rfl (pi_range1 rfl T.f_range (pa_cons (pe_op op_fdivW (pv 0) pe_int) pa_nil)) (pg_name (i := 2) sc__law_two.nd rfl (Or.inl rfl) (hf := by first | exact Or.inl rfl | exact Or.inr rfl))
      (pss_one (ps_set (i := 1) sc__law_two.nd rfl (Or.inl rfl) (pe_op op_mulX (pv 1) (pe_op op_pow pe_int pe_int)))))
    (pss_cons (ps_for PassesOwn.never rfl (pi_range1 rfl T.f_range (pa_cons (pe_op op_mod (pe_callTy call_intN (by rfl) T.f_int (by decide +kernel) (pa_cons (pv 0) pa_nil)) pe_int) pa_nil)) (pg_name (i := 2) sc__law_two.nd rfl (Or.inl rfl) (hf := by first | exact Or.inl rfl | exact Or.inr rfl))
      (pss_one (ps_set (i := 1) sc__law_two.nd rfl (Or.inl rfl) (pe_op op_mulX (pv 1) pe_int))))
    (pss_one (ps_ret (pv 1)))))))), ?_⟩
    show tSeq _ _ _ [some (V.int t), none, none] H
    walk_at "K"
    walk_at "go"
    refine r_if2 (fun e => ?_) (fun e => ?_)
    · have h0 := of_decide_eq_true e
      walk_at "go"
      have : pw2 t = 0 := by
        unfold pw2
        rw [if_pos h0]
      rw [this] at q
      exact q
    · have h0 : ¬ t < 0 := of_decide_eq_false e
      obtain ⟨n, rfl⟩ : ∃ n : Nat, t = n := ⟨t.toNat, by omega⟩
      rw [pw2_nat] at q
      walk_at "go"
      have hn : n ≤ 1000 := by omega
      refine r_forP (fun σ' H' => H' = H ∧ ∃ k, σ' = [some (V.int (n : Nat)), some (V.int (2 ^ (60 * (n / 60)))), k]) ?_ ?_
      · rintro σ' H' ⟨rfl, k, rfl⟩
        walk_at "go"
        have en : (((n : Nat) : Int) % 60).toNat = n % 60 := by omega
        refine for_it walk_range (fun i σ H2 => H2 = H' ∧ ∃ k, σ = [some (V.int (n : Nat)), some (V.int (2 ^ (60 * (n / 60) + i))), k]) ⟨rfl, k, rfl⟩ (fun _ _ _ _ _ => trivial) ?_ ?_
        · rintro i x σ H1 H1' hi ⟨rfl, k, rfl⟩ ⟨rfl, rfl⟩
          have cm : CMulX (2 ^ (60 * (n / 60) + i)) 2 := mulx_ok (a := 60 * (n / 60) + i + 1) (b := 2) (by rw [two_nat]; exact Nat.pow_lt_pow_right (by decide) (by omega)) (by decide) (by omega)
          walk_at "go"
          refine ⟨rfl, some (.int (0 + (i : Nat))), ?_⟩
          rw [← Int.pow_succ]
          rfl
        · rintro σ H' ⟨rfl, k, rfl⟩
          walk_at "go"
          have e : 60 * (n / 60) + (((n : Nat) : Int) % 60).toNat = n := by omega
          rw [e]
          exact q
      · intro N hN
        have en : (((n : Nat) : Int) / 60).toNat = n / 60 := by omega
        refine for_it walk_range (fun i σ H' => H' = H ∧ ∃ k, σ = [some (V.int (n : Nat)), some (V.int (2 ^ (60 * i))), k]) ⟨rfl, none, rfl⟩ (fun _ _ _ _ _ => trivial) ?_ ?_
        · rintro i x σ H1 H1' hi ⟨rfl, k, rfl⟩ ⟨rfl, rfl⟩
          have e60 : (2 : Int) ^ Int.toNat 60 = 2 ^ 60 := rfl
          have cm : CMulX (2 ^ (60 * i)) (2 ^ Int.toNat 60) := by
            rw [e60]
            exact mulx_ok (a := 60 * i + 1) (b := 61) (by rw [two_nat]; exact Nat.pow_lt_pow_right (by decide) (by omega)) (by rw [two_nat]; exact Nat.pow_lt_pow_right (by decide) (by omega)) (by omega)
          walk_at "go"
          refine ⟨rfl, some (.int (0 + (i : Nat))), ?_⟩
          rw [e60, ← Int.pow_add]
          rfl
        · rintro σ H' ⟨rfl, k, rfl⟩
          rw [en]
          exact hN _ _ ⟨rfl, k, rfl⟩
end
end PW
namespace PW
open PySem PySem.Spec PyProof.Rows L2
section
variable {P : Program} {w : World} {K : PySem.W.Frag} {mg : Str → Option Value} {base : Heap}
theorem ok__law_size (T : Txt K mg) : FnOk P w K mg base CX0 (1) (He.ga K "_law_size") (fdOf K (He.ga K "_law_size")) p__law_size (spLSize) := by
  refine FunD.ok T.d__law_size sc__law_size (fun vs H Q E h => ?_) (fun cdv A outer s H vs Q E hr h => ?_)
  · obtain ⟨t, rfl, _⟩ := h
    rfl
  · obtain ⟨v, rfl, q⟩ := h
    refine ⟨_, PSs.nox ((pss_one (ps_ret (pe_ifExp (pt_cmpR op_gt (pv 0) pe_int (nomark _)) (pe_callB (call_maxN rfl) (by rfl) T.f_max (by decide +kernel) (pa_cons pe_int (pa_cons (pe_op op_sub (pe_bits (pe_callTy call_intN (by rfl) T.f_int (by decide +kernel) (pa_cons (pv 0) pa_nil))) pe_int) pa_nil))) pe_int)))), ?_⟩
    show tRet _ _ [some (V.int v)] H
    walk_at "K"
    walk_at "go"
    unfold lgv at q
    refine r_if2 (fun e => ?_) (fun e => ?_)
    · have h0 : 0 < v := of_decide_eq_true e
      rw [if_neg (by omega)] at q
      walk_at "go"
      have h1 := bt_pos (i := v) (by omega)
      have e2 : (if ((Builtin.Int.intBits v : Nat) : Int) - 1 > 0 then ((Builtin.Int.intBits v : Nat) : Int) - 1 else 0) = ((bt v : Nat) : Int) - 1 := by
        show (if ((bt v : Nat) : Int) - 1 > 0 then ((bt v : Nat) : Int) - 1 else 0) = _
        split <;> omega
      rw [e2]
      exact q
    · have h0 : ¬ 0 < v := of_decide_eq_false e
      rw [if_pos (by omega)] at q
      walk_at "go"
      exact q
end
end PW
namespace PW
open PySem PySem.Spec PyProof.Rows L2
section
variable {P : Program} {w : World} {K : PySem.W.Frag} {mg : Str → Option Value} {base : Heap}
theorem ok__law_sign (T : Txt K mg) : FnOk P w K mg base CX0 (1) (He.ga K "_law_sign") (fdOf K (He.ga K "_law_sign")) p__law_sign (spLSign) := by
  refine FunD.ok T.d__law_sign sc__law_sign (fun vs H Q E h => ?_) (fun cdv A outer s H vs Q E hr h => ?_)
  · obtain ⟨t, rfl, _⟩ := h
    rfl
  · obtain ⟨v, rfl, q⟩ := h
    refine ⟨_, PSs.nox ((pss_one (ps_ret (pe_ifExp (pt_cmpR op_gt (pv 0) pe_int (nomark _)) pe_int (pe_op op_sub pe_int (pe_callTy call_intN (by rfl) T.f_int (by decide +kernel) (pa_cons (pe_cmpR op_lt (pv 0) pe_int (nomark _)) pa_nil))))))), ?_⟩
    show tRet _ _ [some (V.int v)] H
    walk_at "K"
    walk_at "go"
    unfold sgn at q
    refine r_if2 (fun e => ?_) (fun e => ?_)
    · have h0 : 0 < v := of_decide_eq_true e
      rw [if_pos h0] at q
      walk_at "go"
      exact q
    · have h0 : ¬ 0 < v := of_decide_eq_false e
      rw [if_neg h0] at q
      walk_at "go"
      refine .inr ⟨_, rfl, ?_⟩
      walk_at "go"
      by_cases h1 : v < 0
      · rw [if_pos h1] at q
        rw [decide_eq_true h1]
        exact q
      · rw [if_neg h1] at q
        rw [decide_eq_false h1]
        exact q
end
end PW
namespace PW
open PySem PySem.Spec PyProof.Rows L2
section
variable {P : Program} {w : World} {K : PySem.W.Frag} {mg : Str → Option Value} {base : Heap}
theorem ok__law_whole {k : Nat} (T : Txt K mg)
    (G__law_pull : FnOk P w K mg base CX0 k (He.ga K "_law_pull") (fdOf K (He.ga K "_law_pull")) p__law_pull (spPull))
    (G__law_of : FnOk P w K mg base CX0 k (He.ga K "_law_of") (fdOf K (He.ga K "_law_of")) p__law_of (spOf K))
    (G__law_two : FnOk P w K mg base CX0 k (He.ga K "_law_two") (fdOf K (He.ga K "_law_two")) p__law_two (spTwo)) : FnOk P w K mg base CX0 (k + 1) (He.ga K "_law_whole") (fdOf K (He.ga K "_law_whole")) p__law_whole (spLWhole) := by
  refine FunD.ok T.d__law_whole sc__law_whole (fun vs H Q E h => ?_) (fun cdv A outer s H vs Q E hr h => ?_)
  · obtain ⟨b, c, rfl, _⟩ := h
    rfl
  · obtain ⟨b, c, rfl, hB, q⟩ := h
    have p910 : (2 : Nat) ^ 64 ≤ 2 ^ 910 := Nat.pow_le_pow_right (by decide) (by decide)
    refine ⟨_, PSs.nox ((pss_cons (ps_set (i := 1) sc__law_whole.nd rfl (Or.inl rfl) (pe_call G__law_pull hr rfl T.g__law_pull T.d__law_pull.kp (b__law_pull T) .nil pass0 (pa_cons (pv 0) (pa_cons pe_int pa_nil))))
    (pss_cons (ps_if (pt_cmpR op_lt (pv 1) pe_int (nomark _))
      (pss_one (ps_ret (pe_op op_sub (pe_call G__law_pull hr rfl T.g__law_pull T.d__law_pull.kp (b__law_pull T) .nil pass0 (pa_cons (pv 0) (pa_cons pe_int pa_nil))) pe_int)))
      pss_nil)
    (pss_cons (ps_if (pt_cmpR op_eq (pv 1) pe_int (nomark _))
      (pss_one (ps_ret (pe_op op_sub (pe_call G__law_pull hr rfl T.g__law_pull T.d__law_pull.kp (b__law_pull T) .nil pass0 (pa_cons (pv 0) (pa_cons (pe_op op_pow pe_int pe_int) pa_nil))) (pe_op op_pow pe_int pe_int))))
      pss_nil)
    (pss_cons (ps_set (i := 2) sc__law_whole.nd rfl (Or.inl rfl) (pe_op op_mulX (pe_call G__law_two hr rfl T.g__law_two T.d__law_two.kp (b__law_two T) .nil pass0 (pa_cons (pe_call G__law_pull hr rfl T.g__law_pull T.d__law_pull.kp (b__law_pull T) .nil pass0 (pa_cons (pv 0) (pa_cons (pe_ix ix_list (pe_lst (pa_cons pe_int (pa_cons pe_int (pa_cons pe_int pa_nil)))) (pe_op op_sub (pv 1) pe_int) (fun _ _ => rfl)) pa_nil))) pa_nil)) (pe_call G__law_of hr rfl T.g__law_of T.d__law_of.kp (b__law_of T) .nil pass0 (pa_cons (pv 0) (pa_cons (pe_lst (pa_cons pe_int (pa_cons pe_int (pa_cons pe_int (pa_cons (pe_op op_sub pe_int pe_int) (pa_cons (pe_op op_sub pe_int pe_int) pa_nil)))))) pa_nil)))))
    (pss_one (ps_ret (pe_op op_add (pv 2) (pe_call G__law_of hr rfl T.g__law_of T.d__law_of.kp (b__law_of T) .nil pass0 (pa_cons (pv 0) (pa_cons (pe_lst (pa_cons pe_int (pa_cons pe_int (pa_cons (pe_op op_sub pe_int pe_int) (pa_cons (pe_call G__law_pull hr rfl T.g__law_pull T.d__law_pull.kp (b__law_pull T) .nil pass0 (pa_cons (pv 0) (pa_cons (pe_op op_pow pe_int pe_int) pa_nil))) pa_nil))))) pa_nil))))))))))), ?_⟩
    show tSeq _ _ _ [some (V.ref b), none, none] H
    walk_at "K"
    walk_at "go"
    refine ⟨b, c, 6, rfl, hB, by decide, by decide, fun r H1 r0 r1 hB1 x1 => ?_⟩
    walk_at "go"
    refine r_if2 (fun e => ?_) (fun e => ?_)
    · walk_at "go"
      refine ⟨b, c, 30, rfl, hB1, by decide, by decide, fun r2 H2 r20 r21 hB2 x2 => ?_⟩
      walk_at "go"
      exact q _ H2 (by omega) hB2 (x1.trans x2)
    · have hr2 : ¬ r < 2 := of_decide_eq_false e
      walk_at "go"
      refine r_if2 (fun e2 => ?_) (fun e2 => ?_)
      · walk_at "go"
        have e18 : (10 : Int) ^ Int.toNat 18 = 1000000000000000000 := by decide
        have e17 : (10 : Int) ^ Int.toNat 17 = 100000000000000000 := by decide
        rw [e18]
        refine ⟨b, c, 1000000000000000000, rfl, hB1, by decide, log_ok (by decide) (by decide), fun r2 H2 r20 r21 hB2 x2 => ?_⟩
        walk_at "go"
        rw [e17]
        exact q _ H2 (by omega) hB2 (x1.trans x2)
      · have hr3 : ¬ r = 2 := fun z => of_decide_eq_false e2 (by rw [z])
        walk_at "go"
        intro l hl
        have hB2 := hB1.new (o := .lst [V.int 70, V.int 400, V.int 900]) hl
        have xB2 : ExB b H (L2.upd H1 l (.lst [V.int 70, V.int 400, V.int 900])) := x1.trans (Ex.new hl).toB
        have hl2 : (L2.upd H1 l (.lst [V.int 70, V.int 400, V.int 900])) l = some (.lst [V.int 70, V.int 400, V.int 900]) := upd_same
        generalize L2.upd H1 l (.lst [V.int 70, V.int 400, V.int 900]) = H2 at hB2 xB2 hl2 ⊢
        walk_at "go"
        obtain ⟨bd, hat, hb1, hb2⟩ : ∃ bd : Int, atI [V.int 70, V.int 400, V.int 900] (r - 3) = some (.int bd) ∧ 0 < bd ∧ bd ≤ 900 := by
          have : r = 3 ∨ r = 4 ∨ r = 5 := by omega
          rcases this with rfl | rfl | rfl
          · exact ⟨70, rfl, by decide, by decide⟩
          · exact ⟨400, rfl, by decide, by decide⟩
          · exact ⟨900, rfl, by decide, by decide⟩
        refine r_ixL (SqL.of hl2) hat ?_
        walk_at "go"
        refine ⟨b, c, bd, rfl, hB2, hb1, log_ok (by omega) (by omega), fun r4 H4 r40 r41 hB4 x4 => ?_⟩
        walk_at "go"
        refine ⟨r4, rfl, by omega, ?_⟩
        walk_at "go"
        intro m hm
        walk_at "go"
        refine ⟨b, c, .ref m, _, rfl, hB4.new hm, Or.inl ⟨m, rfl, (hB4.ne hm).1.symm, Or.inl upd_same⟩, by walk_at "len", by walk_at "len", fun v5 H5 hv5 hB5 x5 => ?_⟩
        obtain ⟨f, rfl, hf⟩ := mem5 hv5
        obtain ⟨n4, rfl⟩ : ∃ n4 : Nat, r4 = n4 := ⟨r4.toNat, by omega⟩
        rw [pw2_nat]
        have hn4 : n4 < 900 := by omega
        have hpw : ((2 : Int) ^ n4).natAbs ≤ 2 ^ 900 := by
          rw [two_nat]
          exact Nat.pow_le_pow_right (by decide) (by omega)
        have cm : CMulX (2 ^ n4) f := mulx_ok (a := 901) (b := 4) (Nat.lt_of_le_of_lt hpw (Nat.pow_lt_pow_right (by decide) (by decide))) (by omega) (by decide)
        have hmul : ((2 : Int) ^ n4 * f).natAbs ≤ 2 ^ 900 * 5 := by
          rw [Int.natAbs_mul]
          exact Nat.mul_le_mul hpw hf
        walk_at "go"
        refine ⟨b, c, 10 ^ Int.toNat 6, rfl, hB5, by decide, by decide, fun r6 H6 r60 r61 hB6 x6 => ?_⟩
        walk_at "go"
        intro m2 hm2
        walk_at "go"
        refine ⟨b, c, .ref m2, _, rfl, hB6.new hm2, Or.inl ⟨m2, rfl, (hB6.ne hm2).1.symm, Or.inl upd_same⟩, by walk_at "len", by walk_at "len", fun v7 H7 hv7 hB7 x7 => ?_⟩
        obtain ⟨j, rfl, hj⟩ := mem4 r60 r61 hv7
        walk_at "go"
        have p1 : (2 : Nat) ^ 910 = 2 ^ 900 * 1024 := by rw [show (910 : Nat) = 900 + 10 from rfl, Nat.pow_add]
        have p2 : (2 : Nat) ^ 64 ≤ 2 ^ 900 := Nat.pow_le_pow_right (by decide) (by decide)
        refine q _ H7 ?_ hB7 (((((xB2.trans x4).trans (Ex.new hm).toB).trans x5).trans x6).trans ((Ex.new hm2).toB.trans x7))
        generalize (2 : Nat) ^ 900 = Y at p1 p2 hmul
        generalize (2 : Int) ^ n4 * f = X at hmul
        rw [p1]
        omega
end
end PW
namespace PW
open PySem PySem.Spec PyProof.Rows L2
section
variable {P : Program} {w : World} {K : PySem.W.Frag} {mg : Str → Option Value} {base : Heap}
theorem ok__law_is {k d : Nat} {cap : Sz} (T : Txt K mg) (hd : 1 ≤ d) (hcs : 10 + 1200 + d * cap.s ≤ 8800) (hlen : (lenSz cap).Le LIM)
    (G__law_same : FnOk P w K mg base CX0 k (He.ga K "_law_same") (fdOf K (He.ga K "_law_same")) p__law_same (spSame K 0))
    (G__law_sign : FnOk P w K mg base CX0 k (He.ga K "_law_sign") (fdOf K (He.ga K "_law_sign")) p__law_sign (spLSign))
    (G__law_size : FnOk P w K mg base CX0 k (He.ga K "_law_size") (fdOf K (He.ga K "_law_size")) p__law_size (spLSize))
    (G_Tower_sign : FnOk P w K mg base CX0 k (He.ma K (He.ga K "Tower") "sign") (fdOf K (He.fAd K ("Tower", some "sign"))) p_Tower_sign (spSign K))
    (G_Tower_small : FnOk P w K mg base CX0 k (He.ma K (He.ga K "Tower") "small") (fdOf K (He.fAd K ("Tower", some "small"))) p_Tower_small (spSmall K))
    (G_Tower_length : FnOk P w K mg base CX0 k (He.ma K (He.ga K "Tower") "length") (fdOf K (He.fAd K ("Tower", some "length"))) p_Tower_length (spLength K cap d))
    (G_Tower___mod__ : FnOk P w K mg base CX0 k (He.ma K (He.ga K "Tower") "__mod__") (fdOf K (He.fAd K ("Tower", some "__mod__"))) p_Tower___mod__ (spMod K cap d)) : FnOk P w K mg base CX0 (k + 1) (He.ga K "_law_is") (fdOf K (He.ga K "_law_is")) p__law_is (spLIs K cap d) := by
  refine FunD.ok T.d__law_is sc__law_is (fun vs H Q E h => ?_) (fun cdv A outer s H vs Q E hr h => ?_)
  · obtain ⟨a, S, v, rfl, _⟩ := h
    rfl
  · obtain ⟨a, S, v, rfl, ha, hS, hv, q⟩ := h
    refine ⟨_, PSs.nox ((pss_cons (ps_if (PW.pt (pw_or (pt_not (pt_val (pe_callB call_isi (by rfl) T.f_isinstance (by decide +kernel) (pa_cons (pv 0) (pa_cons (pe_glob (v := .ref _) rfl T.g_Tower rfl) pa_nil))))) (pw_or1 (pt_not (pt_val (pe_call G__law_same hr rfl T.g__law_same T.d__law_same.kp (b__law_same T) .nil pass0 (pa_cons (pe_meth0 (pv 0) T.k_Tower T.m_Tower_sign G_Tower_sign hr (b_Tower_sign T) .nil pass0) (pa_cons (pe_call G__law_sign hr rfl T.g__law_sign T.d__law_sign.kp (b__law_sign T) .nil pass0 (pa_cons (pv 1) pa_nil)) pa_nil))))))))
      (pss_one (ps_ret pe_bl))
      pss_nil)
    (pss_cons (ps_if (pt_not (pt_val (pe_call G__law_same hr rfl T.g__law_same T.d__law_same.kp (b__law_same T) .nil pass0 (pa_cons (pe_meth0 (pv 0) T.k_Tower T.m_Tower_small G_Tower_small hr (b_Tower_small T) .nil pass0) (pa_cons (pe_ifExp (pt_cmpR op_lt (pe_callB call_absN (by rfl) T.f_abs (by decide +kernel) (pa_cons (pv 1) pa_nil)) (pe_op op_pow pe_int pe_int) (nomark _)) (pv 1) pe_non) pa_nil)))))
      (pss_one (ps_ret pe_bl))
      pss_nil)
    (pss_cons (ps_if (pt_not (pt_val (pe_call G__law_same hr rfl T.g__law_same T.d__law_same.kp (b__law_same T) .nil pass0 (pa_cons (pe_meth0 (pe_meth0 (pv 0) T.k_Tower T.m_Tower_length G_Tower_length hr (b_Tower_length T) .nil pass0) T.k_Tower T.m_Tower_small G_Tower_small hr (b_Tower_small T) .nil pass0) (pa_cons (pe_call G__law_size hr rfl T.g__law_size T.d__law_size.kp (b__law_size T) .nil pass0 (pa_cons (pv 1) pa_nil)) pa_nil)))))
      (pss_one (ps_ret pe_bl))
      pss_nil)
    (pss_one (ps_ret (pe_callB (cr_all rfl) (by rfl) T.f_all (by decide +kernel) (pa_cons (pe_lc (own := [("_law_m", 2)]) rfl sc__law_is.nd (pi_list (pe_lst (pa_cons pe_int (pa_cons pe_int (pa_cons pe_int (pa_cons pe_int (pa_cons pe_int (pa_cons pe_int (pa_cons pe_int pa_nil))))))))) (blkOk_by (own := [("_law_m", 2)]) (N := n__law_is) (sc := defScope s__law_is) (by decide +kernel)) (fun _ _ _ _ _ => (pg_name (i := 2) sc__law_is.nd rfl (Or.inl rfl) (hf := by first | exact Or.inl rfl | exact Or.inr rfl))) (fun _ _ _ _ _ => pts_nil) (fun _ _ _ _ _ => (pe_call G__law_same hr rfl T.g__law_same T.d__law_same.kp (b__law_same T) .nil pass0 (pa_cons (pe_op (PW.op_ownB T.o_Tower___mod__ G_Tower___mod__ hr (b_Tower___mod__ T) pass0) (pv 0) (pv 2)) (pa_cons (pe_op op_mod (pe_callTy call_intN (by rfl) T.f_int (by decide +kernel) (pa_cons (pv 1) pa_nil)) (pv 2)) pa_nil))))) pa_nil)))))))), ?_⟩
    show tSeq _ _ _ [some (V.ref a), some (V.int v), none] H
    walk_at "K"
    refine r_seqP (fun σ' H' => σ' = [some (V.ref a), some (V.int v), none] ∧ Ex H H') ?_ ?_
    · rintro σ' H1 ⟨rfl, x1⟩
      refine r_seqP (fun σ' H' => σ' = [some (V.ref a), some (V.int v), none] ∧ Ex H H') ?_ ?_
      · rintro σ' H2 ⟨rfl, x2⟩
        obtain ⟨dx, fl, fp, fs, hri⟩ := (ha.ex x2).ins'
        walk_at "go"
        refine ⟨a, S, v, rfl, ha.ex x2, hS, fun r H3 x3 hr3 => ?_⟩
        obtain ⟨dx3, fl3, fp3, fs3, hri3⟩ := hr3.ins'
        walk_at "go"
        refine ⟨cap, r, _, _, _, rfl, hr3, fun H4 x4 => ?_⟩
        have hlv : smallV (lgv v) = .int (lgv v) := by
          unfold smallV
          have h1 : bt v ≤ 100000 := bt_le.mpr hv
          have h2 : (lgv v).natAbs ≤ 100000 := by
            unfold lgv
            split <;> omega
          rw [if_pos (Nat.lt_of_le_of_lt h2 (by decide))]
        rw [hlv]
        walk_at "go"
        refine ⟨v, rfl, ?_⟩
        walk_at "go"
        refine ⟨_, _, rfl, Sm.flat rfl, fun H5 x5 => ?_⟩
        have x05 := ((x2.trans x3).trans x4).trans x5
        walk_at "go"
        intro l hl
        walk_at "go"
        intro D hD
        have x0l : Ex H (L2.upd H5 l (.lst [V.int 1000, V.int 997, V.int 991, V.int 983, V.int 977, V.int 971, V.int 729])) := x05.trans (Ex.new hl)
        have hll : SqL K (L2.upd H5 l (.lst [V.int 1000, V.int 997, V.int 991, V.int 983, V.int 977, V.int 971, V.int 729])) l [V.int 1000, V.int 997, V.int 991, V.int 983, V.int 977, V.int 971, V.int 729] := SqL.of upd_same
        generalize L2.upd H5 l (.lst [V.int 1000, V.int 997, V.int 991, V.int 983, V.int 977, V.int 971, V.int 729]) = H6 at x0l hll hD ⊢
        refine lc_grow (walk_list (xs := [V.int 1000, V.int 997, V.int 991, V.int 983, V.int 977, V.int 971, V.int 729])) (σw := [some (V.ref a), some (V.int v), none]) rfl (fun _ _ v => v = .bl true) hD (by decide) (fun _ x => x.lst hll) (fun _ _ _ _ _ h => h) ?_ ?_
        · rintro i x Ha Hb acc R hi xa hacc ⟨rfl, hx⟩ hR
          obtain ⟨m, rfl, hm1, hm2⟩ := mods_mem hx
          have hab := ha.ex (x0l.trans xa)
          have hm0 : (0 : Int) < (m : Nat) := by omega
          walk_at "go"
          refine ⟨rfl, ?_⟩
          walk_at "go"
          refine rOwn_num (u := (m : Int)) rfl hab (NumV.int hd) ?_
          refine ⟨a, S, v, m, rfl, hab, hS, hm1, hm2, by have : S.s ≤ 1200 := hS.s; omega, fun Hc xc => ?_⟩
          walk_at "go"
          refine ⟨_, _, rfl, Sm.flat rfl, fun Hd xd => ?_⟩
          exact hR _ _ rfl (xc.trans xd)
        · intro Hc acc xc hacc hlen2 hb
          walk_at "go"
          refine r_all (bs := List.replicate acc.length true) (SqL.of (by rw [hacc, ← all_true (fun i v e => hb i v e)])) ?_
          rw [replicate_all]
          exact q _ (x0l.trans xc)
      · intro N hN
        obtain ⟨dx, fl, fp, fs, hri⟩ := (ha.ex x1).ins'
        walk_at "go"
        refine ⟨cap, a, d, S, v, rfl, ha.ex x1, fun H3 x3 => ?_⟩
        walk_at "go"
        rw [abs_int]
        have e64 : (2 : Int) ^ Int.toNat 64 = 18446744073709551616 := by decide
        rw [e64]
        generalize hB : (18446744073709551616 : Int) = B
        refine r_if2 (fun e => ?_) (fun e => ?_)
        · have h1 : v.natAbs < 2 ^ 64 := by
            have := of_decide_eq_true e
            omega
          have e1 : smallV v = .int v := by
            unfold smallV
            rw [if_pos h1]
          rw [e1]
          walk_at "go"
          refine ⟨_, _, rfl, Sm.flat rfl, fun H4 x4 => ?_⟩
          walk_at "go"
          exact hN _ _ ⟨rfl, (x1.trans x3).trans x4⟩
        · have h1 : ¬ v.natAbs < 2 ^ 64 := by
            have := of_decide_eq_false e
            omega
          have e1 : smallV v = .non := by
            unfold smallV
            rw [if_neg h1]
          rw [e1]
          walk_at "go"
          refine ⟨_, _, rfl, Sm.flat rfl, fun H4 x4 => ?_⟩
          walk_at "go"
          exact hN _ _ ⟨rfl, (x1.trans x3).trans x4⟩
    · intro N hN
      obtain ⟨dx, fl, fp, fs, hri⟩ := ha.ins'
      have ty := ty_ins T.i_Tower hri
      have k1 := T.i_Tower.me
      walk_at "go"
      refine ⟨cap, a, d, S, v, rfl, ha, fun H1 x1 => ?_⟩
      walk_at "go"
      refine ⟨v, rfl, ?_⟩
      walk_at "go"
      refine ⟨_, _, rfl, Sm.flat rfl, fun H2 x2 => ?_⟩
      walk_at "go"
      exact hN _ _ ⟨rfl, x1.trans x2⟩
end
end PW
/-! ### numbers of some steps -/
namespace PW
open PySem PySem.Spec PyProof.Rows L2
def mb (i : Nat) : Sz := ⟨1000 + 3000 * i, 1 + i, 10 * i⟩
theorem mb_lim {i : Nat} (h : i ≤ 5) : (mb i).Le LIM := ⟨by show 1000 + 3000 * i ≤ 4000000; omega, by show 1 + i ≤ 1200; omega, by show 10 * i ≤ 1200; omega⟩
theorem mb_mono {i j : Nat} (h : i ≤ j) : (mb i).Le (mb j) := ⟨by show 1000 + 3000 * i ≤ 1000 + 3000 * j; omega, by show 1 + i ≤ 1 + j; omega, by show 10 * i ≤ 10 * j; omega⟩
theorem mb_add {i : Nat} {z : Int} (hi : i ≤ 4) (h : z.natAbs < 2 ^ 910) : (totSz (mb i) ⟨bt z, 0, 0⟩ 0).Le (mb (i + 1)) := by
  have := bt_le.mpr h
  refine ⟨?_, ?_, ?_⟩
  · show 1000 + 3000 * i + bt z + (1 + i) * 0 + 0 * (0 + 10 * i) + 10 * i + 0 + 0 + 1 ≤ 1000 + 3000 * (i + 1)
    omega
  · show 1 + i + 0 ≤ 1 + (i + 1)
    omega
  · show 10 * i + 0 ≤ 10 * (i + 1)
    omega
theorem mb_sub {i : Nat} {z : Int} (hi : i ≤ 4) (h : z.natAbs < 2 ^ 910) : (totSz ⟨bt z, 0, 0⟩ (mb i) 0).Le (mb (i + 1)) := by
  have := bt_le.mpr h
  refine ⟨?_, ?_, ?_⟩
  · show bt z + (1000 + 3000 * i) + 0 * (10 * i) + (1 + i) * (0 + 0) + 0 + 10 * i + 0 + 1 ≤ 1000 + 3000 * (i + 1)
    omega
  · show 0 + (1 + i) ≤ 1 + (i + 1)
    omega
  · show 0 + 10 * i ≤ 10 * (i + 1)
    omega
theorem mb_mul {i : Nat} (hi : i ≤ 4) : (totSz Z0 (mb i) 4).Le (mb (i + 1)) := by
  refine ⟨?_, ?_, ?_⟩
  · show 0 + (1000 + 3000 * i) + 0 * (10 * i) + (1 + i) * (4 + 0) + 0 + 10 * i + 4 + 1 ≤ 1000 + 3000 * (i + 1)
    omega
  · show 0 + (1 + i) ≤ 1 + (i + 1)
    omega
  · show 0 + 10 * i ≤ 10 * (i + 1)
    omega
theorem mb_div {i : Nat} (hi : i ≤ 4) : (divSz (mb i)).Le (mb (i + 1)) := by
  refine ⟨?_, ?_, ?_⟩
  · show 1000 + 3000 * i + 2 * (10 * i) + 12 ≤ 1000 + 3000 * (i + 1)
    omega
  · show 1 + i ≤ 1 + (i + 1)
    omega
  · show 10 * i + 10 ≤ 10 * (i + 1)
    omega
theorem mb_pow {i : Nat} (hi : i ≤ 4) : (totSz (mb i) PSZ 0).Le (mb (i + 1)) := by
  refine ⟨?_, ?_, ?_⟩
  · show 1000 + 3000 * i + 266 + (1 + i) * 0 + 1 * (0 + 10 * i) + 10 * i + 0 + 0 + 1 ≤ 1000 + 3000 * (i + 1)
    omega
  · show 1 + i + 1 ≤ 1 + (i + 1)
    omega
  · show 10 * i + 0 ≤ 10 * (i + 1)
    omega
theorem psz_mb : PSZ.Le (mb 0) := ⟨by decide, by decide, by decide⟩
theorem psz_lim : PSZ.Le LIM := ⟨by decide, by decide, by decide⟩
theorem int_lim {z : Int} (h : z.natAbs < 2 ^ 1000000) : Sz.Le ⟨bt z, 0, 0⟩ LIM := ⟨by
  have := bt_le.mpr h
  show bt z ≤ 4000000
  omega, Nat.zero_le _, Nat.zero_le _⟩
theorem int_lim910 {z : Int} (h : z.natAbs < 2 ^ 910) : Sz.Le ⟨bt z, 0, 0⟩ LIM := ⟨by
  have := bt_le.mpr h
  show bt z ≤ 4000000
  omega, Nat.zero_le _, Nat.zero_le _⟩
/-- a pair of a number and its value, off the bag -/
def PairV (K : PySem.W.Frag) (cap : Sz) (H : Hp) (b : Addr) (S : Sz) (t r : Addr) (v : Int) : Prop := SqT K (PW.hide H b) t [.ref r, .int v] ∧ IsT K cap (PW.hide H b) 2 S r v
theorem PairV.ex {K : PySem.W.Frag} {cap : Sz} {H H' : Hp} {b : Addr} {S : Sz} {t r : Addr} {v : Int} (p : PairV K cap H b S t r v) (x : ExB b H H') : PairV K cap H' b S t r v := ⟨x.hides.tup p.1, p.2.ex x.hides⟩
theorem PairV.tup {K : PySem.W.Frag} {cap : Sz} {H : Hp} {b : Addr} {S : Sz} {t r : Addr} {v : Int} (p : PairV K cap H b S t r v) : SqT K H t [.ref r, .int v] := (Ex.hide H b).tup p.1
theorem PairV.num {K : PySem.W.Frag} {cap : Sz} {H : Hp} {b : Addr} {S : Sz} {t r : Addr} {v : Int} (p : PairV K cap H b S t r v) : IsT K cap H 2 S r v := p.2.ex (Ex.hide H b)
theorem BagAt.lst {H : Hp} {b c : Addr} (h : BagAt H b c) : ∃ xs, H b = some (.lst xs) := by
  obtain ⟨cells, i, g, s, h1, _⟩ := h
  exact ⟨_, h1⟩
theorem pair_new {K : PySem.W.Frag} {cap : Sz} {H : Hp} {b c : Addr} {S S' : Sz} {t r : Addr} {v : Int} (hB : BagAt H b c) (ht : H t = none) (h : IsT K cap H 2 S r v) (hS : S.Le S') : PairV K cap (L2.upd H t (.tup [.ref r, .int v])) b S' t r v := by
  obtain ⟨xs, hb⟩ := hB.lst
  have hb2 : (L2.upd H t (.tup [.ref r, .int v])) b = some (.lst xs) := (Ex.new ht) _ _ hb
  exact ⟨SqT.hideL hb2 (SqT.of upd_same), ((h.ex (Ex.new ht)).mono hS).hideL hb2⟩
def spMade (K : PySem.W.Frag) (cap : Sz) : Sp := fun vs H Q _ => ∃ (b c : Addr), ∃ n : Nat, vs = [.ref b, .int (n : Nat)] ∧ n ≤ 4 ∧ BagAt H b c ∧ ∀ t r v H', BagAt H' b c → ExB b H H' → PairV K cap H' b (mb 4) t r v → v.natAbs < 2 ^ 940 → Q (.ref t) H'
theorem vb_add {v z : Int} {i : Nat} (h : v.natAbs < 2 ^ (910 + 6 * i)) (hz : z.natAbs < 2 ^ 910) : (v + z).natAbs < 2 ^ (910 + 6 * (i + 1)) := by
  have e : 910 + 6 * (i + 1) = (910 + 6 * i) + 6 := by omega
  have p : (2 : Nat) ^ 910 ≤ 2 ^ (910 + 6 * i) := Nat.pow_le_pow_right (by decide) (by omega)
  rw [e, Nat.pow_add]
  generalize (2 : Nat) ^ (910 + 6 * i) = Y at h p
  generalize (2 : Nat) ^ 910 = X at hz p
  omega
theorem vb_sub {v z : Int} {i : Nat} (h : v.natAbs < 2 ^ (910 + 6 * i)) (hz : z.natAbs < 2 ^ 910) : (z - v).natAbs < 2 ^ (910 + 6 * (i + 1)) := by
  have e : 910 + 6 * (i + 1) = (910 + 6 * i) + 6 := by omega
  have p : (2 : Nat) ^ 910 ≤ 2 ^ (910 + 6 * i) := Nat.pow_le_pow_right (by decide) (by omega)
  rw [e, Nat.pow_add]
  generalize (2 : Nat) ^ (910 + 6 * i) = Y at h p
  generalize (2 : Nat) ^ 910 = X at hz p
  omega
theorem vb_mul {v f : Int} {i : Nat} (h : v.natAbs < 2 ^ (910 + 6 * i)) (hf : f.natAbs ≤ 16) : (v * f).natAbs < 2 ^ (910 + 6 * (i + 1)) := by
  have e : 910 + 6 * (i + 1) = (910 + 6 * i) + 6 := by omega
  rw [e, Nat.pow_add, Int.natAbs_mul]
  have h1 : v.natAbs * f.natAbs ≤ v.natAbs * 16 := Nat.mul_le_mul_left _ hf
  generalize (2 : Nat) ^ (910 + 6 * i) = Y at h
  omega
theorem vb_div {v : Int} {m i : Nat} (h : v.natAbs < 2 ^ (910 + 6 * i)) : (v / (m : Int)).natAbs < 2 ^ (910 + 6 * (i + 1)) := by
  have e : 910 + 6 * (i + 1) = (910 + 6 * i) + 6 := by omega
  rw [e, Nat.pow_add]
  have h1 := Int.natAbs_ediv_le_natAbs v (m : Int)
  generalize (2 : Nat) ^ (910 + 6 * i) = Y at h
  omega
theorem vb_pow {n : Nat} (h : n < 900) : (pw2 ((n : Nat) : Int)).natAbs < 2 ^ 910 := by
  rw [pw2_nat, two_nat]
  exact Nat.pow_lt_pow_right (by decide) (by omega)
section
variable {P : Program} {w : World} {K : PySem.W.Frag} {mg : Str → Option Value} {base : Heap}
theorem ok__law_made {k : Nat} {cap : Sz} (T : Txt K mg) (hc : 64 ≤ cap.z) (hcs : 10 + 1200 + 2 * cap.s ≤ 8800)
    (G__law_pull : FnOk P w K mg base CX0 k (He.ga K "_law_pull") (fdOf K (He.ga K "_law_pull")) p__law_pull (spPull))
    (G__law_of : FnOk P w K mg base CX0 k (He.ga K "_law_of") (fdOf K (He.ga K "_law_of")) p__law_of (spOf K))
    (G__law_two : FnOk P w K mg base CX0 k (He.ga K "_law_two") (fdOf K (He.ga K "_law_two")) p__law_two (spTwo))
    (G__law_whole : FnOk P w K mg base CX0 k (He.ga K "_law_whole") (fdOf K (He.ga K "_law_whole")) p__law_whole (spLWhole))
    (G_Tower_power : FnOk P w K mg base CX0 k (sgA "Tower" "power" K) (fdOf K (sgA "Tower" "power" K)) p_Tower_power (spPower K cap 1))
    (G_Tower___add__ : FnOk P w K mg base CX0 k (He.ma K (He.ga K "Tower") "__add__") (fdOf K (He.fAd K ("Tower", some "__add__"))) p_Tower___add__ (spAdd K cap 2))
    (G_Tower___sub__ : FnOk P w K mg base CX0 k (He.ma K (He.ga K "Tower") "__sub__") (fdOf K (He.fAd K ("Tower", some "__sub__"))) p_Tower___sub__ (spSub K cap 2))
    (G_Tower___mul__ : FnOk P w K mg base CX0 k (He.ma K (He.ga K "Tower") "__mul__") (fdOf K (He.fAd K ("Tower", some "__mul__"))) p_Tower___mul__ (spMul K cap 2))
    (G_Tower___floordiv__ : FnOk P w K mg base CX0 k (He.ma K (He.ga K "Tower") "__floordiv__") (fdOf K (He.fAd K ("Tower", some "__floordiv__"))) p_Tower___floordiv__ (spDiv K cap 2))
    (G_Tower___init__ : FnOk P w K mg base CX0 (k0) (He.ma K (He.ga K "Tower") "__init__") (fdOf K (He.fAd K ("Tower", some "__init__"))) p_Tower___init__ (spInit K)) (hk : k0 + 1 = k) : FnOk P w K mg base CX0 (k + 1) (He.ga K "_law_made") (fdOf K (He.ga K "_law_made")) p__law_made (spMade K cap) := by
  subst hk
  refine FunD.ok T.d__law_made sc__law_made (fun vs H Q E h => ?_) (fun cdv A outer s H vs Q E hr h => ?_)
  · obtain ⟨b, c, n, rfl, _⟩ := h
    rfl
  · obtain ⟨b, c, n, rfl, hn, hB, q⟩ := h
    refine ⟨_, PSs.nox ((pss_cons (ps_set (i := 2) sc__law_made.nd rfl (Or.inl rfl) (pe_call G__law_pull hr rfl T.g__law_pull T.d__law_pull.kp (b__law_pull T) .nil pass0 (pa_cons (pv 0) (pa_cons pe_int pa_nil))))
    (pss_cons (ps_set (i := 3) sc__law_made.nd rfl (Or.inl rfl) (pe_call G__law_of hr rfl T.g__law_of T.d__law_of.kp (b__law_of T) .nil pass0 (pa_cons (pv 0) (pa_cons (pe_lst (pa_cons (pe_tup (pa_cons (PW.pe_smeth (pe_glob (v := .ref _) rfl T.g_Tower rfl) T.sm_Tower_power G_Tower_power hr (b_Tower_power T) pass0 (pa_cons (pv 2) pa_nil)) (pa_cons (pe_call G__law_two hr rfl T.g__law_two T.d__law_two.kp (b__law_two T) .nil pass0 (pa_cons (pv 2) pa_nil)) pa_nil))) (pa_cons (pe_tup (pa_cons (PW.pe_smeth (pe_glob (v := .ref _) rfl T.g_Tower rfl) T.sm_Tower_power G_Tower_power hr (b_Tower_power T) pass0 (pa_cons (pe_make T.mk_Tower G_Tower___init__ hr rfl T.g_Tower (b_Tower___init___2 T) (dv_Tower___init___2 T) pass0 (pa_cons (pv 2) pa_nil)) pa_nil)) (pa_cons (pe_call G__law_two hr rfl T.g__law_two T.d__law_two.kp (b__law_two T) .nil pass0 (pa_cons (pv 2) pa_nil)) pa_nil))) pa_nil))) pa_nil))))
    (pss_cons (ps_for PassesOwn.never rfl (pi_range1 rfl T.f_range (pa_cons (pe_call G__law_pull hr rfl T.g__law_pull T.d__law_pull.kp (b__law_pull T) .nil pass0 (pa_cons (pv 0) (pa_cons (pe_op op_add (pv 1) pe_int) pa_nil))) pa_nil)) (pg_name (i := 4) sc__law_made.nd rfl (Or.inl rfl) (hf := by first | exact Or.inl rfl | exact Or.inr rfl))
      (pss_cons (ps_par (i := 5) (j := 6) (by rfl) sc__law_made.nd rfl rfl (by decide) rfl rfl (pa_cons (pe_call G__law_pull hr rfl T.g__law_pull T.d__law_pull.kp (b__law_pull T) .nil pass0 (pa_cons (pv 0) (pa_cons pe_int pa_nil))) (pa_cons (pe_call G__law_whole hr rfl T.g__law_whole T.d__law_whole.kp (b__law_whole T) .nil pass0 (pa_cons (pv 0) pa_nil)) pa_nil)) (by rfl))
        (pss_one (ps_if (pt_cmpR op_eq (pv 5) pe_int (nomark _))
          (pss_one (ps_set (i := 3) sc__law_made.nd rfl (Or.inl rfl) (pe_tup (pa_cons (pe_op (PW.op_ownB T.o_Tower___add__ G_Tower___add__ hr (b_Tower___add__ T) pass0) (pe_ix ix_seq (pv 3) pe_int (fun _ _ => rfl)) (pv 6)) (pa_cons (pe_op op_add (pe_ix ix_seq (pv 3) pe_int (fun _ _ => rfl)) (pv 6)) pa_nil)))))
          (pss_one (ps_if (pt_cmpR op_eq (pv 5) pe_int (nomark _))
              (pss_one (ps_set (i := 3) sc__law_made.nd rfl (Or.inl rfl) (pe_tup (pa_cons (pe_op (PW.op_ownB T.o_Tower___sub__ G_Tower___sub__ hr (b_Tower___sub__ T) pass0) (pe_make T.mk_Tower G_Tower___init__ hr rfl T.g_Tower (b_Tower___init___2 T) (dv_Tower___init___2 T) pass0 (pa_cons (pv 6) pa_nil)) (pe_ix ix_seq (pv 3) pe_int (fun _ _ => rfl))) (pa_cons (pe_op op_sub (pv 6) (pe_ix ix_seq (pv 3) pe_int (fun _ _ => rfl))) pa_nil)))))
              (pss_one (ps_if (pt_cmpR op_eq (pv 5) pe_int (nomark _))
                  (pss_cons (ps_set (i := 7) sc__law_made.nd rfl (Or.inl rfl) (pe_op op_sub (pe_call G__law_pull hr rfl T.g__law_pull T.d__law_pull.kp (b__law_pull T) .nil pass0 (pa_cons (pv 0) (pa_cons pe_int pa_nil))) pe_int))
                    (pss_one (ps_set (i := 3) sc__law_made.nd rfl (Or.inl rfl) (pe_tup (pa_cons (pe_op (PW.op_ownB T.o_Tower___mul__ G_Tower___mul__ hr (b_Tower___mul__ T) pass0) (pe_ix ix_seq (pv 3) pe_int (fun _ _ => rfl)) (pv 7)) (pa_cons (pe_op op_mulX (pe_ix ix_seq (pv 3) pe_int (fun _ _ => rfl)) (pv 7)) pa_nil))))))
                  (pss_one (ps_if (pt_cmpR op_eq (pv 5) pe_int (nomark _))
                      (pss_cons (ps_set (i := 8) sc__law_made.nd rfl (Or.inl rfl) (pe_op op_add pe_int (pe_call G__law_pull hr rfl T.g__law_pull T.d__law_pull.kp (b__law_pull T) .nil pass0 (pa_cons (pv 0) (pa_cons pe_int pa_nil)))))
                        (pss_one (ps_set (i := 3) sc__law_made.nd rfl (Or.inl rfl) (pe_tup (pa_cons (pe_op (PW.op_ownB T.o_Tower___floordiv__ G_Tower___floordiv__ hr (b_Tower___floordiv__ T) pass0) (pe_ix ix_seq (pv 3) pe_int (fun _ _ => rfl)) (pv 8)) (pa_cons (pe_op op_fdivW (pe_ix ix_seq (pv 3) pe_int (fun _ _ => rfl)) (pv 8)) pa_nil))))))
                      (pss_cons (ps_set (i := 9) sc__law_made.nd rfl (Or.inl rfl) (pe_call G__law_pull hr rfl T.g__law_pull T.d__law_pull.kp (b__law_pull T) .nil pass0 (pa_cons (pv 0) (pa_cons pe_int pa_nil))))
                        (pss_one (ps_set (i := 3) sc__law_made.nd rfl (Or.inl rfl) (pe_tup (pa_cons (pe_op (PW.op_ownB T.o_Tower___add__ G_Tower___add__ hr (b_Tower___add__ T) pass0) (pe_ix ix_seq (pv 3) pe_int (fun _ _ => rfl)) (PW.pe_smeth (pe_glob (v := .ref _) rfl T.g_Tower rfl) T.sm_Tower_power G_Tower_power hr (b_Tower_power T) pass0 (pa_cons (pv 9) pa_nil))) (pa_cons (pe_op op_add (pe_ix ix_seq (pv 3) pe_int (fun _ _ => rfl)) (pe_call G__law_two hr rfl T.g__law_two T.d__law_two.kp (b__law_two T) .nil pass0 (pa_cons (pv 9) pa_nil))) pa_nil))))))))))))))))
    (pss_one (ps_ret (pv 3))))))), ?_⟩
    show tSeq _ _ _ [some (V.ref b), some (V.int (n : Nat)), none, none, none, none, none, none, none, none] H
    walk_at "K"
    refine r_seqP (fun σ' H' => ∃ e : Nat, e < 900 ∧ σ' = [some (V.ref b), some (V.int (n : Nat)), some (V.int (e : Nat)), none, none, none, none, none, none, none] ∧ ExB b H H' ∧ BagAt H' b c) ?_ ?_
    · clear hB
      rintro σ' H1 ⟨e, he, rfl, x1, hB⟩
      have hcap : ∀ i : Int, i.natAbs < 2 ^ 64 → Sz.Le ⟨bt i, 0, 0⟩ cap := fun i h => ⟨by
        have := bt_le.mpr h
        show bt i ≤ cap.z
        omega, Nat.zero_le _, Nat.zero_le _⟩
      have hce := hcap (e : Int) (by omega)
      refine r_seqP (fun σ' H' => ∃ t r v, σ' = [some (V.ref b), some (V.int (n : Nat)), some (V.int (e : Nat)), some (.ref t), none, none, none, none, none, none] ∧ ExB b H H' ∧ BagAt H' b c ∧ PairV K cap H' b (mb 0) t r v ∧ v.natAbs < 2 ^ (910 + 6 * 0)) ?_ ?_
      · clear hB x1 H1
        rintro σ' H1 ⟨t, r, v, rfl, x1, hB, hp, hv⟩
        walk_at "go"
        refine ⟨b, c, ((n : Nat) : Int) + 1, rfl, hB, by omega, log_ok (by omega) (by omega), fun r2 H2 r20 r21 hB2 x2 => ?_⟩
        walk_at "go"
        refine for_it walk_range (fun i σ H' => (∃ t r v, (∃ y0 y1 y2 y3 y4 y5, σ = [some (V.ref b), some (V.int (n : Nat)), some (V.int (e : Nat)), some (.ref t), y0, y1, y2, y3, y4, y5]) ∧ PairV K cap H' b (mb i) t r v ∧ v.natAbs < 2 ^ (910 + 6 * i)) ∧ ExB b H H' ∧ BagAt H' b c) ?_ (fun _ _ _ _ _ => trivial) ?_ ?_
        · exact ⟨⟨t, r, v, ⟨_, _, _, _, _, _, rfl⟩, hp.ex x2, hv⟩, x1.trans x2, hB2⟩
        · clear hp hv x1 hB hB2 x2 H1 H2 v r t
          rintro i x σ H1 H1' hi ⟨⟨t, r, v, ⟨y0, y1, y2, y3, y4, y5, rfl⟩, hp, hv⟩, x1, hB⟩ ⟨rfl, rfl⟩
          have hi4 : i ≤ 4 := by omega
          have hmb := mb_lim (i := i) (by omega)
          have vb : ∀ j : Nat, j ≤ 5 → (2 : Nat) ^ (910 + 6 * j) < 2 ^ 1000 := fun j hj => Nat.pow_lt_pow_right (by decide) (by omega)
          walk_at "go"
          refine ⟨b, c, 5, rfl, hB, by decide, by decide, fun r2 H2 r20 r21 hB2 x2 => ?_⟩
          walk_at "go"
          refine ⟨b, c, rfl, hB2, fun z H3 hz hB3 x3 => ?_⟩
          have hp3 := hp.ex (x2.trans x3)
          have x03 := x1.trans (x2.trans x3)
          have kt := hp3.tup
          have kn := hp3.num
          clear hB hB2 x2 x3 x1 hp H2
          walk_at "go"
          refine r_if2 (fun e0 => ?_) (fun e0 => ?_)
          · walk_at "go"
            refine rOwn_num (u := z) rfl kn (NumV.int (by decide)) ?_
            refine ⟨r, .int z, _, _, v, z, rfl, kn, NumV.int (by decide), hmb, int_lim910 hz, fun r' H4 x4 h4 => ?_⟩
            have kt4 := x4.tup kt
            walk_at "go"
            intro t2 ht2
            exact ⟨⟨t2, r', _, ⟨_, _, _, _, _, _, rfl⟩, pair_new (hB3.grow x4) ht2 h4 (mb_add hi4 hz), vb_add hv hz⟩, x03.trans (x4.trans (Ex.new ht2)).toB, (hB3.grow x4).new ht2⟩
          · walk_at "go"
            refine r_if2 (fun e1 => ?_) (fun e1 => ?_)
            · walk_at "go"
              refine mk_plain (cap := cap) (d := 0) T.e_Tower___init___parts (Sz.Le.refl _) fun r4 H4 x4 h4 => ?_
              have kt4 := x4.tup kt
              have kn4 := kn.ex x4
              walk_at "go"
              refine rOwn_num rfl (h4.deep (d' := 2) (by decide)) (.inl ⟨r, rfl, kn4⟩) ?_
              refine ⟨r4, .ref r, _, _, z, v, rfl, h4.deep (d' := 2) (by decide), .inl ⟨r, rfl, kn4⟩, int_lim910 hz, hmb, fun r' H5 x5 h5 => ?_⟩
              have kt5 := x5.tup kt4
              walk_at "go"
              intro t2 ht2
              have x45 := x4.trans x5
              exact ⟨⟨t2, r', _, ⟨_, _, _, _, _, _, rfl⟩, pair_new (hB3.grow x45) ht2 h5 (mb_sub hi4 hz), vb_sub hv hz⟩, x03.trans (x45.trans (Ex.new ht2)).toB, (hB3.grow x45).new ht2⟩
            · walk_at "go"
              refine r_if2 (fun e2 => ?_) (fun e2 => ?_)
              · walk_at "go"
                refine ⟨b, c, 19, rfl, hB3, by decide, by decide, fun f H4 f0 f1 hB4 x4 => ?_⟩
                have hp4 := hp3.ex x4
                have kt4 := hp4.tup
                have kn4 := hp4.num
                have hf : (f - 9).natAbs ≤ 16 := by omega
                have cm : CMulX v (f - 9) := mulx_ok (a := 1000) (b := 5) (Nat.lt_trans hv (vb i (by omega))) (by omega) (by decide)
                walk_at "go"
                refine rOwn_num (u := f - 9) rfl kn4 (NumV.int (by decide)) ?_
                refine ⟨r, f - 9, _, 4, v, rfl, kn4, hmb, hf, by decide, fun r' H5 x5 h5 => ?_⟩
                have kt5 := x5.tup kt4
                walk_at "go"
                intro t2 ht2
                exact ⟨⟨t2, r', _, ⟨_, _, _, _, _, _, rfl⟩, pair_new (hB4.grow x5) ht2 h5 (mb_mul hi4), vb_mul hv hf⟩, (x03.trans x4).trans (x5.trans (Ex.new ht2)).toB, (hB4.grow x5).new ht2⟩
              · walk_at "go"
                refine r_if2 (fun e3 => ?_) (fun e3 => ?_)
                · walk_at "go"
                  refine ⟨b, c, 12, rfl, hB3, by decide, by decide, fun f H4 f0 f1 hB4 x4 => ?_⟩
                  have hp4 := hp3.ex x4
                  have kt4 := hp4.tup
                  have kn4 := hp4.num
                  obtain ⟨m, hm⟩ : ∃ m : Nat, 1 + f = (m : Nat) := ⟨(1 + f).toNat, by omega⟩
                  have cd : CDivW v (m : Int) := cdN (by omega) (Nat.lt_of_le_of_lt (show m ≤ 2 ^ 10 by omega) (Nat.pow_lt_pow_right (by decide) (by decide)))
                  have hs : (mb i).s ≤ 1200 := hmb.s
                  walk_at "go"
                  rw [hm]
                  refine rOwn_num (u := (m : Int)) rfl kn4 (NumV.int (by decide)) ?_
                  refine ⟨r, _, v, m, rfl, kn4, hmb, by omega, by omega, by omega, fun r' H5 x5 h5 => ?_⟩
                  have kt5 := x5.tup kt4
                  walk_at "go"
                  intro t2 ht2
                  exact ⟨⟨t2, r', _, ⟨_, _, _, _, _, _, rfl⟩, pair_new (hB4.grow x5) ht2 h5 (mb_div hi4), vb_div hv⟩, (x03.trans x4).trans (x5.trans (Ex.new ht2)).toB, (hB4.grow x5).new ht2⟩
                · walk_at "go"
                  refine ⟨b, c, 900, rfl, hB3, by decide, by decide, fun f H4 f0 f1 hB4 x4 => ?_⟩
                  have hp4 := hp3.ex x4
                  have kt4 := hp4.tup
                  have kn4 := hp4.num
                  obtain ⟨m, rfl⟩ : ∃ m : Nat, f = (m : Nat) := ⟨f.toNat, by omega⟩
                  have hm9 : m < 900 := by omega
                  walk_at "go"
                  refine ⟨.int (m : Nat), _, _, rfl, NumV.int (by decide), hcap _ (by omega), fun r5 H5 x5 h5 => ?_⟩
                  have kt5 := x5.tup kt4
                  have kn5 := kn4.ex x5
                  walk_at "go"
                  refine rOwn_num rfl kn5 (.inl ⟨r5, rfl, h5⟩) ?_
                  refine ⟨r, .ref r5, _, PSZ, v, _, rfl, kn5, .inl ⟨r5, rfl, h5⟩, hmb, psz_lim, fun r' H6 x6 h6 => ?_⟩
                  have kt6 := x6.tup kt5
                  walk_at "go"
                  refine ⟨((m : Nat) : Int), rfl, by omega, ?_⟩
                  walk_at "go"
                  intro t2 ht2
                  have x56 := x5.trans x6
                  exact ⟨⟨t2, r', _, ⟨_, _, _, _, _, _, rfl⟩, pair_new (hB4.grow x56) ht2 h6 (mb_pow hi4), vb_add hv (vb_pow hm9)⟩, (x03.trans x4).trans (x56.trans (Ex.new ht2)).toB, (hB4.grow x56).new ht2⟩
        · rintro σ H' ⟨⟨t', r', v', ⟨y0, y1, y2, y3, y4, y5, rfl⟩, hp', hv'⟩, x', hB'⟩
          have hr2 : r2.toNat ≤ 4 := by omega
          have hm := mb_mono hr2
          walk_at "go"
          exact q t' r' v' H' hB' x' ⟨hp'.1, hp'.2.mono hm⟩ (Nat.lt_of_lt_of_le hv' (Nat.pow_le_pow_right (by decide) (by omega)))
      · intro N hN
        walk_at "go"
        refine ⟨.int (e : Nat), _, _, rfl, NumV.int (by decide), hce, fun r1 H2 x2 h2 => ?_⟩
        walk_at "go"
        refine ⟨((e : Nat) : Int), rfl, by omega, ?_⟩
        walk_at "go"
        intro t1 ht1
        have x3 := Ex.new (o := .tup [.ref r1, .int (pw2 ((e : Nat) : Int))]) ht1
        have k3 : SqT K (L2.upd H2 t1 (.tup [.ref r1, .int (pw2 ((e : Nat) : Int))])) t1 [.ref r1, .int (pw2 ((e : Nat) : Int))] := SqT.of upd_same
        generalize L2.upd H2 t1 (.tup [.ref r1, .int (pw2 ((e : Nat) : Int))]) = H3 at x3 k3 ⊢
        walk_at "go"
        refine mk_plain (cap := cap) (d := 0) T.e_Tower___init___parts hce fun r4 H4 x4 h4 => ?_
        walk_at "go"
        refine ⟨.ref r4, _, _, rfl, .inl ⟨r4, rfl, h4⟩, Sz.Le.refl _, fun r5 H5 x5 h5 => ?_⟩
        walk_at "go"
        refine ⟨((e : Nat) : Int), rfl, by omega, ?_⟩
        walk_at "go"
        intro t2 ht2
        have x6 := Ex.new (o := .tup [.ref r5, .int (pw2 ((e : Nat) : Int))]) ht2
        have k6 : SqT K (L2.upd H5 t2 (.tup [.ref r5, .int (pw2 ((e : Nat) : Int))])) t2 [.ref r5, .int (pw2 ((e : Nat) : Int))] := SqT.of upd_same
        generalize L2.upd H5 t2 (.tup [.ref r5, .int (pw2 ((e : Nat) : Int))]) = H6 at x6 k6 ⊢
        walk_at "go"
        intro l hl
        walk_at "go"
        have x16 := x2.trans (x3.trans (x4.trans (x5.trans x6)))
        have hB6 := hB.grow x16
        have hB7 := hB6.new (o := .lst [V.ref t1, V.ref t2]) hl
        refine ⟨b, c, .ref l, _, rfl, hB7, Or.inl ⟨l, rfl, (hB6.ne hl).1.symm, Or.inl upd_same⟩, by walk_at "len", by walk_at "len", fun v8 H8 hv8 hB8 x8 => ?_⟩
        have x68 : ExB b H6 H8 := (Ex.new hl).toB.trans x8
        obtain ⟨bs, hbs⟩ := hB6.lst
        have p1 : PairV K cap H6 b (mb 0) t1 r1 (pw2 ((e : Nat) : Int)) := ⟨SqT.hideL hbs ((x4.trans (x5.trans x6)).tup k3), ((h2.ex (x3.trans (x4.trans (x5.trans x6)))).mono psz_mb).hideL hbs⟩
        have p2 : PairV K cap H6 b (mb 0) t2 r5 (pw2 ((e : Nat) : Int)) := ⟨SqT.hideL hbs k6, ((h5.ex x6).mono psz_mb).hideL hbs⟩
        simp only [List.mem_cons, List.not_mem_nil, or_false] at hv8
        rcases hv8 with rfl | rfl
        · walk_at "go"
          exact hN _ _ ⟨t1, r1, _, rfl, x1.trans (x16.toB.trans x68), hB8, p1.ex x68, vb_pow he⟩
        · walk_at "go"
          exact hN _ _ ⟨t2, r5, _, rfl, x1.trans (x16.toB.trans x68), hB8, p2.ex x68, vb_pow he⟩
    · intro N hN
      walk_at "go"
      refine ⟨b, c, 900, rfl, hB, by decide, by decide, fun r H1 r0 r1 hB1 x1 => ?_⟩
      walk_at "go"
      exact hN _ _ ⟨r.toNat, by omega, by rw [show ((r.toNat : Nat) : Int) = r by omega], x1, hB1⟩
end
end PW
/-! ### laws with lambdas: the table grows, all else stays -/
namespace PW
open PySem PySem.Spec PyProof.Rows L2
open LamX (Tabs TabS CodeO ExtN TabB)
/-- the name of the law's lambdas' code, by its table -/
def TbL (Pt : Addr) : List (Addr × Str) := [(Pt, (envOfC "law" (defScope s_law) 0 0 .none).qual ++ "<lambda>")]
def spLawS (K : PySem.W.Frag) (Pt : Addr) : Sp := fun vs H Q _ => ∃ (a : Addr) (ns : List Int), vs = [.ref a] ∧ SqL K H a (ns.map V.int) ∧ ns.length ≤ 63 ∧ H Pt = some (.tbl #[]) ∧ ∀ H', Q (.bl true) H'
/-- the bag stands, the table too (told of the heap without the bag) -/
structure BT (Pt : Addr) (H : Hp) (b c : Addr) : Prop where
  bag : BagAt H b c
  tab : Tabs (TbL Pt) (hide H b)
theorem exb_hides {b : Addr} {H H' : Hp} (x : ExB b H H') : Ex (PW.hide H b) (PW.hide H' b) := fun a o h => by
  have na : a ≠ b := fun z => by
    rw [z, hide_same] at h
    cases h
  rw [hide_ne na] at h ⊢
  exact x a o na h
theorem BT.pull {Pt b c : Addr} {H H' : Hp} (t : BT Pt H b c) (hB : BagAt H' b c) (x : ExB b H H') : BT Pt H' b c := ⟨hB, t.tab.ext (exb_hides x)⟩
theorem BT.ex {Pt b c : Addr} {H H' : Hp} (t : BT Pt H b c) (x : Ex H H') : BT Pt H' b c := ⟨t.bag.grow x, t.tab.ext (x.hides b)⟩
theorem BT.tabs {Pt b c : Addr} {H : Hp} (t : BT Pt H b c) : Tabs (TbL Pt) H := t.tab.ext (Ex.hide H b)
theorem tabs_hide {T : List (Addr × Str)} {H : Hp} {b : Addr} {xs : List V} (hb : H b = some (.lst xs)) (t : Tabs T H) : Tabs T (hide H b) := fun p hp => by
  obtain ⟨ps, h1, h2, h3⟩ := t p hp
  have n1 : p.1 ≠ b := fun z => by
    rw [z, hb] at h1
    cases h1
  refine ⟨ps, (hide_ne n1).trans h1, h2, fun pos cv e => ?_⟩
  obtain ⟨c, e1, e2⟩ := h3 pos cv e
  have n2 : c ≠ b := fun z => by
    rw [z, hb] at e2
    have e3 : HO.lst xs = CodeO b p.2 := Option.some.inj e2
    cases e3
  exact ⟨c, e1, (hide_ne n2).trans e2⟩
theorem BT.lam {Pt b c : Addr} {H H1 : Hp} (t : BT Pt H b c) (x : ExtN H H1) (ht : Tabs (TbL Pt) H1) : BT Pt H1 b c := by
  obtain ⟨cells, i, g, s, h1, h2, _⟩ := t.bag.ex
  have k1 := x _ _ h1 (fun ps z => by cases z)
  have k2 := x _ _ h2 (fun ps z => by cases z)
  refine ⟨t.bag.keep (fun o q => ?_) (fun o q => ?_), tabs_hide k1 ht⟩
  · rw [h1] at q
    injection q with q
    subst q
    exact k1
  · rw [h2] at q
    injection q with q
    subst q
    exact k2
theorem BT.first {Pt b c : Addr} {H H1 : Hp} (hP : H Pt = some (.tbl #[])) (x : ∀ a o, H a = some o → H1 a = some o) (hB : BagAt H1 b c) : BT Pt H1 b c := by
  obtain ⟨cells, i, g, s, h1, _⟩ := hB.ex
  refine ⟨hB, tabs_hide h1 fun p hp => ?_⟩
  rcases List.mem_cons.mp hp with rfl | hp
  · exact TabS.nil (x _ _ hP)
  · exact nomatch hp
theorem ExtN.tup {K : PySem.W.Frag} {H H' : Hp} {p : Addr} {xs : List V} (e : ExtN H H') (h : SqT K H p xs) : SqT K H' p xs := by
  rcases h with (h | ⟨o, h⟩) | h
  · exact .inl (.inl (e _ _ h (fun _ z => by cases z)))
  · exact .inl (.inr ⟨o, e _ _ h (fun _ z => by cases z)⟩)
  · exact .inr h
end PW
namespace PW
open PySem PySem.Spec PyProof.Rows L2
open LamX (Tabs TabS CodeO ExtN TabB)
theorem IsT.extN {K : PySem.W.Frag} {cap : Sz} {H H' : Hp} (x : ExtN H H') : ∀ {d : Nat} {S : Sz} {a : Addr} {v : Int}, IsT K cap H d S a v → IsT K cap H' d S a v
  | 0, _, _, _, h => h.elim
  | d + 1, S, a, v, h => by
    obtain ⟨dx, low, p, share, xs, rows, h1, h2, h3, h4⟩ := h
    refine ⟨dx, low, p, share, xs, rows, x _ _ h1 (fun _ z => by cases z), ExtN.tup x h2, L2.Paired.mapP h3 fun y q hq => ?_, h4⟩
    obtain ⟨t, r, e, k1, k2⟩ := hq
    exact ⟨t, r, e, ExtN.tup x k1, IsT.extN x k2⟩
/-- a value that is no number, as the laws draw it -/
inductive OddV (K : PySem.W.Frag) (H : Hp) : V → Prop where
  | flat {x : V} (h : x = .non ∨ (∃ z, x = .str z) ∨ ∃ b, x = .bl b) : OddV K H x
  | tup {p : Addr} {xs : List V} (h : H p = some (.tup xs)) (hl : xs.length ≤ 100000) (hf : ∀ v ∈ xs, flatV v = true) : OddV K H (.ref p)
  | lst {p : Addr} {xs : List V} (h : H p = some (.lst xs)) (hl : xs.length ≤ 100000) (hf : ∀ v ∈ xs, flatV v = true) : OddV K H (.ref p)
  | num {p t : Addr} {c : Sz} {d : Nat} {S : Sz} {v : Int} (h : H p = some (.lst [.ref t])) (hc : CapOk c) (hd : d ≤ 2) (ht : IsT K c H d S t v) (hS : S.Le LIM) : OddV K H (.ref p)
theorem OddV.ex {K : PySem.W.Frag} {H H' : Hp} {x : V} (e : Ex H H') (h : OddV K H x) : OddV K H' x := by
  cases h with
  | flat h => exact .flat h
  | tup h hl hf => exact .tup (e _ _ h) hl hf
  | lst h hl hf => exact .lst (e _ _ h) hl hf
  | num h hc hd ht hS => exact .num (e _ _ h) hc hd (ht.ex e) hS
theorem OddV.extN {K : PySem.W.Frag} {H H' : Hp} {x : V} (e : ExtN H H') (h : OddV K H x) : OddV K H' x := by
  cases h with
  | flat h => exact .flat h
  | tup h hl hf => exact .tup (e _ _ h (fun _ z => by cases z)) hl hf
  | lst h hl hf => exact .lst (e _ _ h (fun _ z => by cases z)) hl hf
  | num h hc hd ht hS => exact .num (e _ _ h (fun _ z => by cases z)) hc hd (ht.extN e) hS
theorem OddV.pull {K : PySem.W.Frag} {H H' : Hp} {x : V} {b c : Addr} (h : OddV K H x) (hB : BagAt H b c) (n : x ≠ .ref b) (e : ExB b H H') : OddV K H' x := by
  obtain ⟨cells, i, g, s, hb, _⟩ := hB.ex
  refine OddV.ex (Ex.hide H' b) (OddV.ex e.hides ?_)
  have np : ∀ {p : Addr}, V.ref p ≠ .ref b → p ≠ b := fun h z => h (by rw [z])
  cases h with
  | flat h => exact .flat h
  | tup h hl hf => exact .tup ((hide_ne (np n)).trans h) hl hf
  | lst h hl hf => exact .lst ((hide_ne (np n)).trans h) hl hf
  | num h hc hd ht hS => exact .num ((hide_ne (np n)).trans h) hc hd (ht.hideL hb) hS
theorem OddV.exB0 {K : PySem.W.Frag} {H H' : Hp} {x : V} {b : Addr} (e : Ex (hide H b) (hide H' b)) (h : OddV K (hide H b) x) : OddV K H' x := (h.ex e).ex (Ex.hide H' b)
theorem OddV.wh {K : PySem.W.Frag} {H : Hp} {x : V} (h : OddV K H x) : Wh K H x false false := by
  cases h with
  | flat h =>
    rcases h with rfl | ⟨z, rfl⟩ | ⟨b, rfl⟩
    · exact .other (.base .non) (by decide)
    · exact .other (.base (.str z)) (by decide)
    · exact .other (.base (.bl b)) (by decide)
  | tup h _ _ => exact .other (.base (.tup h)) (by decide)
  | lst h _ _ => exact .other (.base (.lst h)) (by decide)
  | num h _ _ _ _ => exact .other (.base (.lst h)) (by decide)
theorem OddV.sm {K : PySem.W.Frag} {H : Hp} {x : V} (h : OddV K H x) : SmT K 2 1 H x x := by
  cases h with
  | flat h =>
    rcases h with rfl | ⟨z, rfl⟩ | ⟨b, rfl⟩
    · exact SmT.flat rfl
    · exact SmT.flat rfl
    · exact SmT.flat rfl
  | tup h hl hf => exact SmT.tups h h hl (prd_flats hf)
  | lst h hl hf => exact SmT.lsts h h hl (prd_flats hf)
  | num h hc hd ht hS => exact SmT.lsts h h (by show 1 ≤ 100000; decide) (.cons (SmT.leaf (.inr ⟨_, _, _, _, _, _, _, rfl, rfl, hc, hd, ht, ht, hS, hS⟩)) .nil)
end PW
/-! ### _law_divided_down -/
namespace PW
open PySem PySem.Spec PyProof.Rows L2
def c5 : Sz := ⟨200, 0, 0⟩
theorem hc5 : CapOk c5 := ⟨by decide, by decide, by decide⟩
def dS (i : Nat) : Sz := ⟨266 + 1000 * i, 1, 10 * i⟩
theorem dS_lim {i : Nat} (h : i ≤ 40) : (dS i).Le LIM := ⟨by show 266 + 1000 * i ≤ 4000000; omega, by show 1 ≤ 1200; decide, by show 10 * i ≤ 1200; omega⟩
theorem dS_lim2 {i : Nat} (h : i < 40) : (divSz (dS i)).Le LIM := ⟨by show 266 + 1000 * i + 2 * (10 * i) + 12 ≤ 4000000; omega, by show 1 ≤ 1200; decide, by show 10 * i + 10 ≤ 1200; omega⟩
theorem dS_div {i : Nat} (h : i < 40) : (divSz (dS i)).Le (dS (i + 1)) := ⟨by show 266 + 1000 * i + 2 * (10 * i) + 12 ≤ 266 + 1000 * (i + 1); omega, Nat.le_refl _, by show 10 * i + 10 ≤ 10 * (i + 1); omega⟩
def spDown : Sp := fun vs H Q _ => ∃ b c, vs = [.ref b] ∧ BagAt H b c ∧ ∀ H', BagAt H' b c → ExB b H H' → Q (.bl true) H'
theorem div05 {v : V} {p : Int} (hp : 0 ≤ p ∧ p < 1000) (h : v ∈ [V.int 512, .int 1000, .int 512, .int (1 + p)]) : ∃ m : Nat, v = .int (m : Nat) ∧ 1 ≤ m ∧ m ≤ 1000 := by
  simp only [List.mem_cons, List.not_mem_nil, or_false] at h
  rcases h with rfl | rfl | rfl | rfl
  · exact ⟨512, rfl, by decide, by decide⟩
  · exact ⟨1000, rfl, by decide, by decide⟩
  · exact ⟨512, rfl, by decide, by decide⟩
  · exact ⟨(1 + p).toNat, congrArg V.int (by omega), by omega, by omega⟩
theorem small_nn {v : Int} (h : 0 ≤ v) : smallV v = if v < 2 ^ Int.toNat 64 then V.int v else V.non := by
  have e64 : (2 : Int) ^ Int.toNat 64 = 18446744073709551616 := by decide
  have e64n : (2 : Nat) ^ 64 = 18446744073709551616 := by decide
  unfold smallV
  rw [e64, e64n]
  by_cases q : v < 18446744073709551616
  · rw [if_pos q, if_pos (by omega)]
  · rw [if_neg q, if_neg (by omega)]
section
variable {P : Program} {w : World} {K : PySem.W.Frag} {mg : Str → Option Value} {base : Heap}
theorem ok__law_divided_down {k : Nat} (T : Txt K mg)
    (G__law_pull : FnOk P w K mg base CX0 k (He.ga K "_law_pull") (fdOf K (He.ga K "_law_pull")) p__law_pull (spPull))
    (G__law_of : FnOk P w K mg base CX0 k (He.ga K "_law_of") (fdOf K (He.ga K "_law_of")) p__law_of (spOf K))
    (G__law_same : FnOk P w K mg base CX0 k (He.ga K "_law_same") (fdOf K (He.ga K "_law_same")) p__law_same (spSameT K 2 2))
    (G_Tower_power : FnOk P w K mg base CX0 k (sgA "Tower" "power" K) (fdOf K (sgA "Tower" "power" K)) p_Tower_power (anyC 2 (spPower K)))
    (G_Tower_small : FnOk P w K mg base CX0 k (He.ma K (He.ga K "Tower") "small") (fdOf K (He.fAd K ("Tower", some "small"))) p_Tower_small (spSmall K))
    (G_Tower___mod__ : FnOk P w K mg base CX0 k (He.ma K (He.ga K "Tower") "__mod__") (fdOf K (He.fAd K ("Tower", some "__mod__"))) p_Tower___mod__ (anyC 2 (spMod K)))
    (G_Tower___floordiv__ : FnOk P w K mg base CX0 k (He.ma K (He.ga K "Tower") "__floordiv__") (fdOf K (He.fAd K ("Tower", some "__floordiv__"))) p_Tower___floordiv__ (anyC 2 (spDiv K))) : FnOk P w K mg base CX0 (k + 1) (He.ga K "_law_divided_down") (fdOf K (He.ga K "_law_divided_down")) p__law_divided_down (spDown) := by
  refine FunD.ok T.d__law_divided_down sc__law_divided_down (fun vs H Q E h => ?_) (fun cdv A outer s H vs Q E hr h => ?_)
  · obtain ⟨b, c, rfl, _⟩ := h
    rfl
  · obtain ⟨b, c, rfl, hB0, hQ⟩ := h
    refine ⟨_, PSs.nox ((pss_cons (ps_set (i := 1) sc__law_divided_down.nd rfl (Or.inl rfl) (pe_op op_add pe_int (pe_call G__law_pull hr rfl T.g__law_pull T.d__law_pull.kp (b__law_pull T) .nil pass0 (pa_cons (pv 0) (pa_cons pe_int pa_nil)))))
    (pss_cons (ps_par (i := 2) (j := 3) (by rfl) sc__law_divided_down.nd rfl rfl (by decide) rfl rfl (pa_cons (PW.pe_smeth (pe_glob (v := .ref _) rfl T.g_Tower rfl) T.sm_Tower_power G_Tower_power hr (b_Tower_power T) pass0 (pa_cons (pv 1) pa_nil)) (pa_cons pe_int pa_nil)) (by rfl))
    (pss_cons (ps_for PassesOwn.never rfl (pi_range1 rfl T.f_range (pa_cons (pv 1) pa_nil)) (pg_name (i := 4) sc__law_divided_down.nd rfl (Or.inl rfl) (hf := by first | exact Or.inl rfl | exact Or.inr rfl))
      (pss_one (ps_set (i := 3) sc__law_divided_down.nd rfl (Or.inl rfl) (pe_op op_mulX (pv 3) pe_int))))
    (pss_cons (ps_for PassesOwn.never rfl (pi_range1 rfl T.f_range (pa_cons pe_int pa_nil)) (pg_name (i := 4) sc__law_divided_down.nd rfl (Or.inl rfl) (hf := by first | exact Or.inl rfl | exact Or.inr rfl))
      (pss_cons (ps_set (i := 5) sc__law_divided_down.nd rfl (Or.inl rfl) (pe_call G__law_of hr rfl T.g__law_of T.d__law_of.kp (b__law_of T) .nil pass0 (pa_cons (pv 0) (pa_cons (pe_lst (pa_cons pe_int (pa_cons pe_int (pa_cons pe_int (pa_cons (pe_op op_add pe_int (pe_call G__law_pull hr rfl T.g__law_pull T.d__law_pull.kp (b__law_pull T) .nil pass0 (pa_cons (pv 0) (pa_cons pe_int pa_nil)))) pa_nil))))) pa_nil))))
        (pss_cons (ps_par (i := 2) (j := 3) (by rfl) sc__law_divided_down.nd rfl rfl (by decide) rfl rfl (pa_cons (pe_op (PW.op_ownB T.o_Tower___floordiv__ G_Tower___floordiv__ hr (b_Tower___floordiv__ T) pass0) (pv 2) (pv 5)) (pa_cons (pe_op op_fdivW (pv 3) (pv 5)) pa_nil)) (by rfl))
        (pss_one (ps_if (pt_not (pt_val (pe_call G__law_same hr rfl T.g__law_same T.d__law_same.kp (b__law_same T) .nil pass0 (pa_cons (pe_lst (pa_cons (pe_meth0 (pv 2) T.k_Tower T.m_Tower_small G_Tower_small hr (b_Tower_small T) .nil pass0) (pa_cons (pe_op (PW.op_ownB T.o_Tower___mod__ G_Tower___mod__ hr (b_Tower___mod__ T) pass0) (pv 2) pe_int) pa_nil))) (pa_cons (pe_lst (pa_cons (pe_ifExp (pt_cmpR op_lt (pv 3) (pe_op op_pow pe_int pe_int) (nomark _)) (pv 3) pe_non) (pa_cons (pe_op op_mod (pe_callTy call_intN (by rfl) T.f_int (by decide +kernel) (pa_cons (pv 3) pa_nil)) pe_int) pa_nil))) pa_nil)))))
          (pss_one (ps_ret pe_bl))
          pss_nil)))))
    (pss_one (ps_ret pe_bl))))))), ?_⟩
    show tSeq _ _ _ [some (V.ref b), none, none, none, none, none] H
    walk_at "K"
    walk_at "go"
    refine ⟨b, c, 60, rfl, hB0, by decide, by decide, fun p H1 p0 p1 hB1 x1 => ?_⟩
    obtain ⟨n, hn, hn1, hn2⟩ : ∃ n : Nat, 257 + p = (n : Nat) ∧ 257 ≤ n ∧ n < 317 := ⟨(257 + p).toNat, by omega, by omega, by omega⟩
    walk_at "go"
    rw [hn]
    walk_at "go"
    refine ⟨c5, 1, hc5, by decide, .int (n : Nat), _, (n : Nat), rfl, NumV.int (by decide), ?_, fun r0 H2 x2 h2 => ?_⟩
    · have : bt ((n : Nat) : Int) ≤ 9 := bt_le.mpr (by omega)
      exact ⟨by show bt _ ≤ 200; omega, Nat.zero_le _, Nat.zero_le _⟩
    rw [pw2_nat] at h2
    have hB2 := hB1.grow x2
    have x02 := x1.trans x2.toB
    walk_at "go"
    refine r_forP (fun σ' H' => H' = H2 ∧ ∃ k, σ' = [some (V.ref b), some (.int (n : Nat)), some (.ref r0), some (.int (2 ^ n)), k, none]) ?_ ?_
    · rintro σ' H2' ⟨rfl, k, rfl⟩
      walk_at "go"
      obtain ⟨xs, hb⟩ := hB2.lst
      have h2' := h2.hideL hb
      refine r_forP (fun σ' H3 => BagAt H3 b c ∧ ExB b H H3) ?_ ?_
      · rintro σ' H3 ⟨hB3, x3⟩
        walk_at "go"
        exact hQ H3 hB3 x3
      · intro N hN
        refine for_it walk_range (fun i σ H' => ∃ (r : Addr) (v : Int) (k d : Option V), σ = [some (V.ref b), some (.int (n : Nat)), some (.ref r), some (.int v), k, d] ∧ BagAt H' b c ∧ ExB b H2' H' ∧ IsT K c5 (PW.hide H' b) 2 (dS i) r v ∧ 0 ≤ v ∧ v.natAbs < 2 ^ 320) ?_ (fun _ _ _ _ _ => trivial) ?_ ?_
        · refine ⟨r0, 2 ^ n, k, none, rfl, hB2, ExB.refl, h2'.mono ⟨by decide, by decide, by decide⟩, Int.le_of_lt (Int.pow_pos (by decide)), ?_⟩
          rw [two_nat]
          exact Nat.pow_lt_pow_right (by decide) (by omega)
        · rintro i x σ H3 H3' hi ⟨r, v, k, d, rfl, hB3, x3, h3, v0, v1⟩ ⟨rfl, rfl⟩
          walk_at "go"
          refine ⟨b, c, 1000, rfl, hB3, by decide, by decide, fun q H4 q0 q1 hB4 x4 => ?_⟩
          walk_at "go"
          intro m hm
          walk_at "go"
          refine ⟨b, c, .ref m, _, rfl, hB4.new hm, Or.inl ⟨m, rfl, (hB4.ne hm).1.symm, Or.inl upd_same⟩, by walk_at "len", by walk_at "len", fun v5 H5 hv5 hB5 x5 => ?_⟩
          obtain ⟨m2, rfl, m1, m1000⟩ := div05 ⟨q0, q1⟩ hv5
          have x35 := (x4.trans (Ex.new (o := .lst [V.int 512, .int 1000, .int 512, .int (1 + q)]) hm).toB).trans x5
          have h5 := h3.ex x35.hides
          have cd : CDivW v (m2 : Int) := cdN (by omega) (Nat.lt_of_le_of_lt (show m2 ≤ 2 ^ 10 by omega) (Nat.pow_lt_pow_right (by decide) (by decide)))
          have x25 := x3.trans x35
          clear x4 x5 hv5 hm x35
          walk_at "go"
          refine rOwn_num (u := (m2 : Int)) rfl (h5.ex (Ex.hide _ _)) (NumV.int (d := 2) (by decide)) ?_
          refine ⟨c5, 2, hc5, by decide, r, dS i, v, m2, rfl, h5.ex (Ex.hide _ _), dS_lim (by omega), m1, m1000, by show 10 + 10 * i + 2 * 0 ≤ 8800; omega, fun r2 H6 x6 h6 => ?_⟩
          have hv2 : (v / (m2 : Int)).natAbs < 2 ^ 320 := Nat.lt_of_le_of_lt (Int.natAbs_ediv_le_natAbs v (m2 : Int)) v1
          have hv0 : 0 ≤ v / (m2 : Int) := Int.ediv_nonneg v0 (by omega)
          have hB6 := hB5.grow x6
          have x26 := x25.trans x6.toB
          obtain ⟨xs6, hb6⟩ := hB6.lst
          have h6' := (h6.mono (dS_div (i := i) (by omega))).hideL hb6
          obtain ⟨dx, fl, fp, fs, hri⟩ := h6.ins'
          walk_at "go"
          refine ⟨c5, r2, 2, _, v / (m2 : Int), rfl, h6, fun H7 x7 => ?_⟩
          have hsm := small_nn hv0
          generalize smallV (v / (m2 : Int)) = xv at hsm ⊢
          walk_at "go"
          refine rOwn_num (u := 997) rfl (h6.ex x7) (NumV.int (d := 2) (by decide)) ?_
          refine ⟨c5, 2, hc5, by decide, r2, _, v / (m2 : Int), 997, rfl, h6.ex x7, dS_lim2 (by omega), by decide, by decide, by show 10 + (10 * i + 10) + 2 * 0 ≤ 8800; omega, fun H8 x8 => ?_⟩
          walk_at "go"
          intro p1 hp1
          walk_at "go"
          have fin : ∀ (x : V) (p2 : Addr), flatV x = true → (L2.upd H8 p1 (.lst [x, .int (v / (m2 : Int) % ((997 : Nat) : Int))])) p2 = none → SmT K 2 2 (L2.upd (L2.upd H8 p1 (.lst [x, .int (v / (m2 : Int) % ((997 : Nat) : Int))])) p2 (.lst [x, .int (v / (m2 : Int) % ((997 : Nat) : Int))])) (.ref p1) (.ref p2) := fun x p2 hx hp2 =>
            SmT.lsts ((upd_ne (ne_of_none upd_same hp2)).trans upd_same) upd_same (by show 2 ≤ 100000; decide) (prd_flats (fun v hv => by
              simp only [List.mem_cons, List.not_mem_nil, or_false] at hv
              rcases hv with rfl | rfl
              · exact hx
              · rfl))
          have done : ∀ (x : V) (p2 : Addr) (H' : Hp), (L2.upd H8 p1 (.lst [x, .int (v / (m2 : Int) % ((997 : Nat) : Int))])) p2 = none → Ex (L2.upd (L2.upd H8 p1 (.lst [x, .int (v / (m2 : Int) % ((997 : Nat) : Int))])) p2 (.lst [x, .int (v / (m2 : Int) % ((997 : Nat) : Int))])) H' → Ex H6 H' := fun x p2 H' hp2 xl => (((x7.trans x8).trans (Ex.new hp1)).trans (Ex.new hp2)).trans xl
          by_cases hs : v / (m2 : Int) < 2 ^ Int.toNat 64
          · rw [decide_eq_true hs]
            rw [if_pos hs] at hsm
            subst hsm
            walk_at "go"
            intro p2 hp2
            walk_at "go"
            refine ⟨_, _, rfl, fin _ p2 rfl hp2, fun H9 x9 => ?_⟩
            have xl := done _ p2 H9 hp2 x9
            walk_at "go"
            exact ⟨r2, _, some (.int (0 + (i : Nat))), _, rfl, hB6.grow xl, x26.trans xl.toB, h6'.ex (Ex.hides xl b), hv0, hv2⟩
          · rw [decide_eq_false hs]
            rw [if_neg hs] at hsm
            subst hsm
            walk_at "go"
            intro p2 hp2
            walk_at "go"
            refine ⟨_, _, rfl, fin _ p2 rfl hp2, fun H9 x9 => ?_⟩
            have xl := done _ p2 H9 hp2 x9
            walk_at "go"
            exact ⟨r2, _, some (.int (0 + (i : Nat))), _, rfl, hB6.grow xl, x26.trans xl.toB, h6'.ex (Ex.hides xl b), hv0, hv2⟩
        · rintro σ H' ⟨r, v, k, d, rfl, hB3, x3, _⟩
          exact hN _ _ ⟨hB3, x02.trans x3⟩
    · intro N hN
      refine for_it walk_range (fun i σ H' => H' = H2 ∧ ∃ k, σ = [some (V.ref b), some (.int (n : Nat)), some (.ref r0), some (.int (2 ^ i)), k, none]) ⟨rfl, none, rfl⟩ (fun _ _ _ _ _ => trivial) ?_ ?_
      · rintro i x σ H1 H1' hi ⟨rfl, k, rfl⟩ ⟨rfl, rfl⟩
        have cm : CMulX (2 ^ i) 2 := mulx_ok (a := i + 1) (b := 2) (by rw [two_nat]; exact Nat.pow_lt_pow_right (by decide) (by omega)) (by decide) (by omega)
        walk_at "go"
        refine ⟨rfl, some (.int (0 + (i : Nat))), ?_⟩
        rw [← Int.pow_succ]
      · rintro σ H' ⟨rfl, k, rfl⟩
        exact hN _ _ ⟨rfl, k, rfl⟩
end
end PW
/-! ### words of the laws of numbers -/
namespace PW
open PySem PySem.Spec PyProof.Rows L2
/-- what _law_is asks of a number and a value -/
def NumIs (K : PySem.W.Frag) (cap : Sz) (d : Nat) (H : Hp) (x y : V) : Prop := ∃ a S v, x = .ref a ∧ y = .int v ∧ IsT K cap H d S a v ∧ S.Le LIM ∧ v.natAbs < 2 ^ 100000
theorem NumIs.ex {K : PySem.W.Frag} {cap : Sz} {d : Nat} {H H' : Hp} {x y : V} (e : Ex H H') (h : NumIs K cap d H x y) : NumIs K cap d H' x y := by
  obtain ⟨a, S, v, h1, h2, h3, h4⟩ := h
  exact ⟨a, S, v, h1, h2, h3.ex e, h4⟩
theorem nis {K : PySem.W.Frag} {cap : Sz} {d : Nat} {H H' : Hp} {a : Addr} {S : Sz} {v u : Int} (h : IsT K cap H d S a v) (x : Ex H H') (hS : S.Le LIM) (e : v = u) (hv : v.natAbs < 2 ^ 2000) : NumIs K cap d H' (.ref a) (.int u) := by
  subst e
  exact ⟨a, S, v, rfl, rfl, h.ex x, hS, Nat.lt_trans hv (Nat.pow_lt_pow_right (by decide) (by decide))⟩
theorem rOwnR_num {K : PySem.W.Frag} {cap : Sz} {C a : Addr} {i : Int} {d : Nat} {S : Sz} {v : Int} {sp : Sp} {E : XK} {H : Hp} {Q : VK} (hC : C = TwC K) (ha : IsT K cap H d S a v) (q : sp [.ref a, .int i] H Q E) : rOwnR C sp E (.int i) (.ref a) H Q := by
  subst hC
  obtain ⟨dx, fs, h⟩ := ha.ins
  exact ⟨i, a, dx, fs, rfl, rfl, h, q⟩
theorem rOwnU_num {K : PySem.W.Frag} {cap : Sz} {C a : Addr} {d : Nat} {S : Sz} {v : Int} {sp : Sp} {E : XK} {H : Hp} {Q : VK} (hC : C = TwC K) (ha : IsT K cap H d S a v) (q : sp [.ref a] H Q E) : rOwnU C sp E (.ref a) H Q := by
  subst hC
  obtain ⟨dx, fs, h⟩ := ha.ins
  exact ⟨a, dx, fs, rfl, h, q⟩
theorem cOwnAbs_num {K : PySem.W.Frag} {cap : Sz} {C a : Addr} {d : Nat} {S : Sz} {v : Int} {sp : Sp} {E : XK} {H : Hp} {Q : VK} (hC : C = TwC K) (ha : IsT K cap H d S a v) (q : sp [.ref a] H Q E) : cOwnAbs C sp E [.ref a] H Q := by
  subst hC
  obtain ⟨dx, fs, h⟩ := ha.ins
  exact ⟨a, dx, fs, rfl, h, q⟩
def spLawT (K : PySem.W.Frag) : Sp := fun vs H Q _ => ∃ (a : Addr) (ns : List Int), vs = [.ref a] ∧ SqL K H a (ns.map V.int) ∧ ns.length ≤ 63 ∧ ∀ H', Q (.bl true) H'
theorem lm4 : (mb 4).Le LIM := mb_lim (by decide)
theorem lm44 : (totSz (mb 4) (mb 4) 0).Le LIM := ⟨by decide, by decide, by decide⟩
theorem lm444 : (totSz (totSz (mb 4) (mb 4) 0) (mb 4) 0).Le LIM := ⟨by decide, by decide, by decide⟩
theorem lmZ4 : (totSz Z0 (mb 4) 0).Le LIM := ⟨by decide, by decide, by decide⟩
theorem lmZ44 : (totSz Z0 (totSz (mb 4) (mb 4) 0) 0).Le LIM := ⟨by decide, by decide, by decide⟩
theorem lm5 : (mb 5).Le LIM := mb_lim (by decide)
theorem sz_trans {a b c : Sz} (h : a.Le b) (g : b.Le c) : a.Le c := ⟨Nat.le_trans h.z g.z, Nat.le_trans h.n g.n, Nat.le_trans h.s g.s⟩
theorem vs2 {v u : Int} (h : v.natAbs < 2 ^ 940) (g : u.natAbs < 2 ^ 940) : (v + u).natAbs < 2 ^ 2000 ∧ (v - u).natAbs < 2 ^ 2000 := by
  have p : (2 : Nat) ^ 940 * 2 ≤ 2 ^ 2000 := by
    rw [← Nat.pow_succ]
    exact Nat.pow_le_pow_right (by decide) (by decide)
  generalize (2 : Nat) ^ 2000 = Y at p
  generalize (2 : Nat) ^ 940 = X at h g p
  omega
theorem v940 {z : Int} (h : z.natAbs < 2 ^ 910) : z.natAbs < 2 ^ 940 := Nat.lt_trans h (Nat.pow_lt_pow_right (by decide) (by decide))
theorem v2000 {z : Int} (h : z.natAbs < 2 ^ 940) : z.natAbs < 2 ^ 2000 := Nat.lt_trans h (Nat.pow_lt_pow_right (by decide) (by decide))
theorem lim2000 {z : Int} (h : z.natAbs < 2 ^ 2000) : Sz.Le ⟨bt z, 0, 0⟩ LIM := ⟨by
  have := bt_le.mpr h
  show bt z ≤ 4000000
  omega, Nat.zero_le _, Nat.zero_le _⟩
structure One (K : PySem.W.Frag) (cap : Sz) (H : Hp) (t1 r1 : Addr) (v1 : Int) : Prop where
  t1 : SqT K H t1 [.ref r1, .int v1]
  k1 : IsT K cap H 2 (mb 4) r1 v1
theorem One.ex {K : PySem.W.Frag} {cap : Sz} {H H' : Hp} {t1 r1 : Addr} {v1 : Int} (x : Ex H H') (e : One K cap H t1 r1 v1) : One K cap H' t1 r1 v1 := ⟨x.tup e.t1, e.k1.ex x⟩
theorem log20 {m : Int} (h0 : 0 ≤ m) (h : m < 2 ^ 200) : m.natAbs.log2 < 9000 := by
  have h2 : m.natAbs < 2 ^ 200 := by omega
  exact Nat.lt_trans (PySem.Flt.log2_lt_of (by decide) h2) (by decide)
theorem bitsmul {v f : Int} {a b : Nat} (h : v.natAbs < 2 ^ a) (g : f.natAbs ≤ 2 ^ b) : (v * f).natAbs < 2 ^ (a + b) := by
  rw [Int.natAbs_mul, Nat.pow_add]
  have hb : 0 < 2 ^ b := Nat.pow_pos (by decide)
  exact Nat.lt_of_le_of_lt (Nat.mul_le_mul_left _ g) ((Nat.mul_lt_mul_right hb).mpr h)
theorem cm2000 {v f : Int} {b : Nat} (h : v.natAbs < 2 ^ 2000) (g : f.natAbs ≤ 2 ^ b) (hb : b ≤ 2000) : CMulX v f := mulx_ok (a := 2000) (b := b + 1) h (Nat.lt_of_le_of_lt g (Nat.pow_lt_pow_right (by decide) (Nat.lt_succ_self b))) (by omega)
end PW
/-! ### law k05 -/
namespace PW
open PySem PySem.Spec PyProof.Rows L2
/-- the pair of a number and its value -/
structure One5 (K : PySem.W.Frag) (H : Hp) (t1 r1 : Addr) (v1 : Int) : Prop where
  t1 : SqT K H t1 [.ref r1, .int v1]
  k1 : IsT K c5 H 2 (mb 4) r1 v1
theorem One5.ex {K : PySem.W.Frag} {H H' : Hp} {t1 r1 : Addr} {v1 : Int} (x : Ex H H') (e : One5 K H t1 r1 v1) : One5 K H' t1 r1 v1 := ⟨x.tup e.t1, e.k1.ex x⟩
theorem One5.extN {K : PySem.W.Frag} {H H' : Hp} {t1 r1 : Addr} {v1 : Int} (x : LamX.ExtN H H') (e : One5 K H t1 r1 v1) : One5 K H' t1 r1 v1 := ⟨ExtN.tup x e.t1, e.k1.extN x⟩
theorem One5.pull {K : PySem.W.Frag} {H H' : Hp} {b c t1 r1 : Addr} {v1 : Int} (hB : BagAt H b c) (x : ExB b H H') (e : One5 K H t1 r1 v1) : One5 K H' t1 r1 v1 := by
  obtain ⟨xs, hb⟩ := hB.lst
  exact ⟨(Ex.hide H' b).tup (x.hides.tup (SqT.hideL hb e.t1)), ((e.k1.hideL hb).ex x.hides).ex (Ex.hide H' b)⟩
theorem div5 {v : V} {p q : Int} (hp : 0 ≤ p ∧ p < 64) (hq : 0 ≤ q ∧ q < 1000) (h : v ∈ [V.int 1, .int 2, .int 3, .int (1 + p), .int (1 + q), .int 1000]) : ∃ m : Nat, v = .int (m : Nat) ∧ 1 ≤ m ∧ m ≤ 1000 := by
  simp only [List.mem_cons, List.not_mem_nil, or_false] at h
  rcases h with rfl | rfl | rfl | rfl | rfl | rfl
  · exact ⟨1, rfl, by decide, by decide⟩
  · exact ⟨2, rfl, by decide, by decide⟩
  · exact ⟨3, rfl, by decide, by decide⟩
  · exact ⟨(1 + p).toNat, congrArg V.int (by omega), by omega, by omega⟩
  · exact ⟨(1 + q).toNat, congrArg V.int (by omega), by omega, by omega⟩
  · exact ⟨1000, rfl, by decide, by decide⟩
/-- no divisor, as the law draws it -/
inductive Odd5 (K : PySem.W.Frag) (H : Hp) : V → Prop where
  | int (i : Int) (h : ¬ (1 ≤ i ∧ i ≤ 1000)) : Odd5 K H (.int i)
  | flat {x : V} (h : x = .non ∨ (∃ z, x = .str z) ∨ ∃ b, x = .bl b) : Odd5 K H x
  | num {t : Addr} {S : Sz} {v : Int} (ht : IsT K c5 H 2 S t v) (hS : S.Le LIM) : Odd5 K H (.ref t)
theorem Odd5.ex {K : PySem.W.Frag} {H H' : Hp} {x : V} (e : Ex H H') (h : Odd5 K H x) : Odd5 K H' x := by
  cases h with
  | int i h => exact .int i h
  | flat h => exact .flat h
  | num ht hS => exact .num (ht.ex e) hS
theorem Odd5.extN {K : PySem.W.Frag} {H H' : Hp} {x : V} (e : LamX.ExtN H H') (h : Odd5 K H x) : Odd5 K H' x := by
  cases h with
  | int i h => exact .int i h
  | flat h => exact .flat h
  | num ht hS => exact .num (ht.extN e) hS
theorem Odd5.pull {K : PySem.W.Frag} {H H' : Hp} {b c : Addr} {v : V} (hB : BagAt H b c) (x : ExB b H H') (h : Odd5 K H v) : Odd5 K H' v := by
  obtain ⟨xs, hb⟩ := hB.lst
  cases h with
  | int i h => exact .int i h
  | flat h => exact .flat h
  | num ht hS => exact .num (((ht.hideL hb).ex x.hides).ex (Ex.hide H' b)) hS
theorem Odd5.bad {K : PySem.W.Frag} {H : Hp} {x : V} (h : Odd5 K H x) : BadDiv K H x := by
  cases h with
  | int i h => exact .low i h
  | flat h =>
    rcases h with rfl | ⟨z, rfl⟩ | ⟨b, rfl⟩
    · exact .not (t := false) (.other (.base .non) (by decide))
    · exact .not (t := false) (.other (.base (.str z)) (by decide))
    · exact .not (t := false) (.other (.base (.bl b)) (by decide))
  | num ht hS =>
    obtain ⟨dx, fs, hi⟩ := ht.ins
    exact .not (t := true) (.tw hi)
theorem Odd5.sm {K : PySem.W.Frag} {H : Hp} {x : V} (h : Odd5 K H x) : SmT K 2 1 H x x := by
  cases h with
  | int i h => exact SmT.flat rfl
  | flat h =>
    rcases h with rfl | ⟨z, rfl⟩ | ⟨b, rfl⟩
    · exact SmT.flat rfl
    · exact SmT.flat rfl
    · exact SmT.flat rfl
  | num ht hS => exact SmT.leaf (.inr ⟨_, _, _, _, _, _, _, rfl, rfl, hc5, Nat.le_refl 2, ht, ht, hS, hS⟩)
theorem Odd5.sm0 {K : PySem.W.Frag} {H : Hp} {x : V} (h : Odd5 K H x) : SmT K 2 0 H x x := by
  cases h with
  | int i h => exact SmT.flat rfl
  | flat h =>
    rcases h with rfl | ⟨z, rfl⟩ | ⟨b, rfl⟩
    · exact SmT.flat rfl
    · exact SmT.flat rfl
    · exact SmT.flat rfl
  | num ht hS => exact SmT.leaf (.inr ⟨_, _, _, _, _, _, _, rfl, rfl, hc5, Nat.le_refl 2, ht, ht, hS, hS⟩)
theorem odd5mem {K : PySem.W.Frag} {H : Hp} {t : Addr} {v : V} {p : Int} {S : Sz} {n : Int} (hp : 0 ≤ p ∧ p < 50) (ht : IsT K c5 H 2 S t n) (hS : S.Le LIM) (h : v ∈ [V.int 0, .int (0 - 1 - p), .int (1000 + 1), .int (10 ^ Int.toNat 30), V.non, .str "2", .bl true, .ref t]) : Odd5 K H v := by
  simp only [List.mem_cons, List.not_mem_nil, or_false] at h
  rcases h with rfl | rfl | rfl | rfl | rfl | rfl | rfl | rfl
  · exact .int _ (by omega)
  · exact .int _ (by omega)
  · exact .int _ (by omega)
  · exact .int _ (by decide)
  · exact .flat (.inl rfl)
  · exact .flat (.inr (.inl ⟨_, rfl⟩))
  · exact .flat (.inr (.inr ⟨_, rfl⟩))
  · exact .num ht hS
theorem rOwnBX_odd {K : PySem.W.Frag} {C a : Addr} {y : V} {S : Sz} {v : Int} {sp : Sp} {E : XK} {H : Hp} {Q : VK} (hC : C = TwC K) (ha : IsT K c5 H 2 S a v) (hy : Odd5 K H y) (q : sp [.ref a, y] H Q E) : rOwnBX C sp E (.ref a) y H Q := by
  subst hC
  obtain ⟨dx, fs, h⟩ := ha.ins
  refine ⟨a, dx, fs, rfl, h, ?_, q⟩
  cases hy with
  | int i _ => exact .inl (.inl ⟨i, rfl⟩)
  | flat h =>
    rcases h with rfl | ⟨z, rfl⟩ | ⟨b, rfl⟩
    · exact .inr (.inl rfl)
    · exact .inr (.inr (.inl ⟨z, rfl⟩))
    · exact .inr (.inr (.inr ⟨b, rfl⟩))
  | num ht _ =>
    obtain ⟨dy, gs, h2⟩ := ht.ins
    exact .inl (.inr ⟨_, dy, gs, rfl, h2⟩)
theorem d_lim1 : (divSz (mb 4)).Le LIM := ⟨by decide, by decide, by decide⟩
theorem d_lim2 : (divSz (divSz (mb 4))).Le LIM := ⟨by decide, by decide, by decide⟩
theorem d_limM {m : Nat} (h : m ≤ 20) : (totSz Z0 (divSz (mb 4)) m).Le LIM := ⟨by show 0 + (1000 + 3000 * 4 + 2 * (10 * 4) + 12) + 0 * (10 * 4 + 10) + (1 + 4) * (m + 0) + 0 + (10 * 4 + 10) + m + 1 ≤ 4000000; omega, by show 0 + (1 + 4) ≤ 1200; decide, by show 0 + (10 * 4 + 10) ≤ 1200; decide⟩
theorem d_limS : (totSz (divSz (mb 4)) (mb 4) 0).Le LIM := ⟨by decide, by decide, by decide⟩
theorem d_limR : (totSz Z0 (mb 4) 0).Le LIM := ⟨by decide, by decide, by decide⟩
theorem d_limA {n : Nat} (h : n ≤ 10) : (totSz (totSz Z0 (divSz (mb 4)) 10) ⟨n, 0, 0⟩ 0).Le LIM := by
  refine ⟨?_, by show 0 + (1 + 4) + 0 ≤ 1200; decide, by show 0 + (10 * 4 + 10) + 0 ≤ 1200; decide⟩
  show (0 + (1000 + 3000 * 4 + 2 * (10 * 4) + 12) + 0 * (10 * 4 + 10) + (1 + 4) * (10 + 0) + 0 + (10 * 4 + 10) + 10 + 1) + n + (0 + (1 + 4)) * 0 + 0 * (0 + (0 + (10 * 4 + 10))) + (0 + (10 * 4 + 10)) + 0 + 0 + 1 ≤ 4000000
  omega
theorem div_b {v : Int} {m : Nat} (h : v.natAbs < 2 ^ 940) : (v / (m : Int)).natAbs < 2 ^ 940 := Nat.lt_of_le_of_lt (Int.natAbs_ediv_le_natAbs v (m : Int)) h
theorem sub_b {u v : Int} (hu : u.natAbs < 2 ^ 940) (h : v.natAbs < 2 ^ 940) : (u - v).natAbs < 2 ^ 2000 := by
  have p : (2 : Nat) ^ 940 * 2 ≤ 2 ^ 2000 := by
    rw [← Nat.pow_succ]
    exact Nat.pow_le_pow_right (by decide) (by decide)
  generalize (2 : Nat) ^ 2000 = Y at p
  generalize (2 : Nat) ^ 940 = X at hu h p
  omega
theorem mul_b {u : Int} {m : Nat} (hu : u.natAbs < 2 ^ 940) (hm : m ≤ 1000) : (u * (m : Int)).natAbs < 2 ^ 2000 := by
  have p : (2 : Nat) ^ 940 * 2 ^ 10 ≤ 2 ^ 2000 := by
    rw [← Nat.pow_add]
    exact Nat.pow_le_pow_right (by decide) (by decide)
  rw [Int.natAbs_mul, Int.natAbs_natCast]
  have e : u.natAbs * m ≤ u.natAbs * 1000 := Nat.mul_le_mul_left _ hm
  have e10 : (2 : Nat) ^ 10 = 1024 := by decide
  rw [e10] at p
  generalize (2 : Nat) ^ 2000 = Y at p
  generalize (2 : Nat) ^ 940 = X at hu p
  generalize u.natAbs = a at *
  omega
section
variable {P : Program} {w : World} {K : PySem.W.Frag} {mg : Str → Option Value} {base : Heap}
theorem ok_law05 {k kx : Nat} {Pt : Addr} (hkx : kx + 4 ≤ k) (T : Txt K mg) (TB : LamX.TabB base mg (He.codeOf K ("law", none)) Pt)
    (G__law_bag : FnOk P w K mg base CX0 k (He.ga K "_law_bag") (fdOf K (He.ga K "_law_bag")) p__law_bag (spBag K))
    (G__law_pull : FnOk P w K mg base CX0 k (He.ga K "_law_pull") (fdOf K (He.ga K "_law_pull")) p__law_pull (spPull))
    (G__law_of : FnOk P w K mg base CX0 k (He.ga K "_law_of") (fdOf K (He.ga K "_law_of")) p__law_of (spOf K))
    (G__law_made : FnOk P w K mg base CX0 k (He.ga K "_law_made") (fdOf K (He.ga K "_law_made")) p__law_made (spMade K c5))
    (G__law_is : FnOk P w K mg base CX0 k (He.ga K "_law_is") (fdOf K (He.ga K "_law_is")) p__law_is (spLIs K c5 2))
    (G__law_same : FnOk P w K mg base CX0 k (He.ga K "_law_same") (fdOf K (He.ga K "_law_same")) p__law_same (spSameT K 2 2))
    (G__law_divided_down : FnOk P w K mg base CX0 k (He.ga K "_law_divided_down") (fdOf K (He.ga K "_law_divided_down")) p__law_divided_down (spDown))
    (G__law_whys : FnOk P w K mg base CX0 k (He.ga K "_law_whys") (fdOf K (He.ga K "_law_whys")) p__law_whys (spWhysD P w K mg base kx))
    (G_Tower___add__ : FnOk P w K mg base CX0 k (He.ma K (He.ga K "Tower") "__add__") (fdOf K (He.fAd K ("Tower", some "__add__"))) p_Tower___add__ (anyC 2 (spAdd K)))
    (G_Tower___sub__ : FnOk P w K mg base CX0 k (He.ma K (He.ga K "Tower") "__sub__") (fdOf K (He.fAd K ("Tower", some "__sub__"))) p_Tower___sub__ (anyC 2 (spSub K)))
    (G_Tower___rsub__ : FnOk P w K mg base CX0 k (He.ma K (He.ga K "Tower") "__rsub__") (fdOf K (He.fAd K ("Tower", some "__rsub__"))) p_Tower___rsub__ (anyC 2 (spRsub K)))
    (G_Tower___mul__ : FnOk P w K mg base CX0 k (He.ma K (He.ga K "Tower") "__mul__") (fdOf K (He.fAd K ("Tower", some "__mul__"))) p_Tower___mul__ (anyC 2 (spMul K)))
    (G_Tower___mod__ : FnOk P w K mg base CX0 k (He.ma K (He.ga K "Tower") "__mod__") (fdOf K (He.fAd K ("Tower", some "__mod__"))) p_Tower___mod__ (anyC 2 (spMod K)))
    (G_Tower___floordiv__ : FnOk P w K mg base CX0 k (He.ma K (He.ga K "Tower") "__floordiv__") (fdOf K (He.fAd K ("Tower", some "__floordiv__"))) p_Tower___floordiv__ (anyC 2 (spDiv K)))
    (G_Tower___eq__ : FnOk P w K mg base CX0 k (He.ma K (He.ga K "Tower") "__eq__") (fdOf K (He.fAd K ("Tower", some "__eq__"))) p_Tower___eq__ (anyC 2 (spEq K)))
    (GX_Tower___mod__ : FnOk P w K mg base (L2.CX P w) kx (He.ma K (He.ga K "Tower") "__mod__") (fdOf K (He.fAd K ("Tower", some "__mod__"))) p_Tower___mod__ (spDivX K))
    (GX_Tower___floordiv__ : FnOk P w K mg base (L2.CX P w) kx (He.ma K (He.ga K "Tower") "__floordiv__") (fdOf K (He.fAd K ("Tower", some "__floordiv__"))) p_Tower___floordiv__ (spDivX K))
    {k0 : Nat} (hk0 : k0 + 1 = k) (G_Tower___init__ : FnOk P w K mg base CX0 (k0) (He.ma K (He.ga K "Tower") "__init__") (fdOf K (He.fAd K ("Tower", some "__init__"))) p_Tower___init__ (spInit K)) : FnOk P w K mg base CX0 (k + 1) (He.ga K "law") (fdOf K (He.ga K "law")) p_law (spLawS K Pt) := by
  subst hk0
  refine FunD.okC (p := ("law", none)) T.d_law sc_law (fun vs H Q E h => ?_) (fun A outer s H vs Q E hr h => ?_)
  · obtain ⟨a, ns, rfl, _⟩ := h
    rfl
  · obtain ⟨a, ns, rfl, ha, hl, hP, hQ⟩ := h
    refine ⟨_, PSs.nox ((pss_cons (ps_set (i := 1) sc_law.nd rfl (Or.inl rfl) (pe_call G__law_bag hr rfl T.g__law_bag T.d__law_bag.kp (b__law_bag T) .nil pass0 (pa_cons (pv 0) pa_nil)))
    (pss_cons (ps_for PassesOwn.never rfl (pi_range1 rfl T.f_range (pa_cons pe_int pa_nil)) (pg_name (i := 2) sc_law.nd rfl (Or.inl rfl) (hf := by first | exact Or.inl rfl | exact Or.inr rfl))
      (pss_cons (ps_set (i := 3) sc_law.nd rfl (Or.inr rfl) (pe_call G__law_made hr rfl T.g__law_made T.d__law_made.kp (b__law_made T) .nil pass0 (pa_cons (pv 1) (pa_cons pe_int pa_nil))))
        (pss_cons (ps_set (i := 4) sc_law.nd rfl (Or.inl rfl) (pe_call G__law_of hr rfl T.g__law_of T.d__law_of.kp (b__law_of T) .nil pass0 (pa_cons (pv 1) (pa_cons (pe_lst (pa_cons pe_int (pa_cons pe_int (pa_cons pe_int (pa_cons (pe_op op_add pe_int (pe_call G__law_pull hr rfl T.g__law_pull T.d__law_pull.kp (b__law_pull T) .nil pass0 (pa_cons (pv 1) (pa_cons pe_int pa_nil)))) (pa_cons (pe_op op_add pe_int (pe_call G__law_pull hr rfl T.g__law_pull T.d__law_pull.kp (b__law_pull T) .nil pass0 (pa_cons (pv 1) (pa_cons (pe_gint rfl T.c_MOST_DIVISOR) pa_nil)))) (pa_cons (pe_gint rfl T.c_MOST_DIVISOR) pa_nil))))))) pa_nil))))
        (pss_cons (ps_set (i := 5) sc_law.nd rfl (Or.inl rfl) (pe_op op_add pe_int (pe_call G__law_pull hr rfl T.g__law_pull T.d__law_pull.kp (b__law_pull T) .nil pass0 (pa_cons (pv 1) (pa_cons pe_int pa_nil)))))
        (pss_cons (ps_set (i := 6) sc_law.nd rfl (Or.inl rfl) (pe_lst (pa_cons (pe_op (PW.op_ownB T.o_Tower___floordiv__ G_Tower___floordiv__ hr (b_Tower___floordiv__ T) pass0) (pe_ix ix_seq (pv 3) pe_int (fun _ _ => rfl)) (pv 4)) (pa_cons (pe_op (PW.op_ownB T.o_Tower___floordiv__ G_Tower___floordiv__ hr (b_Tower___floordiv__ T) pass0) (pe_op (PW.op_ownB T.o_Tower___floordiv__ G_Tower___floordiv__ hr (b_Tower___floordiv__ T) pass0) (pe_ix ix_seq (pv 3) pe_int (fun _ _ => rfl)) (pv 5)) (pv 4)) (pa_cons (pe_op (PW.op_ownB T.o_Tower___mul__ G_Tower___mul__ hr (b_Tower___mul__ T) pass0) (pe_op (PW.op_ownB T.o_Tower___floordiv__ G_Tower___floordiv__ hr (b_Tower___floordiv__ T) pass0) (pe_ix ix_seq (pv 3) pe_int (fun _ _ => rfl)) (pv 5)) (pv 5)) (pa_cons (pe_op (PW.op_ownB T.o_Tower___sub__ G_Tower___sub__ hr (b_Tower___sub__ T) pass0) (pe_op (PW.op_ownB T.o_Tower___floordiv__ G_Tower___floordiv__ hr (b_Tower___floordiv__ T) pass0) (pe_ix ix_seq (pv 3) pe_int (fun _ _ => rfl)) (pv 4)) (pe_ix ix_seq (pv 3) pe_int (fun _ _ => rfl))) pa_nil))))))
        (pss_cons (ps_set (i := 7) sc_law.nd rfl (Or.inl rfl) (pe_lst (pa_cons (pe_op op_fdivW (pe_ix ix_seq (pv 3) pe_int (fun _ _ => rfl)) (pv 4)) (pa_cons (pe_op op_fdivW (pe_op op_fdivW (pe_ix ix_seq (pv 3) pe_int (fun _ _ => rfl)) (pv 5)) (pv 4)) (pa_cons (pe_op op_mulX (pe_op op_fdivW (pe_ix ix_seq (pv 3) pe_int (fun _ _ => rfl)) (pv 5)) (pv 5)) (pa_cons (pe_op op_sub (pe_op op_fdivW (pe_ix ix_seq (pv 3) pe_int (fun _ _ => rfl)) (pv 4)) (pe_ix ix_seq (pv 3) pe_int (fun _ _ => rfl))) pa_nil))))))
        (pss_cons (ps_if (PW.pt (pw_or (pt_not (pt_val (pe_callB (cr_all rfl) (by rfl) T.f_all (by decide +kernel) (pa_cons (pe_lc (own := [("_law_many_z", 11), ("_law_number_z", 12)]) (g := (gTup K 2 (gCons (gName 11) (gCons (gName 12) gNil)))) rfl sc_law.nd (RZ.pi_zipA (by rfl) T.f_zip (pa_cons (pv 6) (pa_cons (pv 7) pa_nil))) (blkOk_by (own := [("_law_many_z", 11), ("_law_number_z", 12)]) (N := n_law) (sc := defScope s_law) (by decide +kernel)) (fun _ _ _ _ _ => by (refine' PW.pg_tupX (K := K) ?a1 ?b1 ?c1 ?d1 ?h1; (case a1 => rfl); (case b1 => rfl); (case c1 => rfl); (case d1 => rfl); refine' PW.pgs_consX ?a2 ?b2 ?h2; (case a2 => rfl); (case b2 => (refine PW.pg_nameX 11 ?_ ?_ ?_ ?_; exact sc_law.nd; rfl; (first | exact Or.inl rfl | exact Or.inr rfl); (first | exact Or.inl rfl | exact Or.inr rfl))); refine' PW.pgs_consX ?a3 ?b3 ?h3; (case a3 => rfl); (case b3 => (refine PW.pg_nameX 12 ?_ ?_ ?_ ?_; exact sc_law.nd; rfl; (first | exact Or.inl rfl | exact Or.inr rfl); (first | exact Or.inl rfl | exact Or.inr rfl))); exact pgs_nil)) (fun _ _ _ _ _ => pts_nil) (fun _ _ _ _ _ => (pe_call G__law_is hr rfl T.g__law_is T.d__law_is.kp (b__law_is T) .nil pass0 (pa_cons (pv 11) (pa_cons (pv 12) pa_nil))))) pa_nil)))) (pw_or1 (pt_not (pt_val (pe_call G__law_is hr rfl T.g__law_is T.d__law_is.kp (b__law_is T) .nil pass0 (pa_cons (pe_ix ix_seq (pv 3) pe_int (fun _ _ => rfl)) (pa_cons (pe_ix ix_seq (pv 3) pe_int (fun _ _ => rfl)) pa_nil))))))))
          (pss_one (ps_ret pe_bl))
          pss_nil)
        (pss_cons (ps_set (i := 8) sc_law.nd rfl (Or.inl rfl) (pe_lst (pa_cons (pe_op (PW.op_ownB T.o_Tower___mod__ G_Tower___mod__ hr (b_Tower___mod__ T) pass0) (pe_ix ix_seq (pv 3) pe_int (fun _ _ => rfl)) (pv 4)) (pa_cons (pe_op (PW.op_ownB T.o_Tower___mod__ G_Tower___mod__ hr (b_Tower___mod__ T) pass0) (pe_op (PW.op_ownR T.o_Tower___rsub__ PW.decl_sub G_Tower___rsub__ hr (b_Tower___rsub__ T) pass0) pe_int (pe_ix ix_seq (pv 3) pe_int (fun _ _ => rfl))) (pv 4)) (pa_cons (pe_op (PW.op_ownB T.o_Tower___mod__ G_Tower___mod__ hr (b_Tower___mod__ T) pass0) (pe_op (PW.op_ownB T.o_Tower___floordiv__ G_Tower___floordiv__ hr (b_Tower___floordiv__ T) pass0) (pe_ix ix_seq (pv 3) pe_int (fun _ _ => rfl)) (pv 5)) (pv 5)) (pa_cons (pe_op (PW.op_ownB T.o_Tower___mod__ G_Tower___mod__ hr (b_Tower___mod__ T) pass0) (pe_ix ix_seq (pv 3) pe_int (fun _ _ => rfl)) pe_int) pa_nil))))))
        (pss_cons (ps_set (i := 9) sc_law.nd rfl (Or.inl rfl) (pe_lst (pa_cons (pe_op op_mod (pe_callTy call_intN (by rfl) T.f_int (by decide +kernel) (pa_cons (pe_ix ix_seq (pv 3) pe_int (fun _ _ => rfl)) pa_nil)) (pv 4)) (pa_cons (pe_op op_mod (pe_callTy call_intN (by rfl) T.f_int (by decide +kernel) (pa_cons (pe_op op_sub pe_int (pe_ix ix_seq (pv 3) pe_int (fun _ _ => rfl))) pa_nil)) (pv 4)) (pa_cons (pe_op op_mod (pe_callTy call_intN (by rfl) T.f_int (by decide +kernel) (pa_cons (pe_op op_fdivW (pe_ix ix_seq (pv 3) pe_int (fun _ _ => rfl)) (pv 5)) pa_nil)) (pv 5)) (pa_cons pe_int pa_nil))))))
        (pss_cons (ps_if (PW.pt (pw_or (pt_not (pt_val (pe_call G__law_same hr rfl T.g__law_same T.d__law_same.kp (b__law_same T) .nil pass0 (pa_cons (pv 8) (pa_cons (pv 9) pa_nil))))) (pw_or1 (pt_not (pt_cmpR (PW.cmp_ownB (fun _ _ => rfl) T.m_Tower___eq__.at_ T.m_Tower___eq__.fn G_Tower___eq__ hr (b_Tower___eq__ T) pass0) (pe_op (PW.op_ownB T.o_Tower___add__ G_Tower___add__ hr (b_Tower___add__ T) pass0) (pe_op (PW.op_ownB T.o_Tower___mul__ G_Tower___mul__ hr (b_Tower___mul__ T) pass0) (pe_op (PW.op_ownB T.o_Tower___floordiv__ G_Tower___floordiv__ hr (b_Tower___floordiv__ T) pass0) (pe_ix ix_seq (pv 3) pe_int (fun _ _ => rfl)) (pv 4)) (pv 4)) (pe_op (PW.op_ownB T.o_Tower___mod__ G_Tower___mod__ hr (b_Tower___mod__ T) pass0) (pe_ix ix_seq (pv 3) pe_int (fun _ _ => rfl)) (pv 4))) (pe_ix ix_seq (pv 3) pe_int (fun _ _ => rfl)) (nomark _))))))
          (pss_one (ps_ret pe_bl))
          pss_nil)
        (pss_cons (ps_set (i := 10) sc_law.nd rfl (Or.inr rfl) (pe_call G__law_of hr rfl T.g__law_of T.d__law_of.kp (b__law_of T) .nil pass0 (pa_cons (pv 1) (pa_cons (pe_lst (pa_cons pe_int (pa_cons (pe_op op_sub (pe_op op_sub pe_int pe_int) (pe_call G__law_pull hr rfl T.g__law_pull T.d__law_pull.kp (b__law_pull T) .nil pass0 (pa_cons (pv 1) (pa_cons pe_int pa_nil)))) (pa_cons (pe_op op_add (pe_gint rfl T.c_MOST_DIVISOR) pe_int) (pa_cons (pe_op op_pow pe_int pe_int) (pa_cons pe_non (pa_cons pe_str (pa_cons pe_bl (pa_cons (pe_make T.mk_Tower G_Tower___init__ hr rfl T.g_Tower (b_Tower___init___2 T) (dv_Tower___init___2 T) pass0 (pa_cons pe_int pa_nil)) pa_nil))))))))) pa_nil))))
        (pss_one (ps_if (pt_not (pt_val (pe_call G__law_same hr rfl T.g__law_same T.d__law_same.kp (b__law_same T) .nil pass0 (pa_cons (PW.pe_whysL G__law_whys hr rfl T.g__law_whys T.d__law_whys.kp (b__law_whys T) (fun _ => rfl) (pa_cons (pe_lst (pa_cons (PW.pe_lam0 (k := kx) TB rfl rfl (PW.lamS1_by (by rfl)) (PW.lamB0 (by intros; rfl)) (fun A outer s H E f c' hr => by exact (pe_op (PW.op_ownBX (by simp) T.o_Tower___mod__ GX_Tower___mod__ hr (b_Tower___mod__ T) (passes_call (takes_of rfl rfl rfl rfl) (fun _ _ _ _ h => h))) (pe_ix (PW.ix_seqK (K := K) rfl) (pv 3) pe_int (fun _ _ => rfl)) (pv 10)))) (pa_cons (PW.pe_lam1 (k := kx) TB rfl rfl rfl pe_int (PW.lamS1_by (by rfl)) (PW.lamB1 rfl (by intros; exact ⟨_, rfl, fun _ => rfl⟩)) (fun A outer s H E f c' hr => by exact (pe_op (PW.op_ownBX (by simp) T.o_Tower___floordiv__ GX_Tower___floordiv__ hr (b_Tower___floordiv__ T) (passes_call (takes_of rfl rfl rfl rfl) (fun _ _ _ _ h => h))) (pe_ix (PW.ix_seqK (K := K) rfl) (pv 3) pe_int (fun _ _ => rfl)) (pv 10)))) pa_nil))) pa_nil)) (pa_cons (pe_op op_rep (pe_lst (pa_cons (pe_tup (pa_cons pe_str (pa_cons (pv 10) pa_nil))) pa_nil)) pe_int) pa_nil)))))
          (pss_one (ps_ret pe_bl))
          pss_nil)))))))))))))
    (pss_one (ps_ret (pe_and (pe_cmpR op_eq (pe_gint rfl T.c_MOST_DIVISOR) pe_int (nomark _)) (pe_one (pe_call G__law_divided_down hr rfl T.g__law_divided_down T.d__law_divided_down.kp (b__law_divided_down T) .nil pass0 (pa_cons (pv 1) pa_nil))))))))), ?_⟩
    show tSeq _ _ _ [some (V.ref a), none, none, none, none, none, none, none, none, none, none, none, none] H
    walk_at "K"
    walk_at "go"
    refine ⟨a, ns, rfl, ha, hl, fun b c H1 hb hc hB x1 => ?_⟩
    have t1 := BT.first hP x1 hB
    walk_at "go"
    refine r_forP (fun σ H => ∃ y2 y3 y4 y5 y6 y7 y8 y9 y10 y11 y12, σ = [some (.ref a), some (.ref b), y2, y3, y4, y5, y6, y7, y8, y9, y10, y11, y12] ∧ BagAt H b c) ?_ ?_
    · rintro σ H2 ⟨y2, y3, y4, y5, y6, y7, y8, y9, y10, y11, y12, rfl, hB2⟩
      walk_at "go"
      refine ⟨b, c, rfl, hB2, fun H3 hB3 x3 => ?_⟩
      walk_at "go"
      exact hQ H3
    intro N hN
    refine for_it walk_range (fun i σ H => (∃ y2 y3 y4 y5 y6 y7 y8 y9 y10 y11 y12, σ = [some (.ref a), some (.ref b), y2, y3, y4, y5, y6, y7, y8, y9, y10, y11, y12]) ∧ BT Pt H b c) ?_ (fun _ _ _ _ _ => trivial) ?_ ?_
    · exact ⟨⟨_, _, _, _, _, _, _, _, _, _, _, rfl⟩, t1⟩
    · clear t1 hB x1 hb hc H1
      rintro i x σ H1 H1' hi ⟨⟨y2, y3, y4, y5, y6, y7, y8, y9, y10, y11, y12, rfl⟩, hT1⟩ ⟨rfl, rfl⟩
      walk_at "go"
      refine ⟨b, c, 4, rfl, by decide, hT1.bag, fun t1 r1 v1 H2 hB2 x2 hp1 hv1 => ?_⟩
      walk_at "go"
      refine ⟨b, c, 64, rfl, hB2, by decide, by decide, fun p H3 p0 p1 hB3 x3 => ?_⟩
      walk_at "go"
      refine ⟨b, c, 1000, rfl, hB3, by decide, by decide, fun q H4 q0 q1 hB4 x4 => ?_⟩
      walk_at "go"
      intro m hm
      walk_at "go"
      refine ⟨b, c, .ref m, _, rfl, hB4.new hm, Or.inl ⟨m, rfl, (hB4.ne hm).1.symm, Or.inl upd_same⟩, by walk_at "len", by walk_at "len", fun v5 H5 hv5 hB5 x5 => ?_⟩
      obtain ⟨dv, rfl, d1, d1000⟩ := div5 ⟨p0, p1⟩ ⟨q0, q1⟩ hv5
      walk_at "go"
      refine ⟨b, c, 99, rfl, hB5, by decide, by decide, fun o' H0 o0 o1 hB0 x6 => ?_⟩
      obtain ⟨ot, ho, h1o, h99o⟩ : ∃ n : Nat, 1 + o' = (n : Nat) ∧ 1 ≤ n ∧ n ≤ 99 := ⟨(1 + o').toNat, by omega, by omega, by omega⟩
      have hp2 := ((((hp1.ex x3).ex x4).ex (Ex.new hm).toB).ex x5).ex x6
      have hT0 := (((((hT1.pull hB2 x2).pull hB3 x3).pull hB4 x4).ex (Ex.new hm)).pull hB5 x5).pull hB0 x6
      have E0 : One5 K H0 t1 r1 v1 := ⟨hp2.tup, hp2.num⟩
      clear hp1 hp2 hT1 hB2 hB3 hB4 hB5 hB0 x2 x3 x4 x5 x6 hv5 hm
      have ft10 := E0.t1
      have o1000 : ot ≤ 1000 := by omega
      have dlt : dv < 2 ^ 8999 := Nat.lt_of_le_of_lt (show dv ≤ 2 ^ 10 by omega) (Nat.pow_lt_pow_right (by decide) (by decide))
      have olt : ot < 2 ^ 8999 := Nat.lt_of_le_of_lt (show ot ≤ 2 ^ 10 by omega) (Nat.pow_lt_pow_right (by decide) (by decide))
      have cd1 : CDivW v1 (dv : Int) := cdN (by omega) dlt
      have cd2 : CDivW v1 (ot : Int) := cdN (by omega) olt
      have cd3 : CDivW (v1 / (ot : Int)) (dv : Int) := cdN (by omega) dlt
      have hvo := div_b (m := ot) hv1
      have hvd := div_b (m := dv) hv1
      have hvod := div_b (m := dv) hvo
      have p10 : (2 : Nat) ^ 10 = 1024 := by decide
      have o10 : (ot : Int).natAbs ≤ 2 ^ 10 := by
        rw [Int.natAbs_natCast]
        omega
      have d10 : (dv : Int).natAbs ≤ 2 ^ 10 := by
        rw [Int.natAbs_natCast]
        omega
      have o10' : (ot : Int).natAbs < 2 ^ 10 := by
        rw [Int.natAbs_natCast]
        omega
      have cmo : CMulX (v1 / (ot : Int)) (ot : Int) := mulx_ok (a := 940) (b := 10) hvo o10' (by decide)
      have cd4 : CDivW (v1 / (ot : Int)) (ot : Int) := cdN (by omega) olt
      have cd5 : CDivW (0 - v1) (dv : Int) := cdN (by omega) dlt
      have cs : ∀ S : Sz, S.s ≤ 1200 → 10 + S.s + 2 * c5.s ≤ 8800 := fun S h => by show 10 + S.s + 2 * 0 ≤ 8800; omega
      have s4 : (mb 4).s ≤ 1200 := by decide
      have s5 : (divSz (mb 4)).s ≤ 1200 := by decide
      walk_at "go"
      rw [ho]
      clear ho o0 o1 o'
      walk_at "go"
      refine rOwn_num (u := (dv : Int)) rfl E0.k1 (NumV.int (d := 2) (by decide)) ?_
      refine ⟨c5, 2, hc5, by decide, r1, _, v1, dv, rfl, E0.k1, lm4, by omega, by omega, cs _ s4, fun q1 H1 x1 h1 => ?_⟩
      have E1 := E0.ex x1
      have ft11 := E1.t1
      walk_at "go"
      refine rOwn_num (u := (ot : Int)) rfl E1.k1 (NumV.int (d := 2) (by decide)) ?_
      refine ⟨c5, 2, hc5, by decide, r1, _, v1, ot, rfl, E1.k1, lm4, by omega, by omega, cs _ s4, fun q2 H2 x2 h2 => ?_⟩
      have E2 := E1.ex x2
      have ft12 := E2.t1
      walk_at "go"
      refine rOwn_num (u := (dv : Int)) rfl h2 (NumV.int (d := 2) (by decide)) ?_
      refine ⟨c5, 2, hc5, by decide, q2, _, (v1 / (ot : Int)), dv, rfl, h2, d_lim1, by omega, by omega, cs _ s5, fun q3 H3 x3 h3 => ?_⟩
      have E3 := E2.ex x3
      have ft13 := E3.t1
      walk_at "go"
      refine rOwn_num (u := (ot : Int)) rfl E3.k1 (NumV.int (d := 2) (by decide)) ?_
      refine ⟨c5, 2, hc5, by decide, r1, _, v1, ot, rfl, E3.k1, lm4, by omega, by omega, cs _ s4, fun q4 H4 x4 h4 => ?_⟩
      have E4 := E3.ex x4
      have ft14 := E4.t1
      walk_at "go"
      refine rOwn_num (u := (ot : Int)) rfl h4 (NumV.int (d := 2) (by decide)) ?_
      refine ⟨c5, 2, hc5, by decide, q4, (ot : Int), _, 10, (v1 / (ot : Int)), rfl, h4, d_lim1, o10, by decide, fun q5 H5 x5 h5 => ?_⟩
      have E5 := E4.ex x5
      have ft15 := E5.t1
      walk_at "go"
      refine rOwn_num (u := (dv : Int)) rfl E5.k1 (NumV.int (d := 2) (by decide)) ?_
      refine ⟨c5, 2, hc5, by decide, r1, _, v1, dv, rfl, E5.k1, lm4, by omega, by omega, cs _ s4, fun q6 H6 x6 h6 => ?_⟩
      have E6 := E5.ex x6
      have ft16 := E6.t1
      walk_at "go"
      refine rOwn_num rfl h6 (.inl ⟨r1, rfl, E6.k1⟩) ?_
      refine ⟨c5, 2, hc5, by decide, q6, .ref r1, _, _, (v1 / (dv : Int)), v1, rfl, h6, .inl ⟨r1, rfl, E6.k1⟩, d_lim1, lm4, fun q7 H7 x7 h7 => ?_⟩
      have E7 := E6.ex x7
      have ft17 := E7.t1
      walk_at "go"
      intro lF hlF
      have x8 := Ex.new (o := .lst [V.ref q1, V.ref q3, V.ref q5, V.ref q7]) hlF
      have hh8 : (L2.upd H7 lF (.lst [V.ref q1, V.ref q3, V.ref q5, V.ref q7])) lF = some (.lst [V.ref q1, V.ref q3, V.ref q5, V.ref q7]) := upd_same
      have E8 := E7.ex x8
      generalize L2.upd H7 lF (.lst [V.ref q1, V.ref q3, V.ref q5, V.ref q7]) = H8 at x8 hh8 E8 ⊢
      have ft18 := E8.t1
      walk_at "go"
      intro lD hlD
      have x9 := Ex.new (o := .lst [V.int (v1 / (dv : Int)), V.int ((v1 / (ot : Int)) / (dv : Int)), V.int ((v1 / (ot : Int)) * (ot : Int)), V.int ((v1 / (dv : Int)) - v1)]) hlD
      have hh9 : (L2.upd H8 lD (.lst [V.int (v1 / (dv : Int)), V.int ((v1 / (ot : Int)) / (dv : Int)), V.int ((v1 / (ot : Int)) * (ot : Int)), V.int ((v1 / (dv : Int)) - v1)])) lD = some (.lst [V.int (v1 / (dv : Int)), V.int ((v1 / (ot : Int)) / (dv : Int)), V.int ((v1 / (ot : Int)) * (ot : Int)), V.int ((v1 / (dv : Int)) - v1)]) := upd_same
      have E9 := E8.ex x9
      generalize L2.upd H8 lD (.lst [V.int (v1 / (dv : Int)), V.int ((v1 / (ot : Int)) / (dv : Int)), V.int ((v1 / (ot : Int)) * (ot : Int)), V.int ((v1 / (dv : Int)) - v1)]) = H9 at x9 hh9 E9 ⊢
      have ft19 := E9.t1
      walk_at "go"
      have hF : H9 lF = some (.lst [V.ref q1, V.ref q3, V.ref q5, V.ref q7]) := x9 _ _ hh8
      have PF : Paired (NumIs K c5 2 H9) [V.ref q1, V.ref q3, V.ref q5, V.ref q7] [V.int (v1 / (dv : Int)), V.int ((v1 / (ot : Int)) / (dv : Int)), V.int ((v1 / (ot : Int)) * (ot : Int)), V.int ((v1 / (dv : Int)) - v1)] := by
        exact .cons (nis h1 (x2.trans (x3.trans (x4.trans (x5.trans (x6.trans (x7.trans (x8.trans x9))))))) d_lim1 rfl (v2000 hvd)) (.cons (nis h3 (x4.trans (x5.trans (x6.trans (x7.trans (x8.trans x9))))) d_lim2 rfl (v2000 hvod)) (.cons (nis h5 (x6.trans (x7.trans (x8.trans x9))) (d_limM (by decide)) rfl (mul_b hvo o1000)) (.cons (nis h7 (x8.trans x9) d_limS rfl (sub_b hvd hv1)) (.nil))))
      have hT9 := hT0.ex (x1.trans (x2.trans (x3.trans (x4.trans (x5.trans (x6.trans (x7.trans (x8.trans x9))))))))
      generalize efs : [V.ref q1, V.ref q3, V.ref q5, V.ref q7] = fs at hF PF hh8
      generalize [V.int (v1 / (dv : Int)), V.int ((v1 / (ot : Int)) / (dv : Int)), V.int ((v1 / (ot : Int)) * (ot : Int)), V.int ((v1 / (dv : Int)) - v1)] = ds at hh9 PF
      have hfl := prd_len PF
      have hfl4 : fs.length ≤ 100000 := by
        have := congrArg List.length efs
        rw [← this]
        show 4 ≤ 100000
        decide
      clear h1 h2 h3 h4 h5 h6 h7 E0 E1 E2 E3 E4 E5 E6 E7 E8 x1 x2 x3 x4 x5 x6 x7 x8 x9 hT0 ft10 ft11 ft12 ft13 ft14 ft15 ft16 ft17 ft18
      refine ⟨_, _, _, _, rfl, .inl ⟨SqL.of hF, SqL.of hh9, fun D hD => ?_⟩⟩
      refine lc_grow (walk_zip (xs := fs) (ys := ds) (n := fs.length) (by rw [hfl, Nat.min_self])) (σw := [some (.ref a), some (.ref b), some (.int (0 + (i : Nat))), some (.ref t1), some (.int (dv : Nat)), some (.int (ot : Nat)), some (.ref lF), some (.ref lD), y8, y9, y10, none, none]) rfl (fun _ _ v => v = .bl true) hD ?_ (fun _ x => ⟨x.lst (SqL.of hF), x.lst (SqL.of hh9)⟩) (fun _ _ _ _ _ h => h) ?_ ?_
      · exact hfl4
      · rintro j x Ha Hb acc R hj xa hacc ⟨T0, u, w', rfl, hT0, rfl, hu, hw⟩ hR
        obtain ⟨y, hy, q, S, v, rfl, rfl, hq, hS, hv⟩ := prd_get PF hu
        have hw' : ds[j]? = some w' := hw
        rw [hw'] at hy
        injection hy with hy
        subst hy
        walk_at "go"
        refine ⟨rfl, ?_⟩
        walk_at "go"
        exact ⟨q, S, v, rfl, hq.ex (xa.trans (Ex.new hT0)), hS, hv, fun Hc xc => hR _ _ rfl ((Ex.new hT0).trans xc)⟩
      · intro H0 acc xc hacc hlen2 hb2
        have E0 := E9.ex xc
        have hT0 := hT9.ex xc
        have ft10 := E0.t1
        walk_at "go"
        refine r_all (bs := List.replicate acc.length true) (SqL.of (by rw [hacc, ← all_true (fun i v e => hb2 i v e)])) ?_
        rw [replicate_all]
        clear hb2 xc hacc hlen2 PF hF hfl hfl4 E9 hT9 ft19 hh8 hh9 efs
        walk_at "go"
        refine ⟨r1, _, v1, rfl, E0.k1, lm4, Nat.lt_trans hv1 (Nat.pow_lt_pow_right (by decide) (by decide)), fun H1 x1 => ?_⟩
        have E1 := E0.ex x1
        have ft11 := E1.t1
        walk_at "go"
        refine rOwn_num (u := (dv : Int)) rfl E1.k1 (NumV.int (d := 2) (by decide)) ?_
        refine ⟨c5, 2, hc5, by decide, r1, _, v1, dv, rfl, E1.k1, lm4, by omega, by omega, cs _ s4, fun H2 x2 => ?_⟩
        have E2 := E1.ex x2
        have ft12 := E2.t1
        walk_at "go"
        refine rOwnR_num rfl E2.k1 ?_
        refine ⟨c5, 2, hc5, by decide, r1, .int 0, _, _, v1, 0, rfl, E2.k1, NumV.int (by decide), lm4, z0_lim, fun q3 H3 x3 h3 => ?_⟩
        have E3 := E2.ex x3
        have ft13 := E3.t1
        walk_at "go"
        refine rOwn_num (u := (dv : Int)) rfl h3 (NumV.int (d := 2) (by decide)) ?_
        refine ⟨c5, 2, hc5, by decide, q3, _, (0 - v1), dv, rfl, h3, d_limR, by omega, by omega, cs _ (by decide), fun H4 x4 => ?_⟩
        have E4 := E3.ex x4
        have ft14 := E4.t1
        walk_at "go"
        refine rOwn_num (u := (ot : Int)) rfl E4.k1 (NumV.int (d := 2) (by decide)) ?_
        refine ⟨c5, 2, hc5, by decide, r1, _, v1, ot, rfl, E4.k1, lm4, by omega, by omega, cs _ s4, fun q5 H5 x5 h5 => ?_⟩
        have E5 := E4.ex x5
        have ft15 := E5.t1
        walk_at "go"
        refine rOwn_num (u := (ot : Int)) rfl h5 (NumV.int (d := 2) (by decide)) ?_
        refine ⟨c5, 2, hc5, by decide, q5, _, (v1 / (ot : Int)), ot, rfl, h5, d_lim1, by omega, by omega, cs _ s5, fun H6 x6 => ?_⟩
        have E6 := E5.ex x6
        have ft16 := E6.t1
        walk_at "go"
        refine rOwn_num (u := (1 : Int)) rfl E6.k1 (NumV.int (d := 2) (by decide)) ?_
        refine ⟨c5, 2, hc5, by decide, r1, _, v1, 1, rfl, E6.k1, lm4, by omega, by omega, cs _ s4, fun H7 x7 => ?_⟩
        rw [show v1 % ((1 : Nat) : Int) = 0 from Int.emod_one v1]
        have E7 := E6.ex x7
        have ft17 := E7.t1
        walk_at "go"
        intro lR hlR
        have x8 := Ex.new (o := .lst [V.int (v1 % (dv : Int)), V.int ((0 - v1) % (dv : Int)), V.int ((v1 / (ot : Int)) % (ot : Int)), V.int 0]) hlR
        have hh8 : (L2.upd H7 lR (.lst [V.int (v1 % (dv : Int)), V.int ((0 - v1) % (dv : Int)), V.int ((v1 / (ot : Int)) % (ot : Int)), V.int 0])) lR = some (.lst [V.int (v1 % (dv : Int)), V.int ((0 - v1) % (dv : Int)), V.int ((v1 / (ot : Int)) % (ot : Int)), V.int 0]) := upd_same
        have E8 := E7.ex x8
        generalize L2.upd H7 lR (.lst [V.int (v1 % (dv : Int)), V.int ((0 - v1) % (dv : Int)), V.int ((v1 / (ot : Int)) % (ot : Int)), V.int 0]) = H8 at x8 hh8 E8 ⊢
        have ft18 := E8.t1
        walk_at "go"
        intro lM hlM
        have x9 := Ex.new (o := .lst [V.int (v1 % (dv : Int)), V.int ((0 - v1) % (dv : Int)), V.int ((v1 / (ot : Int)) % (ot : Int)), V.int 0]) hlM
        have hh9 : (L2.upd H8 lM (.lst [V.int (v1 % (dv : Int)), V.int ((0 - v1) % (dv : Int)), V.int ((v1 / (ot : Int)) % (ot : Int)), V.int 0])) lM = some (.lst [V.int (v1 % (dv : Int)), V.int ((0 - v1) % (dv : Int)), V.int ((v1 / (ot : Int)) % (ot : Int)), V.int 0]) := upd_same
        have E9 := E8.ex x9
        generalize L2.upd H8 lM (.lst [V.int (v1 % (dv : Int)), V.int ((0 - v1) % (dv : Int)), V.int ((v1 / (ot : Int)) % (ot : Int)), V.int 0]) = H9 at x9 hh9 E9 ⊢
        have ft19 := E9.t1
        walk_at "go"
        refine ⟨_, _, rfl, SmT.lsts (x9 _ _ hh8) hh9 (by walk_at "len") (prd_flats (fun v hv => ?_)), fun H10 x10 => ?_⟩
        · simp only [List.mem_cons, List.not_mem_nil, or_false] at hv
          rcases hv with rfl | rfl | rfl | rfl <;> rfl
        have E10 := E9.ex x10
        have ft110 := E10.t1
        walk_at "go"
        refine rOwn_num (u := (dv : Int)) rfl E10.k1 (NumV.int (d := 2) (by decide)) ?_
        refine ⟨c5, 2, hc5, by decide, r1, _, v1, dv, rfl, E10.k1, lm4, by omega, by omega, cs _ s4, fun q11 H11 x11 h11 => ?_⟩
        have E11 := E10.ex x11
        have ft111 := E11.t1
        walk_at "go"
        refine rOwn_num (u := (dv : Int)) rfl h11 (NumV.int (d := 2) (by decide)) ?_
        refine ⟨c5, 2, hc5, by decide, q11, (dv : Int), _, 10, (v1 / (dv : Int)), rfl, h11, d_lim1, d10, by decide, fun q12 H12 x12 h12 => ?_⟩
        have E12 := E11.ex x12
        have ft112 := E12.t1
        walk_at "go"
        refine rOwn_num (u := (dv : Int)) rfl E12.k1 (NumV.int (d := 2) (by decide)) ?_
        refine ⟨c5, 2, hc5, by decide, r1, _, v1, dv, rfl, E12.k1, lm4, by omega, by omega, cs _ s4, fun H13 x13 => ?_⟩
        have E13 := E12.ex x13
        have ft113 := E13.t1
        walk_at "go"
        have hr0 : 0 ≤ v1 % (dv : Int) := Int.emod_nonneg _ (by omega)
        have hr1 : v1 % (dv : Int) < (dv : Int) := Int.emod_lt_of_pos _ (by omega)
        have hrl : Sz.Le ⟨bt (v1 % (dv : Int)), 0, 0⟩ LIM := lim2000 (Nat.lt_of_lt_of_le (show (v1 % (dv : Int)).natAbs < 2 ^ 10 by omega) (Nat.pow_le_pow_right (by decide) (by decide)))
        refine rOwn_num (u := v1 % (dv : Int)) rfl (h12.ex x13) (NumV.int (d := 2) (by decide)) ?_
        refine ⟨c5, 2, hc5, by decide, q12, .int (v1 % (dv : Int)), _, _, v1 / (dv : Int) * (dv : Int), v1 % (dv : Int), rfl, h12.ex x13, NumV.int (by decide), d_limM (by decide), hrl, fun q14 H14 x14 h14 => ?_⟩
        have E14 := E13.ex x14
        have ft114 := E14.t1
        walk_at "go"
        have eqv : v1 / (dv : Int) * (dv : Int) + v1 % (dv : Int) = v1 := by
          have := Int.emod_add_mul_ediv v1 (dv : Int)
          rw [Int.mul_comm] at this
          omega
        rw [eqv] at h14
        have hbl : bt (v1 % (dv : Int)) ≤ 10 := bt_le.mpr (by omega)
        refine rOwn_num (u := v1) rfl h14 (NumV.int (d := 2) (by decide)) ?_
        refine ⟨c5, 2, hc5, by decide, q14, .int v1, _, _, rfl, h14, d_limA hbl, .inl ⟨_, v1, NumV.int (by decide), lim2000 (v2000 hv1), fun H15 x15 => ?_⟩⟩
        rw [decide_eq_true (rfl : v1 = v1)]
        have E15 := E14.ex x15
        have ft115 := E15.t1
        walk_at "go"
        have hT15 := hT0.ex (x1.trans (x2.trans (x3.trans (x4.trans (x5.trans (x6.trans (x7.trans (x8.trans (x9.trans (x10.trans (x11.trans (x12.trans (x13.trans (x14.trans x15))))))))))))))
        clear x1 x2 x3 x4 x5 x6 x7 x8 x9 x10 x11 x12 x13 x14 x15 h3 h5 h11 h12 h14 ft10 ft11 ft12 ft13 ft14 ft15 ft16 ft17 ft18 ft19 ft110 ft111 ft112 ft113 ft114 ft115
        clear E0 E1 E2 E3 E4 E5 E6 E7 E8 E9 E10 E11 E12 E13 E14 hT0 hh8 hh9
        refine ⟨b, c, 50, rfl, hT15.bag, by decide, by decide, fun pp H16 pp0 pp1 hB16 x16 => ?_⟩
        have hT16 := hT15.pull hB16 x16
        have E16 := E15.pull hT15.bag x16
        walk_at "go"
        refine mk_plain (cap := c5) (d := 1) (S := ⟨bt 2, 0, 0⟩) T.e_Tower___init___parts (Sz.Le.refl _) fun t2 H17 x17 h17 => ?_
        have hT17 := hT16.ex x17
        have E17 := E16.ex x17
        walk_at "go"
        intro m2 hm2
        have hT18 := hT17.ex (Ex.new (o := .lst [V.int 0, .int (0 - 1 - pp), .int (1000 + 1), .int (10 ^ Int.toNat 30), V.non, .str "2", .bl true, .ref t2]) hm2)
        have E18 := E17.ex (Ex.new (o := .lst [V.int 0, .int (0 - 1 - pp), .int (1000 + 1), .int (10 ^ Int.toNat 30), V.non, .str "2", .bl true, .ref t2]) hm2)
        have h18 := h17.ex (Ex.new (o := .lst [V.int 0, .int (0 - 1 - pp), .int (1000 + 1), .int (10 ^ Int.toNat 30), V.non, .str "2", .bl true, .ref t2]) hm2)
        walk_at "go"
        refine ⟨b, c, .ref m2, _, rfl, hT18.bag, Or.inl ⟨m2, rfl, (hT17.bag.ne hm2).1.symm, Or.inl upd_same⟩, by walk_at "len", by walk_at "len", fun od H20 hv hB20 x20 => ?_⟩
        have O20 : Odd5 K H20 od := (odd5mem ⟨pp0, pp1⟩ h18 (lim2000 (by decide)) hv).pull hT18.bag x20
        have hT20 := hT18.pull hB20 x20
        have E20 := E18.pull hT18.bag x20
        clear hT15 hT16 hT17 hT18 E15 E16 E17 E18 h17 h18 hv x16 x17 x20 hm2 hB16 hB20
        walk_at "go"
        refine ⟨hT20.tabs, fun f1 H21 xn1 tb1 nf1 l1 => ?_⟩
        have hT21 := hT20.lam xn1 tb1
        have E21 := E20.extN xn1
        have O21 := O20.extN xn1
        walk_at "go"
        refine ⟨hT21.tabs, fun f2 H22 xn2 tb2 nf2 l2 => ?_⟩
        have hT22 := hT21.lam xn2 tb2
        have E22 := E21.extN xn2
        have O22 := O21.extN xn2
        have l12 := l1.extN xn2
        clear hT20 hT21 E20 E21 O20 O21 xn1 xn2 tb1 tb2 nf1 nf2 l1
        walk_at "go"
        intro L hL
        have x23 := Ex.new (o := .lst [V.ref f1, V.ref f2]) hL
        have hh23 : (L2.upd H22 L (.lst [V.ref f1, V.ref f2])) L = some (.lst [V.ref f1, V.ref f2]) := upd_same
        have hT23 := hT22.ex x23
        have E23 := E22.ex x23
        have O23 := O22.ex x23
        have l13 := l12.ex x23
        have l23 := l2.ex x23
        generalize L2.upd H22 L (.lst [V.ref f1, V.ref f2]) = H23 at x23 hh23 hT23 E23 O23 l13 l23 ⊢
        clear hT22 E22 O22 l12 l2 x23
        walk_at "go"
        refine ⟨L, [f1, f2], _, rfl, hh23, by show 2 ≤ 100; decide, .cons l13 (.cons l23 .nil), fun i v H => ∃ p, v = .ref p ∧ H p = some (.tup [.str "InvalidNumber", od]), ?_, ?_, ?_, ?_⟩
        · rintro i v H H' x ⟨p, e1, e2⟩
          exact ⟨p, e1, x _ _ e2⟩
        · rintro i v H D xs hD ⟨p, e1, e2⟩
          exact ⟨p, e1, (hide_ne (fun z => by
            rw [z, hD] at e2
            cases e2)).trans e2⟩
        · intro j tl htl H24 x24
          have E24 := E23.ex x24
          have O24 := O23.ex x24
          have ft24 := E24.t1
          rcases j with _ | _ | j
          · cases htl
            refine r_why ?_
            walk_at "go"
            exact rOwnBX_odd rfl E24.k1 O24 ⟨r1, od, rfl, O24.bad, fun cls d H25 x25 hI => ⟨_, _, _, _, .InvalidNumber od, hI, fun p H26 x26 hp => ⟨x25.trans x26, p, rfl, hp⟩⟩⟩
          · cases htl
            refine r_why ?_
            walk_at "go"
            exact rOwnBX_odd rfl E24.k1 O24 ⟨r1, od, rfl, O24.bad, fun cls d H25 x25 hI => ⟨_, _, _, _, .InvalidNumber od, hI, fun p H26 x26 hp => ⟨x25.trans x26, p, rfl, hp⟩⟩⟩
          · cases htl
        · intro vs H24 D x24 hD0 hD hl2 hv
          have hT24 := hT23.ex x24
          have O24 := O23.ex x24
          obtain ⟨va, vb, rfl⟩ : ∃ va vb, vs = [va, vb] := by
            match vs, hl2 with
            | [va, vb], _ => exact ⟨va, vb, rfl⟩
          obtain ⟨pa, rfl, hpa⟩ := hv 0 va rfl
          obtain ⟨pb, rfl, hpb⟩ := hv 1 vb rfl
          clear hv hl2 hT23 E23 O23 l13 l23 x24
          walk_at "go"
          intro p3 hp3
          walk_at "go"
          intro l3 hl3
          walk_at "go"
          intro l4 hl4
          have e2 : (List.replicate (Int.toNat 2) [V.ref p3]).flatten = [V.ref p3, V.ref p3] := rfl
          rw [e2]
          have x27 := ((Ex.new (o := .tup [.str "InvalidNumber", od]) hp3).trans (Ex.new (o := .lst [V.ref p3]) hl3)).trans (Ex.new (o := .lst [V.ref p3, V.ref p3]) hl4)
          have h4 : (L2.upd (L2.upd (L2.upd H24 p3 (.tup [.str "InvalidNumber", od])) l3 (.lst [V.ref p3])) l4 (.lst [V.ref p3, V.ref p3])) l4 = some (.lst [V.ref p3, V.ref p3]) := upd_same
          have h3 : (L2.upd (L2.upd (L2.upd H24 p3 (.tup [.str "InvalidNumber", od])) l3 (.lst [V.ref p3])) l4 (.lst [V.ref p3, V.ref p3])) p3 = some (.tup [.str "InvalidNumber", od]) := ((Ex.new (o := .lst [V.ref p3]) hl3).trans (Ex.new (o := .lst [V.ref p3, V.ref p3]) hl4)) _ _ upd_same
          generalize (L2.upd (L2.upd (L2.upd H24 p3 (.tup [.str "InvalidNumber", od])) l3 (.lst [V.ref p3])) l4 (.lst [V.ref p3, V.ref p3])) = H27 at x27 h4 h3 ⊢
          have hT27 := hT24.ex x27
          have O27 := O24.ex x27
          walk_at "go"
          have tup : ∀ {p : Addr}, H27 p = some (.tup [.str "InvalidNumber", od]) → SmT K 2 1 H27 (.ref p) (.ref p3) := fun {p} h => SmT.tups h h3 (by show 2 ≤ 100000; decide) (.cons (SmT.flat rfl) (.cons O27.sm0 .nil))
          refine ⟨_, _, rfl, SmT.lsts (x27 _ _ hD) h4 (by show 2 ≤ 100000; decide) (.cons (tup (x27 _ _ hpa)) (.cons (tup (x27 _ _ hpb)) .nil)), fun H28 x28 => ?_⟩
          have hT28 := hT27.ex x28
          walk_at "go"
          exact ⟨⟨_, _, _, _, _, _, _, _, _, _, _, rfl⟩, hT28⟩
    · rintro σ H' ⟨⟨y2, y3, y4, y5, y6, y7, y8, y9, y10, y11, y12, rfl⟩, hT⟩
      exact hN _ _ ⟨_, _, _, _, _, _, _, _, _, _, _, rfl, hT.bag⟩
end
end PW
namespace PW
open PySem PySem.Spec PyProof.Rows L2
abbrev sp_law (K : PySem.W.Frag) : Sp := spLawS K (He.cT K ("law", none)).2
theorem law_end {K : PySem.W.Frag} {H : Hp} {a : Addr} {ns : List Int} (hl : ns.length ≤ 63) (hO : ∀ q ∈ ([("law", none)] : List He.Defn), H (He.cT K q).2 = some (.tbl #[])) (hS : SqL K H a (ns.map V.int)) : sp_law K [.ref a] H (fun v _ => v = .bl true) fun _ _ _ => False :=
  ⟨a, ns, rfl, hS, hl, hO _ List.mem_cons_self, fun _ => rfl⟩
theorem law_ok {P : Program} {w : World} {K : PySem.W.Frag} {mg : Str → Option Value} {base : Heap} (hP : IsPG P) (T : Txt K mg) (TB : ∀ q ∈ ([("law", none)] : List He.Defn), LamX.TabB base mg (He.cT K q).1 (He.cT K q).2) :
    FnOk P w K mg base CX0 24 (He.ga K "law") (fdOf K (He.ga K "law")) p_law (sp_law K) := by
  have g1 := ok__law_pull (P := P) (w := w) (base := base) T
  have g2 := ok__law_of T g1
  have g3 := ok__law_two (P := P) (w := w) (base := base) T
  have g4 := ok__law_whole T (g1.mono (by decide)) g2 (g3.mono (by decide))
  have cl := hc5.lim
  have sm := fun n => ok__law_same (P := P) (w := w) (base := base) (k := 19) T (a_eq T 2) n
  have gi := ok__law_is (P := P) (w := w) (base := base) (k := 20) (d := 2) (cap := c5) T (by decide) (by decide) hc5.lim2 (sameT_flat (sm 0)) ((ok__law_sign T).mono (by decide)) ((ok__law_size T).mono (by decide)) ((ok_sign T).mono (by decide)) ((ok_small T).mono (by decide)) ((o_length cl hc5.lim2 T 1).mono (by decide)) ((o_mod cl T 2).mono (by decide))
  have gm := ok__law_made (P := P) (w := w) (base := base) (k := 20) (k0 := 19) (cap := c5) T (by decide) (by decide) (g1.mono (by decide)) (g2.mono (by decide)) (g3.mono (by decide)) (g4.mono (by decide)) ((o_power T 1).mono (by decide)) ((o_add cl T 2).mono (by decide)) ((ok_core cl T 2).2.1.mono (by decide)) ((o_mul cl T 2).mono (by decide)) ((o_floordiv cl T 1).mono (by decide)) ((ok_init T).mono (by decide)) rfl
  have gd := ok__law_divided_down (P := P) (w := w) (base := base) (k := 22) T (g1.mono (by decide)) (g2.mono (by decide)) (sm 2) ((a_power T 2).mono (by decide)) ((ok_small T).mono (by decide)) ((a_mod T 2).mono (by decide)) ((a_floordiv T 2).mono (by decide))
  exact ok_law05 (k := 23) (k0 := 22) (kx := 4) (by decide) T (TB _ List.mem_cons_self) ((ok__law_bag T).mono (by decide)) (g1.mono (by decide)) (g2.mono (by decide)) (gm.mono (by decide)) (gi.mono (by decide)) ((sm 2).mono (by decide)) (gd.mono (by decide)) ((okD__law_whys (kk := 4) T (okD__law_why T)).mono (by decide)) ((a_add T 2).mono (by decide)) ((a_sub T 2).mono (by decide)) ((a_rsub T 2).mono (by decide)) ((a_mul T 2).mono (by decide)) ((a_mod T 2).mono (by decide)) ((a_floordiv T 2).mono (by decide)) ((a_eq T 2).mono (by decide)) ((okX_mod hP T).mono (by decide)) ((okX_floordiv hP T).mono (by decide)) rfl ((ok_init T).mono (by decide))
end PW
open PySem PySem.W PySem.Calls PyProof.Rows
theorem PySem.Challenge.cw_powerwish_k05_quotients_and_remainders_holds : PySem.Challenge.rw_powerwish_k05_quotients_and_remainders.Holds := by
  w_on; o_law
  refine HandSHeadRun.head_any (r := OpenLaw.row PySem.Challenge.rw_powerwish_k05_quotients_and_remainders) (q := view (OpenLaw.row PySem.Challenge.rw_powerwish_k05_quotients_and_remainders).prog [38]) (H := PW.hk) (ob := PW.ob) (M := 6000) (loose := PW.loose) (d := HandSHeadRun.topDef (OpenLaw.row PySem.Challenge.rw_powerwish_k05_quotients_and_remainders).prog 38) (kwd := []) PW.ob_eq
    (by kernel_rfl) (fun s => by kernel_rfl) PW.run (by kernel_rfl) (by kernel_rfl) (by kernel_rfl) (by rfl) (by first | assumption | decide +kernel) (by decide +kernel) ⟨rfl, rfl, rfl, rfl, rfl, by decide +kernel⟩ ?hw ?hc
  case hw => w_witness2
  case hc =>
    refine LamX.walk_ofTsE (l := PySem.Challenge.rw_powerwish_k05_quotients_and_remainders) (n := 63) (k := 24) (x := "_law_script") (CX := fun _ => L2.CX0) rfl (by decide) (by kernel_rfl) ⟨rfl, by decide, by decide⟩ ?F (fun _ _ _ _ _ z => z)
    intro w mg fa h Y G hmg0
    obtain ⟨K, KX, c⟩ := Y
    have hmg : mg ("law" : PySem.Str) = some (.ref fa) := by
      have e : (HandSHeadRun.topDef (OpenLaw.row PySem.Challenge.rw_powerwish_k05_quotients_and_remainders).prog 38).name = ("law" : PySem.Str) := by kernel_rfl
      rw [← e]
      exact hmg0
    have T := PW.txt_of KX G c c.m
    have ef := hmg.symm.trans T.g_law
    cases ef
    have hP : PW.IsPG (PySem.Challenge.rw_powerwish_k05_quotients_and_remainders).prog := ⟨by kernel_rfl, by kernel_rfl⟩
    exact ⟨K, KX, _, PW.tf.map (He.cT K), PW.sp_law K, fun p hp => (List.mem_map.mp hp).elim fun q hq => by rw [← hq.2]; exact c.empty q hq.1, fun p hp => (List.mem_map.mp hp).elim fun q hq => by rw [← hq.2]; exact c.out q hq.1, fun p hp => (List.mem_map.mp hp).elim fun q hq => by rw [← hq.2]; exact PySem.W.codeHd_of_K KX (c.hd q hq.1),
      fun s v => L2.FunD.bindsA (ps := PW.p_law) T.d_law (fun _ _ _ _ _ _ us hl => match us, hl with | [_], _ => rfl) s [v] rfl, fun H a ns hl _ hO hS => PW.law_end hl (fun q hq => hO _ (List.mem_map.mpr ⟨q, hq, rfl⟩)) hS,
      fun base _ _ tb => PW.law_ok (P := (PySem.Challenge.rw_powerwish_k05_quotients_and_remainders).prog) (w := w) (base := base) hP T fun q hq => tb _ (List.mem_map.mpr ⟨q, hq, rfl⟩)⟩
#print axioms PySem.Challenge.cw_powerwish_k05_quotients_and_remainders_holds
