import PyProof.Rows.All
import Wide.All
import OpenK.AllK
import Wide.FinOn
import KE.KStateDown
import HandS.ForMost
import HandS.More
import HandS.Exc
import HandS.WordsExc
import HandS.Defaults
import HandS.IsInst
import HandS.TupAny
import HandS.Style
import HandS.Zip
import HandS.Conv
import HandS.Evl
import HandS.Walk
import HandS.Steps
import HandS.Wide
import HandS.WideBits
import HandS.Head0
import HandS.Head1
import HandS.Head2
import HandS.HeadEnd
import HandS.HeadHook1
import HandS.HeadHook2
import HandS.Property
import HandS.ClsMeth
import HandS.SlotsOwn
import HandS.MakeKwOnly
import HandS.HeadNt
import KE.KOpsOwn
import KE.GoesMore
import KE.GoesZip
import HandS.SortRule
import KE.GoesMore
import KE.GoesZip
import HandS.SortRule
import HandS.Small
import HandS.Deep
import HandS.TupMul
import PyProof.LongRange
import KE.SortData
import PySem.Challenge.RW_rootfloor_k07_whole_each_number_has_one
set_option Elab.async false
set_option linter.all false
set_option maxRecDepth 100000
set_option maxHeartbeats 4000000
namespace RF
open PySem PySem.Spec PyProof.Rows L2
/-! ## the common layer: heaps that grow, readings step by step, defs by name -/
section heaps
/-- a bag: the law's own list of four -/
def isBag : HO → Bool
  | .lst [.ref _, .int _, .int _, .int _] => true
  | _ => false
/-- what is no bag stays as it is -/
def Ext (H H' : Hp) : Prop := ∀ b o, H b = some o → isBag o = false → H' b = some o
theorem Ext.refl (H : Hp) : Ext H H := fun _ _ h _ => h
theorem Ext.trans {H H1 H2 : Hp} (a : Ext H H1) (b : Ext H1 H2) : Ext H H2 := fun c o h n => b c o (a c o h n) n
theorem Ext.of {H H1 : Hp} (a : Same H H1) : Ext H H1 := fun c o h _ => a c o h
theorem Ext.get {H H' : Hp} {b : Addr} {o : HO} (e : Ext H H') (h : H b = some o) (n : isBag o = false) : H' b = some o := e b o h n
theorem Same.get {H H' : Hp} {b : Addr} {o : HO} (e : Same H H') (h : H b = some o) : H' b = some o := e b o h
theorem Same.new {H : Hp} {p : Addr} {o : HO} (h : H p = none) : Same H (upd H p o) := fun a u e => by
  rw [upd_ne (ne_of_none e h)]
  exact e
theorem bag_ints (ns : List Int) : isBag (.lst (ns.map V.int)) = false := by
  cases ns with
  | nil => rfl
  | cons a l => rfl
theorem bag_refs (ps : List Addr) : isBag (.lst (ps.map V.ref)) = false := by
  match ps with
  | [] => rfl
  | [_] => rfl
  | _ :: _ :: _ => rfl
theorem bag_strs (ps : List Str) : isBag (.lst (ps.map V.str)) = false := by
  cases ps with
  | nil => rfl
  | cons a l => rfl
theorem bag_bls (ps : List Bool) : isBag (.lst (ps.map V.bl)) = false := by
  cases ps with
  | nil => rfl
  | cons a l => rfl
theorem SqL.ext {K : PySem.W.Frag} {H H' : Hp} {a : Addr} {xs : List V} (e : Ext H H') (h : SqL K H a xs) (n : isBag (.lst xs) = false) : SqL K H' a xs := by
  rcases h with (h | ⟨o, h⟩) | h
  · exact .inl (.inl (e _ _ h n))
  · exact .inl (.inr ⟨o, e _ _ h rfl⟩)
  · exact .inr h
theorem SqT.ext {K : PySem.W.Frag} {H H' : Hp} {a : Addr} {xs : List V} (e : Ext H H') (h : SqT K H a xs) : SqT K H' a xs := by
  rcases h with (h | ⟨o, h⟩) | h
  · exact .inl (.inl (e _ _ h rfl))
  · exact .inl (.inr ⟨o, e _ _ h rfl⟩)
  · exact .inr h
theorem SqT.same {K : PySem.W.Frag} {H H' : Hp} {a : Addr} {xs : List V} (e : Same H H') (h : SqT K H a xs) : SqT K H' a xs := SqT.ext (.of e) h
theorem sqT_of {K : PySem.W.Frag} {H : Hp} {a : Addr} {xs : List V} (h : H a = some (.tup xs)) : SqT K H a xs := .inl (.inl h)
theorem sqL_of {K : PySem.W.Frag} {H : Hp} {a : Addr} {xs : List V} (h : H a = some (.lst xs)) : SqL K H a xs := .inl (.inl h)
theorem sz_small {n : Nat} (h : n ≤ 100000) : n ≤ sizeLine := Nat.le_trans h (by decide)
theorem sz_smaller {n : Nat} (h : n < 100000) : n < sizeLine := Nat.lt_of_lt_of_le h (by decide)
end heaps

/-- all but p is as it was -/
def Chg (p : Addr) (H H' : Hp) : Prop := ∀ b, b ≠ p → H' b = H b
theorem Chg.of {p : Addr} {H : Hp} {o : HO} : Chg p H (upd H p o) := fun _ h => upd_ne h
theorem Chg.get {p b : Addr} {H H' : Hp} {o u : HO} (c : Chg p H H') (h : H b = some o) (hp : H p = some u) (n : o ≠ u) : H' b = some o := by
  rw [c b (ne_of h hp n)]
  exact h
theorem Chg.ext {p : Addr} {H H' : Hp} {u : HO} (c : Chg p H H') (hp : H p = some u) (hu : isBag u = true) : Ext H H' := fun b o h n => by
  rw [c b fun e => by subst e; rw [hp] at h; cases h; rw [hu] at n; cases n]
  exact h
/-- a new tuple, a new list -/
def NewT (xs : List V) (H : Hp) (Q : VK) : Prop := xs.length ≤ sizeLine ∧ ∀ p, H p = none → Q (.ref p) (upd H p (.tup xs))
def NewL (xs : List V) (H : Hp) (Q : VK) : Prop := xs.length ≤ sizeLine ∧ ∀ p, H p = none → Q (.ref p) (upd H p (.lst xs))
section readings
variable {K : PySem.W.Frag} {σ : L2.St} {H : Hp} {Q : VK} {v x y : V} {ta tb tc te : TE} {tt uu : TT} {QB : Bool → Hp → Prop} {QA : List V → Hp → Prop} {D : Ends} {ts tu : TS} {r r' : R2} {g : TG}
theorem rd_var {i : Nat} (h : σ[i]? = some (some v)) (q : Q v H) : tVar i σ H Q := ⟨v, h, q⟩
theorem rd_c (q : Q v H) : tC v σ H Q := q
theorem rd_op (h : ta σ H fun x H1 => tb σ H1 fun y H2 => r x y H2 Q) : tOp r ta tb σ H Q := h
theorem rd_un {ru : V → Hp → VK → Prop} (h : ta σ H fun x H1 => ru x H1 Q) : tUn ru ta σ H Q := h
theorem rd_I0 {gg : Int → Int → V} {i j : Int} (q : Q (gg i j) H) : rI0 gg (.int i) (.int j) H Q := ⟨i, j, rfl, rfl, q⟩
theorem rd_I {C : Int → Int → Prop} {gg : Int → Int → V} {i j : Int} (c : C i j) (q : Q (gg i j) H) : rI C gg (.int i) (.int j) H Q := ⟨i, j, rfl, rfl, c, q⟩
theorem rd_U {gg : Int → V} {i : Int} (q : Q (gg i) H) : rU gg (.int i) H Q := ⟨i, rfl, q⟩
theorem rd_eq (h : scal x y = true) (q : Q (.bl (decide (x = y))) H) : rEq x y H Q := ⟨h, q⟩
theorem rd_ne (h : scal x y = true) (q : Q (.bl (!decide (x = y))) H) : rNe x y H Q := ⟨h, q⟩
theorem rd_ixL {p : Addr} {xs : List V} {i : Int} (h : SqL K H p xs) (ha : atI xs i = some v) (q : Q v H) : rIxL K (.ref p) (.int i) H Q := ⟨p, xs, i, v, rfl, rfl, h, ha, q⟩
theorem rd_ixT {p : Addr} {xs : List V} {i : Int} (h : SqT K H p xs) (ha : atI xs i = some v) (q : Q v H) : rIxT K (.ref p) (.int i) H Q := ⟨p, xs, i, v, rfl, rfl, h, ha, q⟩
theorem rd_test (h : te σ H fun x H' => ∃ k, x = .bl k ∧ QB k H') : tTest te σ H QB := h
theorem rd_B (h : te σ H fun x H' => ∃ k, x = .bl k ∧ QB k H') : tB te σ H QB := h
theorem rd_bl {P : Bool → Prop} {b : Bool} (q : P b) : ∃ k, V.bl b = .bl k ∧ P k := ⟨b, rfl, q⟩
theorem rd_and (h : tt σ H fun c H1 => if c = true then uu σ H1 QB else QB false H1) : tAnd tt uu σ H QB := h
theorem rd_or (h : tt σ H fun c H1 => if c = true then QB true H1 else uu σ H1 QB) : tOr tt uu σ H QB := h
theorem rd_not (h : tt σ H fun c H1 => QB (!c) H1) : tNot tt σ H QB := h
theorem rd_andV (h : ta σ H fun x H1 => ∃ c, x = .bl c ∧ if c = true then tb σ H1 Q else Q (.bl false) H1) : tAndV ta tb σ H Q := h
theorem rd_orV (h : ta σ H fun x H1 => ∃ c, x = .bl c ∧ if c = true then Q (.bl true) H1 else tb σ H1 Q) : tOrV ta tb σ H Q := h
theorem rd_notV (h : ta σ H fun x H1 => ∃ c, x = .bl c ∧ Q (.bl (!c)) H1) : tNotV ta σ H Q := h
theorem rd_if (h : tt σ H fun c H1 => if c = true then ta σ H1 Q else tb σ H1 Q) : tIf tt ta tb σ H Q := h
theorem rd_chain (h : ta σ H fun x H1 => tb σ H1 fun y H2 => r x y H2 fun z H3 => ∃ k, z = .bl k ∧ (if k = true then tc σ H3 fun w' H4 => r' y w' H4 Q else Q (.bl false) H3)) : tChain r r' ta tb tc σ H Q := h
theorem rd_isN (h : ta σ H fun x H1 => Q (.bl (decide (x = .non))) H1) : tIsN ta σ H Q := h
theorem rd_nil (q : QA [] H) : tNil σ H QA := q
theorem rd_cons {tr : TA} (h : ta σ H fun x H1 => tr σ H1 fun xs H2 => QA (x :: xs) H2) : tCons ta tr σ H QA := h
theorem rd_tup {t : TA} (h : t σ H fun xs H1 => NewT xs H1 Q) : tTup t σ H Q := h
theorem rd_lst {t : TA} (h : t σ H fun xs H1 => NewL xs H1 Q) : tLst t σ H Q := h
theorem rd_newT {xs : List V} (hl : xs.length ≤ sizeLine) (q : ∀ p H2, H p = none → Same H H2 → H2 p = some (.tup xs) → Q (.ref p) H2) : NewT xs H Q := ⟨hl, fun p hp => q p _ hp (Same.new hp) upd_same⟩
theorem rd_newL {xs : List V} (hl : xs.length ≤ sizeLine) (q : ∀ p H2, H p = none → Same H H2 → H2 p = some (.lst xs) → Q (.ref p) H2) : NewL xs H Q := ⟨hl, fun p hp => q p _ hp (Same.new hp) upd_same⟩
theorem rd_seq (h : ts { D with nx := tu D } σ H) : tSeq ts tu D σ H := h
theorem rd_ifS (h : tt σ H fun b H1 => if b = true then ts D σ H1 else tu D σ H1) : tIfS tt ts tu D σ H := h
theorem rd_asg (h : te σ H fun x H1 => g x σ H1 D.nx) : tAsg te g D σ H := h
theorem rd_gName {i : Nat} {N : L2.St → Hp → Prop} (q : N (σ.set i (some v)) H) : gName i v σ H N := q
theorem rd_ret (h : te σ H D.rt) : tRet te D σ H := h
theorem rd_drop (h : te σ H fun _ H1 => D.nx σ H1) : tDrop te D σ H := h
theorem rd_next (q : D.nx σ H) : tNext D σ H := q
theorem rd_CB {rr : List V → Hp → VK → Prop} {t : TA} (h : t σ H fun vs H1 => rr vs H1 Q) : tCB rr t σ H Q := h
theorem rd_call {sp : Sp} {dvs : List V} {E : XK} {t : TA} (h : t σ H fun vs H1 => sp (vs ++ dvs) H1 Q E) : tCall sp dvs E t σ H Q := h
theorem rd_true {A B : Prop} (h : A) : if true = true then A else B := iteT h
theorem rd_false {A B : Prop} (h : B) : if false = true then A else B := iteF h
theorem rd_dec {c A B : Prop} [Decidable c] (h1 : c → A) (h2 : ¬ c → B) : if decide c = true then A else B := by
  by_cases h : c
  · rw [decide_eq_true h]; exact iteT (h1 h)
  · rw [decide_eq_false h]; exact iteF (h2 h)
theorem rd_ndec {c A B : Prop} [Decidable c] (h1 : ¬ c → A) (h2 : c → B) : if (!decide c) = true then A else B := by
  by_cases h : c
  · rw [decide_eq_true h]; exact iteF (h2 h)
  · rw [decide_eq_false h]; exact iteT (h1 h)
theorem rd_bool {b : Bool} {A B : Prop} (h1 : b = true → A) (h2 : b = false → B) : if b = true then A else B := by
  cases b with
  | true => exact iteT (h1 rfl)
  | false => exact iteF (h2 rfl)
theorem rd_gSub {to ti : TE} {tset : TSet} {N : L2.St → Hp → Prop} (h : to σ H fun o H1 => ti σ H1 fun i H2 => tset o i v H2 fun H3 => N σ H3) : gSub to ti tset v σ H N := h
theorem rd_setL {p : Addr} {xs : List V} {k : Int} {j : Nat} {N : Hp → Prop} (h : H p = some (.lst xs)) (hj : ixN xs.length k = some j) (q : ∀ H2, Chg p H H2 → H2 p = some (.lst (xs.set j v)) → N H2) : rSetL (.ref p) (.int k) v H N := ⟨p, xs, k, j, rfl, rfl, h, hj, q _ Chg.of upd_same⟩
theorem rd_gTup {n : Nat} {t : TGs} {a : Addr} {xs : List V} {N : L2.St → Hp → Prop} (h : SqT K H a xs) (hl : xs.length = n) (q : t xs σ H N) : gTup K n t (.ref a) σ H N := ⟨a, xs, rfl, h, hl, q⟩
theorem rd_gCons {t : TG} {u : TGs} {vs : List V} {N : L2.St → Hp → Prop} (q : t v σ H fun σ' H' => u vs σ' H' N) : gCons t u (v :: vs) σ H N := ⟨v, vs, rfl, q⟩
theorem rd_gNil {N : L2.St → Hp → Prop} (q : N σ H) : gNil [] σ H N := ⟨rfl, q⟩
theorem rd_sl {rs : V → Option Int → Option Int → Hp → VK → Prop} {tl th : TO} (h : te σ H fun x H1 => tl σ H1 fun l H2 => th σ H2 fun u H3 => rs x l u H3 Q) : tSl rs te tl th σ H Q := h
theorem rd_noPart {QO : Option Int → Hp → Prop} (q : QO none H) : tNoPart σ H QO := q
theorem rd_part {QO : Option Int → Hp → Prop} (h : te σ H fun x H1 => ∃ i, x = .int i ∧ QO (some i) H1) : tPart te σ H QO := h
theorem rd_int {P : Int → Prop} {i : Int} (q : P i) : ∃ k, V.int i = .int k ∧ P k := ⟨i, rfl, q⟩
end readings

section calls
variable {P : Program} {w : World} {K : PySem.W.Frag} {mg : Str → Option Value} {base : Heap}
/-- the def named x keeps the promise sp -/
def Ok (P : Program) (w : World) (K : PySem.W.Frag) (mg : Str → Option Value) (base : Heap) (k : Nat) (x : Str) (ps : List Str) (sp : Sp) : Prop :=
  ∃ f fd, FnOk P w K mg base CX0 k f fd ps sp ∧ mg x = some (.ref f) ∧ PySem.W.keepIn K (.ref f) = true ∧ Binds K fd ps [] ∧ ∃ oc od osl, K.lookup f = some ⟨oc, od, .func fd, osl⟩
theorem Ok.mono {j k : Nat} {x : Str} {ps : List Str} {sp : Sp} (h : Ok P w K mg base j x ps sp) (l : j ≤ k) : Ok P w K mg base k x ps sp := by
  obtain ⟨f, fd, F, a, b, c⟩ := h
  exact ⟨f, fd, F.mono l, a, b, c⟩
theorem Ok.imp {k : Nat} {x : Str} {ps : List Str} {sp sp' : Sp} (h : Ok P w K mg base k x ps sp) (i : ∀ vs H Q E, sp' vs H Q E → sp vs H Q E) : Ok P w K mg base k x ps sp' := by
  obtain ⟨f, fd, F, a, b, c⟩ := h
  exact ⟨f, fd, F.imp i, a, b, c⟩
theorem pe_ok {X : Cx} {k : Nat} {x : Str} {ps : List Str} {sp : Sp} {e : Expr} {es : List Expr} {t : TA} {p pos : Pos} (h : Ok X.prog X.w X.K X.mg X.base k x ps sp) (hr : Room k X.A) (hg : Gl X x) (ha : PA X (e :: es) t)
    (hdb : (x == ("__debug__" : Str)) = false := by decide) (he : starEach (e :: es) X.env = (false, eval e X.env) :: starEach es X.env := by rfl) (hpl : (backTo pos (starEach es X.env)).any (·.1) = false := by rfl) :
    PE X (.Call (.Name x p) (e :: es) [] pos) (tCall sp [] E0 t) := by
  obtain ⟨f, fd, F, hm, kp, hb, _⟩ := h
  exact pe_call F hr hg hm kp hb .nil pass0 ha (hdb := hdb) (he := he) (hpl := hpl)
/-- a def as the top has left it -/
abbrev FnP (K : PySem.W.Frag) (x : Str) (st : Stmt) (f : Addr) : Prop := ∃ fd, FunD K x x (defArgs st) (defBody st) (defScope st) [] [] f fd
theorem fund_at {K : PySem.W.Frag} {x qual : Str} {params : Arguments} {body : List Stmt} {scope : Scope} {dvs : List V} {kws : List (Str × V)} {f : Addr} {fd : FuncData} (F : FunD K x qual params body scope dvs kws f fd) : ∃ oc od osl, K.lookup f = some ⟨oc, od, .func fd, osl⟩ := by
  obtain ⟨oc, od, _, _, _, _, _, _, _, osl, _, h, _⟩ := F.ex
  exact ⟨oc, od, osl, h⟩
theorem Ok.mk {x : Str} {st : Stmt} {f : Addr} {N ps : List Str} {k : Nat} {sp : Sp} (F : FnP K x st f) (hm : mg x = some (.ref f)) (S : FnScope N ps (defScope st))
    (hb : ∀ (kV doc pm : Value) (an : Option Addr) (cdv ct : Value) (us : List Value), us.length = ps.length → bindArgs (PySem.W.fnOf x x (defArgs st) (defBody st) (defScope st) .none kV doc pm an cdv ct) ⟨us, []⟩ = pure (ps.zip us))
    (len : ∀ vs H Q E, sp vs H Q E → vs.length = ps.length)
    (hbody : ∀ (cdv : Value) (A : Around) (outer : List Env) (s : Shared) (H : Hp) (vs : List V) (Q : VK) (E : XK), Room k (A.deeper (envOfC x (defScope st) s.heap.objs.size f cdv)) → sp vs H Q E →
      ∃ t, PSs (cxOf CX0 P w K mg base N x (defScope st) f cdv A outer s H E).nox (defBody st) t ∧ t { nx := fun _ H' => Q .non H', rt := Q } (start N vs) H) : Ok P w K mg base (k + 1) x ps sp := by
  obtain ⟨fd, F⟩ := F
  exact ⟨f, fd, F.ok S len fun cdv A outer s H vs Q E hr h => by
    obtain ⟨t, a, b⟩ := hbody cdv A outer s H vs Q E hr h
    exact ⟨t, a.nox, b⟩, hm, F.kp, F.bindsN hb, fund_at F⟩
end calls

section builtins
def rLenX (K : PySem.W.Frag) : List V → Hp → VK → Prop := fun xs H Q => ∃ x n, xs = [x] ∧ LenV K x H n ∧ Q (.int n) H
def rAbsX : List V → Hp → VK → Prop := fun xs H Q => ∃ i, xs = [.int i] ∧ Q (.int (if i < 0 then -i else i)) H
def rIntX : List V → Hp → VK → Prop := fun xs H Q => (∃ i, xs = [.int i] ∧ Q (.int i) H) ∨ ∃ k, xs = [.bl k] ∧ Q (.int (if k then 1 else 0)) H
def rBoolX : List V → Hp → VK → Prop := fun xs H Q => (∃ i, xs = [.int i] ∧ Q (.bl (i != 0)) H) ∨ ∃ k, xs = [.bl k] ∧ Q (.bl k) H
def rStrX : List V → Hp → VK → Prop := fun xs H Q => ∃ i, xs = [.int i] ∧ i.natAbs.log2 < 1920 ∧ Q (.str (toString i)) H
def rListX (K : PySem.W.Frag) : List V → Hp → VK → Prop := fun xs H Q => ∃ p ys, xs = [.ref p] ∧ (SqL K H p ys ∨ SqT K H p ys) ∧ ∀ l, H l = none → Q (.ref l) (upd H l (.lst ys))
section
variable {X : Cx}
theorem c_len : CallR X (.builtin "len") (rLenX X.K) := call_len
theorem c_abs : CallR X (.builtin "abs") rAbsX := call_abs
theorem c_int : CallR X (.type "int") rIntX := call_int1
theorem c_bool : CallR X (.type "bool") rBoolX := call_bool1
theorem c_str : CallR X (.type "str") rStrX := call_str_int
theorem c_list : CallR X (.type "list") (rListX X.K) := call_list_of
theorem pe_gint {x : Str} {i : Int} {pos : Pos} (h : ∃ t, X.mg x = some (.int i t)) (hg : Gl X x) (hd : (x == ("__debug__" : Str)) = false := by decide) : PE X (.Name x pos) (tC (.int i)) := by
  obtain ⟨t, h⟩ := h
  exact pe_glob hg h ⟨t, rfl⟩ hd
theorem pe_gstr {x z : Str} {pos : Pos} (h : ∃ t, X.mg x = some (.str z t)) (hg : Gl X x) (hd : (x == ("__debug__" : Str)) = false := by decide) : PE X (.Name x pos) (tC (.str z)) := by
  obtain ⟨t, h⟩ := h
  exact pe_glob hg h ⟨t, rfl⟩ hd
theorem pe_gref {x : Str} {a : Addr} {pos : Pos} (h : X.mg x = some (.ref a)) (hg : Gl X x) (hd : (x == ("__debug__" : Str)) = false := by decide) : PE X (.Name x pos) (tC (.ref a)) := pe_glob hg h rfl hd
theorem pe_gty {x : Str} {T : String} {pos : Pos} (h : X.mg x = none) (hg : Gl X x) (hv : bootBuiltins x = some (.type T)) (hn : x ≠ "__name__" := by decide) (hd : (x == ("__debug__" : Str)) = false := by decide) : PE X (.Name x pos) (tC (.ty T)) := pe_bltn hg h hv rfl hn hd
end
variable {K : PySem.W.Frag} {H : Hp} {Q : VK}
theorem rd_lenL {p : Addr} {xs : List V} (h : SqL K H p xs) (q : Q (.int xs.length) H) : rLenX K [.ref p] H Q := ⟨_, _, rfl, .inl ⟨_, h, rfl⟩, q⟩
theorem rd_lenT {p : Addr} {xs : List V} (h : SqT K H p xs) (q : Q (.int xs.length) H) : rLenX K [.ref p] H Q := ⟨_, _, rfl, .inr ⟨_, h, rfl⟩, q⟩
theorem rd_lenS {x : Str} (h : x.length ≤ sizeLine) (q : Q (.int x.length) H) : rLenX K [.str x] H Q := ⟨_, _, rfl, ⟨h, rfl⟩, q⟩
theorem rd_abs {i : Int} (q : Q (.int i.natAbs) H) : rAbsX [.int i] H Q := ⟨i, rfl, by
  have e : (if i < 0 then -i else i) = (i.natAbs : Int) := by split <;> omega
  rw [e]; exact q⟩
theorem rd_intI {i : Int} (q : Q (.int i) H) : rIntX [.int i] H Q := .inl ⟨i, rfl, q⟩
theorem rd_intB {b : Bool} (q : Q (.int (if b then 1 else 0)) H) : rIntX [.bl b] H Q := .inr ⟨b, rfl, q⟩
theorem rd_list {p : Addr} {ys : List V} (h : SqL K H p ys ∨ SqT K H p ys) (q : ∀ l H2, H l = none → Same H H2 → H2 l = some (.lst ys) → Q (.ref l) H2) : rListX K [.ref p] H Q := ⟨p, ys, rfl, h, fun l hl => q l _ hl (Same.new hl) upd_same⟩
theorem rd_slL {p : Addr} {xs : List V} {lo hi : Option Int} (h : SqL K H p xs) (q : ∀ l H2, H l = none → Same H H2 → H2 l = some (.lst (cutV xs lo hi)) → Q (.ref l) H2) : rSlL K (.ref p) lo hi H Q := ⟨p, xs, rfl, h, fun l hl => q l _ hl (Same.new hl) upd_same⟩
end builtins

/-! ## the law's bag -/
section bag
/-- a bag at a: its cells at c hold ns -/
def Bag (a c : Addr) (ns : List Int) (H : Hp) : Prop := ∃ i g s : Int, H a = some (.lst [.ref c, .int i, .int g, .int s]) ∧ H c = some (.lst (ns.map V.int)) ∧ 0 ≤ i ∧ 0 ≤ g ∧ 0 ≤ s ∧ s < 2147483647
theorem Bag.same {a c : Addr} {ns : List Int} {H H' : Hp} (b : Bag a c ns H) (e : Same H H') : Bag a c ns H' := by
  obtain ⟨i, g, s, h1, h2, h3⟩ := b
  exact ⟨i, g, s, e _ _ h1, e _ _ h2, h3⟩
theorem atI_ints {ns : List Int} {i : Int} (h0 : 0 ≤ i) (h1 : i < (ns.map V.int).length) : ∃ z, atI (ns.map V.int) i = some (.int z) := by
  rw [List.length_map] at h1
  have hl : i.toNat < ns.length := by omega
  have e : ((i.toNat : Nat) : Int) = i := by omega
  have q : atI (ns.map V.int) ((i.toNat : Nat) : Int) = some (.int ns[i.toNat]) := atI_nat (by rw [List.getElem?_map, List.getElem?_eq_getElem hl] <;> rfl)
  rw [e] at q
  exact ⟨_, q⟩
def spBag (K : PySem.W.Frag) : Sp := fun vs H Q _ => ∃ (a : Addr) (ns : List Int), vs = [.ref a] ∧ SqL K H a (ns.map V.int) ∧
  ∀ b c ms H', Same H H' → Bag b c ms H' → Q (.ref b) H'
def spPull : Sp := fun vs H Q _ => ∃ (a c : Addr) (ns : List Int) (n : Int), vs = [.ref a, .int n] ∧ Bag a c ns H ∧ 0 < n ∧ n < 1073741824 ∧
  ∀ d H', 0 ≤ d → d < n → Ext H H' → Bag a c ns H' → Q (.int d) H'
def spOf (K : PySem.W.Frag) : Sp := fun vs H Q _ => ∃ (a c l : Addr) (ns : List Int) (xs : List V), vs = [.ref a, .ref l] ∧ Bag a c ns H ∧ SqL K H l xs ∧ isBag (.lst xs) = false ∧ xs ≠ [] ∧ xs.length < 1073741824 ∧
  ∀ v H', v ∈ xs → Ext H H' → Bag a c ns H' → Q v H'
end bag
section never
variable {P : Program} {w : World} {K : PySem.W.Frag} {mg : Str → Option Value} {base : Heap}
/-- a def that is not called keeps the promise that asks for what can't be -/
theorem Ok.never {x : Str} {st : Stmt} {f : Addr} {ps : List Str} {k : Nat} (F : FnP K x st f) (hm : mg x = some (.ref f))
    (hb : ∀ (kV doc pm : Value) (an : Option Addr) (cdv ct : Value) (us : List Value), us.length = ps.length → bindArgs (PySem.W.fnOf x x (defArgs st) (defBody st) (defScope st) .none kV doc pm an cdv ct) ⟨us, []⟩ = pure (ps.zip us)) : Ok P w K mg base k x ps fun _ _ _ _ => False := by
  obtain ⟨fd, F⟩ := F
  exact ⟨f, fd, ⟨fun _ _ _ _ h => h.elim, fun _ _ _ _ _ _ _ _ _ _ _ _ _ h => h.elim⟩, hm, F.kp, F.bindsN hb, fund_at F⟩
end never

def CalN (n m : Nat) (sp : Sp) (gV : List V → List V → List V) (E : XK) (vs zs : List V) (H : Hp) (Q : VK) : Prop := vs.length = n ∧ zs.length = m ∧ sp (gV vs zs) H Q E
def BmL (K : PySem.W.Frag) (T : String) (r : V → List V → Hp → VK → Prop) (t : TA) (σ : L2.St) (x : V) (H : Hp) (Q : VK) : Prop := tyV K T x H ∧ t σ H fun xs H2 => r x xs H2 Q
def ParB (i j : Nat) (vs : List V) (N : L2.St → Hp → Prop) (σ : L2.St) (H : Hp) : Prop := ∃ v w, vs = [v, w] ∧ N ((σ.set i (some v)).set j (some w)) H
section keywords
/-- the def named x, called with n values by position and the keywords ks -/
def OkK (P : Program) (w : World) (K : PySem.W.Frag) (mg : Str → Option Value) (base : Heap) (k : Nat) (x : Str) (ps : List Str) (n : Nat) (ks : List Str) (gV : List V → List V → List V) (sp : Sp) : Prop :=
  ∃ f fd g, FnOk P w K mg base CX0 k f fd ps sp ∧ mg x = some (.ref f) ∧ PySem.W.keepIn K (.ref f) = true ∧ KBn K fd ps n ks g gV
theorem OkK.mk {P : Program} {w : World} {K : PySem.W.Frag} {mg : Str → Option Value} {base : Heap} {x : Str} {st : Stmt} {f : Addr} {ps ks : List Str} {k n : Nat} {sp : Sp} (h : Ok P w K mg base k x ps sp) (F : FnP K x st f) (hm : mg x = some (.ref f)) (g : {α : Type} → List α → List α → List α)
    (hrel : ∀ {vs zs : List V} {us ws : List Value}, Vals vs us → Vals zs ws → Vals (g vs zs) (g us ws))
    (hb : ∀ (kV doc pm : Value) (an : Option Addr) (cdv ct : Value) (us ws : List Value), us.length = n → ws.length = ks.length → bindArgs (PySem.W.fnOf x x (defArgs st) (defBody st) (defScope st) .none kV doc pm an cdv ct) ⟨us, ks.zip ws⟩ = pure (ps.zip (g us ws))) :
    OkK P w K mg base k x ps n ks g sp := by
  obtain ⟨fd, F⟩ := F
  obtain ⟨f2, fd2, FO, hm2, kp, _, oc2, od2, osl2, l2⟩ := h
  rw [hm] at hm2
  cases hm2
  obtain ⟨oc, od, dV, kV, doc, pm, an, cdv, ct, osl, rfl, lk, hcd, hD, hK⟩ := F.ex
  rw [lk] at l2
  cases l2
  rcases hD with ⟨_, rfl⟩ | ⟨e, _⟩
  · exact ⟨f, _, g, FO, hm, kp, ⟨fun s us ws _ h1 h2 => .of_eq (hb kV doc pm an cdv ct us ws h1 h2), fun r1 r2 => hrel r1 r2⟩⟩
  · exact absurd rfl e
section
variable {X : Cx} {k n : Nat} {x : Str} {ps ks : List Str} {gV : List V → List V → List V} {sp : Sp} {e : Expr} {es : List Expr} {kws : List Keyword} {t tk : TA} {p pos : Pos}
/-- f(k = v, ..) -/
theorem pe_okK0 (h : OkK X.prog X.w X.K X.mg X.base k x ps 0 ks gV sp) (hr : Room k X.A) (hg : Gl X x) (hkw : PK X kws tk)
    (hall : (backToKw pos (keywordEach kws X.env)).all (·.1.isSome) = true := by rfl) (hks : (backToKw pos (keywordEach kws X.env)).filterMap (·.1) = ks := by rfl) (hdb : (x == ("__debug__" : Str)) = false := by decide)
    (hpl : ((backTo pos (starEach [] X.env)).any (·.1) || (backToKw pos (keywordEach kws X.env)).any (·.1.isNone)) = false := by rfl) :
    PE X (.Call (.Name x p) [] kws pos) (L2.tCallN 0 ks.length sp gV E0 tNil tk) := by
  obtain ⟨f, fd, g, F, hm, kp, hb⟩ := h
  refine ⟨fun pins s σ H Q I h => ?_⟩
  refine wpAny_Call_Name_kw (ld_glob I hg hm ?_ hdb)
  refine PySem.W.callWith_KW0 (h₀ := X.base) I.ok.mod.kin kp hall ?_ hpl
  refine thn (hkw.run pos pins s σ H _ I h) fun ws s2 ⟨zs, H2, I2, rz, l1, l2, q2⟩ => ⟨I2.kIn, ?_⟩
  rw [hks]
  exact run_fnN (us := []) (vs := []) F hr hb pass0 I2 .nil rz rfl l2 q2
/-- f(e, .., k = v, ..) -/
theorem pe_okK (h : OkK X.prog X.w X.K X.mg X.base k x ps n ks gV sp) (hr : Room k X.A) (hg : Gl X x) (ha : PA X (e :: es) t) (hkw : PK X kws tk)
    (hall : (backToKw pos (keywordEach kws X.env)).all (·.1.isSome) = true := by rfl) (hks : (backToKw pos (keywordEach kws X.env)).filterMap (·.1) = ks := by rfl) (hdb : (x == ("__debug__" : Str)) = false := by decide)
    (he : starEach (e :: es) X.env = (false, eval e X.env) :: starEach es X.env := by rfl) (hpl : ((backTo pos (starEach (e :: es) X.env)).any (·.1) || (backToKw pos (keywordEach kws X.env)).any (·.1.isNone)) = false := by rfl) :
    PE X (.Call (.Name x p) (e :: es) kws pos) (L2.tCallN n ks.length sp gV E0 t tk) := by
  obtain ⟨f, fd, g, F, hm, kp, hb⟩ := h
  exact pe_callN F hr hg hm kp hb pass0 ha hkw hall hks hdb he hpl
theorem rd_callN {σ : L2.St} {H : Hp} {Q : VK} {E : XK} {m : Nat} (h : t σ H fun vs H1 => tk σ H1 fun zs H2 => CalN n m sp gV E vs zs H2 Q) : L2.tCallN n m sp gV E t tk σ H Q := h
end
end keywords
section tuples
variable {K : PySem.W.Frag} {σ : L2.St} {H : Hp} {Q : VK} {ta : TE}
theorem rd_slA {p : Addr} {xs : List V} {lo hi : Option Int} (h : H p = some (.tup xs)) (q : ∀ b H2, Same H H2 → H2 b = some (.tup (cutV xs lo hi)) → Q (.ref b) H2) : rSlA K (.ref p) lo hi H Q := by
  refine ⟨p, xs, rfl, sqT_of h, fun e => q p H (.refl _) ?_, fun _ b hb => q b _ (Same.new hb) upd_same⟩
  have e2 : cutV xs lo hi = xs := by
    unfold cutV
    rw [e.1, e.2]
    exact List.take_length
  rw [e2]
  exact h
theorem rd_catA {p q : Addr} {xs ys : List V} (h1 : H p = some (.tup xs)) (h2 : H q = some (.tup ys)) (hl : xs.length + ys.length ≤ sizeLine) (k : ∀ b H2, Same H H2 → H2 b = some (.tup (xs ++ ys)) → Q (.ref b) H2) : rCatA K (.ref p) (.ref q) H Q := by
  refine ⟨p, q, xs, ys, rfl, rfl, sqT_of h1, sqT_of h2, hl, fun e => k q H (.refl _) ?_, fun _ e => k p H (.refl _) ?_, fun _ _ b hb => k b _ (Same.new hb) upd_same⟩
  · rw [e]; exact h2
  · rw [e, List.append_nil]; exact h1
theorem rd_then {kk : V → Hp → VK → Prop} (h : ta σ H fun x H1 => kk x H1 Q) : tThen ta kk σ H Q := h
theorem rd_kTupL {p : Addr} {xs : List V} (h : SqL K H p xs) (q : ∀ b H2, H b = none → Same H H2 → H2 b = some (.tup xs) → Q (.ref b) H2) : kTup K (.ref p) H Q := .inl ⟨p, xs, rfl, h, fun b hb => q b _ hb (Same.new hb) upd_same⟩
theorem rd_kTupT {p : Addr} {xs : List V} (h : SqT K H p xs) (q : Q (.ref p) H) : kTup K (.ref p) H Q := .inr ⟨p, xs, rfl, h, q⟩
theorem rd_app {l : Addr} {xs : List V} {y : V} (h : H l = some (.lst xs)) (hl : xs.length < sizeLine) (q : ∀ H2, Chg l H H2 → H2 l = some (.lst (xs ++ [y])) → Q .non H2) : rAppend (.ref l) [y] H Q := ⟨l, xs, y, rfl, rfl, h, hl, q _ Chg.of upd_same⟩
theorem rd_bmL {T : String} {r : V → List V → Hp → VK → Prop} {t : TA} (h : ta σ H fun x H1 => BmL K T r t σ x H1 Q) : tBM K T r ta t σ H Q := h
theorem rd_bml {r : V → List V → Hp → VK → Prop} {t : TA} {l : Addr} {xs : List V} (h : SqL K H l xs) (q : t σ H fun ys H2 => r (.ref l) ys H2 Q) : BmL K "list" r t σ (.ref l) H Q := ⟨.inl ⟨rfl, xs, h⟩, q⟩
theorem rd_par {D : Ends} {i j : Nat} {t : TA} (h : t σ H fun vs H1 => ParB i j vs D.nx σ H1) : tPar i j t D σ H := h
theorem rd_parB {i j : Nat} {v w : V} {N : L2.St → Hp → Prop} (h : N ((σ.set i (some v)).set j (some w)) H) : ParB i j [v, w] N σ H := ⟨v, w, rfl, h⟩
end tuples
section union
theorem Ok.union {P : Program} {w : World} {K : PySem.W.Frag} {mg : Str → Option Value} {base : Heap} {k N : Nat} {x : Str} {ps : List Str} {sp : Nat → Sp} (h : ∀ n, n ≤ N → Ok P w K mg base k x ps (sp n)) : Ok P w K mg base k x ps fun vs H Q E => ∃ n, n ≤ N ∧ sp n vs H Q E := by
  obtain ⟨f, fd, F, a, b, c, oc, od, osl, l⟩ := h 0 (Nat.zero_le _)
  have key : ∀ n, n ≤ N → FnOk P w K mg base CX0 k f fd ps (sp n) := fun n hn => by
    obtain ⟨f', fd', F', a', b', c', oc', od', osl', l'⟩ := h n hn
    rw [a] at a'
    cases a'
    rw [l] at l'
    cases l'
    exact F'
  refine ⟨f, fd, ⟨fun vs H Q E ⟨n, hn, q⟩ => (key n hn).len vs H Q E q, fun A outer s H args us vs Q E hr e0 hb hv ⟨n, hn, q⟩ => (key n hn).run A outer s H args us vs Q E hr e0 hb hv q⟩, a, b, c, oc, od, osl, l⟩
end union
theorem Ok.at {P : Program} {w : World} {K : PySem.W.Frag} {mg : Str → Option Value} {base : Heap} {k : Nat} {x qual : Str} {ps : List Str} {sp : Sp} {params : Arguments} {body : List Stmt} {scope : Scope} {dvs : List V} {kws : List (Str × V)} {f : Addr} {fd : FuncData} (h : Ok P w K mg base k x ps sp) (F : FunD K x qual params body scope dvs kws f fd) (hm : mg x = some (.ref f)) : FnOk P w K mg base CX0 k f fd ps sp := by
  obtain ⟨f', fd', F', a', b', c', oc', od', osl', l'⟩ := h
  rw [hm] at a'
  cases a'
  obtain ⟨oc, od, osl, l⟩ := fund_at F
  rw [l] at l'
  cases l'
  exact F'
/-! ## comprehensions whose turns change nothing; data at any depth -/
section comps
def WkT (K : PySem.W.Frag) (x : V) (H : Hp) (R : It → Hp → Prop) : Prop := ∃ a, x = .ref a ∧ (∃ xs, SqT K H a xs) ∧ R (Itt K a) H
def WkL (K : PySem.W.Frag) (x : V) (H : Hp) (R : It → Hp → Prop) : Prop := ∃ a, x = .ref a ∧ (∃ xs, SqL K H a xs) ∧ R (Itl K a) H
def WkS (x : V) (H : Hp) (R : It → Hp → Prop) : Prop := ∃ z, x = .str z ∧ R (Its z) H
/-- what a comprehension asks behind its iterable -/
def LcB (J : It) (g : TG) (tt : TT) (te : TE) (vs : List Nat) (σ : L2.St) (H : Hp) (Q : VK) : Prop :=
  ∀ D, H D = none → ∃ W : Nat → Nat → Hp → Prop, (∃ m, W 0 m (upd H D (.lst []))) ∧ ∀ i m H', W i m H' →
    (J.stop i H' ∧ Q (.ref D) H') ∨ (J.go i H' ∧ ∃ Nx : Hp → Prop, (∀ H2, Nx H2 → ∃ m', m' < m ∧ W (i + 1) m' H2) ∧ ∀ x H2, J.yld i H' x H2 → g x (wipe σ vs) H2 fun σ2 H3 => wipe σ2 vs = wipe σ vs ∧ tt σ2 H3 fun b H4 =>
      if b = true then te σ2 H4 fun y H5 => ∃ acc, H5 D = some (.lst acc) ∧ acc.length < sizeLine ∧ Nx (upd H5 D (.lst (acc ++ [y]))) else Nx H4)
/-- a comprehension over a walk: turn i gives f i, or nothing; what stood stays -/
theorem lc_pure {J : It} {n : Nat} {G : Hp → Prop} {Y : Nat → Hp → V → Hp → Prop} (wk : Walk J n G Y) {g : TG} {tt : TT} {te : TE} {vs : List Nat} {σ : L2.St} {H : Hp} {Q : VK} (hG : ∀ H', Same H H' → G H') (f : Nat → Option V) (hn : n ≤ 100000)
    (hs : ∀ i x H2 H3 (Q' : VK) (N' : Hp → Prop), i < n → Same H H2 → Y i H2 x H3 → (∀ v H4, f i = some v → Same H2 H4 → Q' v H4) → (∀ H4, f i = none → Same H2 H4 → N' H4) →
      g x (wipe σ vs) H3 fun σ2 H4 => wipe σ2 vs = wipe σ vs ∧ tt σ2 H4 fun b H5 => if b = true then te σ2 H5 Q' else N' H5)
    (hd : ∀ D H', H D = none → Same H H' → H' D = some (.lst ((List.range n).filterMap f)) → Q (.ref D) H') :
    LcB J g tt te vs σ H Q := by
  intro D hD
  have stay : ∀ {H2 : Hp} {o : HO}, Same H H2 → Same H (upd H2 D o) := fun {H2 o} s b u e => by
    rw [upd_ne (ne_of_none e hD)]
    exact s b u e
  refine lc_it wk (Pv := fun i H2 => Same H H2 ∧ H2 D = some (.lst ((List.range i).filterMap f))) ⟨Same.new hD, upd_same⟩ (fun i H2 _ p => hG _ p.1) (fun i x H2 H3 hi p y => ?_) (fun H2 p => hd D H2 hD p.1 p.2)
  refine hs i x H2 H3 _ _ hi p.1 y (fun v H4 hf s4 => ?_) (fun H4 hf s4 => ?_)
  · refine ⟨_, s4 _ _ p.2, ?_, stay (p.1.trans s4), ?_⟩
    · refine Nat.lt_of_le_of_lt (List.length_filterMap_le _ _) ?_
      rw [List.length_range]
      exact sz_smaller (by omega)
    · rw [upd_same, List.range_succ, List.filterMap_append]
      simp [hf]
  · refine ⟨p.1.trans s4, ?_⟩
    rw [s4 _ _ p.2, List.range_succ, List.filterMap_append]
    simp [hf]
section
variable {K : PySem.W.Frag} {σ : L2.St} {H : Hp} {Q : VK} {wi : TI} {g : TG} {tt : TT} {te tl : TE} {vs : List Nat} {QB : Bool → Hp → Prop}
theorem rd_lc (h : wi σ H fun J H1 => LcB J g tt te vs σ H1 Q) : tLc wi g tt te vs σ H Q := h
theorem rd_iTup {R : It → Hp → Prop} (h : tl σ H fun x H1 => WkT K x H1 R) : iTup K tl σ H R := h
theorem rd_iList {R : It → Hp → Prop} (h : tl σ H fun x H1 => WkL K x H1 R) : iList K tl σ H R := h
theorem rd_iStr {R : It → Hp → Prop} (h : tl σ H fun x H1 => WkS x H1 R) : iStr tl σ H R := h
theorem rd_wkT {p : Addr} {xs : List V} {R : It → Hp → Prop} (h : SqT K H p xs) (r : R (Itt K p) H) : WkT K (.ref p) H R := ⟨p, rfl, ⟨xs, h⟩, r⟩
theorem rd_wkL {p : Addr} {xs : List V} {R : It → Hp → Prop} (h : SqL K H p xs) (r : R (Itl K p) H) : WkL K (.ref p) H R := ⟨p, rfl, ⟨xs, h⟩, r⟩
theorem rd_wkS {z : Str} {R : It → Hp → Prop} (r : R (Its z) H) : WkS (.str z) H R := ⟨z, rfl, r⟩
theorem rd_yes (q : QB true H) : tYes σ H QB := q
theorem rd_wipe {σ' : L2.St} {A : Prop} (h : wipe σ vs = wipe σ' vs) (a : A) : wipe σ vs = wipe σ' vs ∧ A := ⟨h, a⟩
end
end comps

section data
theorem rd_nbool {b : Bool} {A B : Prop} (h1 : b = false → A) (h2 : b = true → B) : if (!b) = true then A else B := by
  cases b with
  | true => exact iteF (h2 rfl)
  | false => exact iteT (h1 rfl)
/-- v stands for the datum d, of depth at most n -/
def Dn : Nat → Hp → V → PyData → Prop
  | n, H, v, d => match d with
    | .none => v = .non
    | .bool b => v = .bl b
    | .int i => v = .int i
    | .str x => v = .str x ∧ PyData.strOk x = true ∧ x.length ≤ 16000000
    | .list ds => match n with
      | 0 => False
      | m + 1 => ∃ a xs, v = .ref a ∧ H a = some (.lst xs) ∧ isBag (.lst xs) = false ∧ xs.length ≤ 100000 ∧ Paired (Dn m H) xs ds
    | .tuple ds => match n with
      | 0 => False
      | m + 1 => ∃ a xs, v = .ref a ∧ H a = some (.tup xs) ∧ xs.length ≤ 100000 ∧ Paired (Dn m H) xs ds
    | .dict _ => False
  termination_by structural n => n
theorem pimp {α β : Type} {F G : α → β → Prop} {l : List α} {r : List β} (h : Paired F l r) (f : ∀ a b, F a b → G a b) : Paired G l r := by
  induction h with
  | nil => exact .nil
  | cons a _ ih => exact .cons (f _ _ a) ih
theorem Dn.ext {H H' : Hp} (e : Ext H H') : ∀ {n : Nat} {v : V} {d : PyData}, Dn n H v d → Dn n H' v d := by
  intro n
  induction n with
  | zero =>
    intro v d h
    cases d <;> exact h
  | succ m ih =>
    intro v d h
    cases d with
    | list ds =>
      obtain ⟨a, xs, rfl, h1, h2, hz, h3⟩ := h
      exact ⟨a, xs, rfl, e _ _ h1 h2, h2, hz, pimp h3 fun _ _ q => ih q⟩
    | tuple ds =>
      obtain ⟨a, xs, rfl, h1, hz, h3⟩ := h
      exact ⟨a, xs, rfl, e _ _ h1 rfl, hz, pimp h3 fun _ _ q => ih q⟩
    | _ => exact h
theorem Dn.same {H H' : Hp} {n : Nat} {v : V} {d : PyData} (e : Same H H') (h : Dn n H v d) : Dn n H' v d := Dn.ext (.of e) h
theorem Dn.up1 {H : Hp} : ∀ {n : Nat} {v : V} {d : PyData}, Dn n H v d → Dn (n + 1) H v d := by
  intro n
  induction n with
  | zero =>
    intro v d h
    cases d with
    | list ds => exact h.elim
    | tuple ds => exact h.elim
    | _ => exact h
  | succ m ih =>
    intro v d h
    cases d with
    | list ds =>
      obtain ⟨a, xs, rfl, h1, h2, hz, h3⟩ := h
      exact ⟨a, xs, rfl, h1, h2, hz, pimp h3 fun _ _ q => ih q⟩
    | tuple ds =>
      obtain ⟨a, xs, rfl, h1, hz, h3⟩ := h
      exact ⟨a, xs, rfl, h1, hz, pimp h3 fun _ _ q => ih q⟩
    | _ => exact h
theorem Dn.up {H : Hp} {n m : Nat} {v : V} {d : PyData} (h : Dn n H v d) (l : n ≤ m) : Dn m H v d := by
  induction l with
  | refl => exact h
  | step _ ih => exact ih.up1
theorem Dn.dp {K : PySem.W.Frag} {H : Hp} : ∀ {n : Nat} {v : V} {d : PyData}, Dn n H v d → Dp K H v d ∧ d.canLay0 = true ∧ d.depth ≤ n := by
  intro n
  induction n with
  | zero =>
    intro v d h
    cases d with
    | none => cases (show v = .non from h); exact ⟨.non, rfl, Nat.le_refl _⟩
    | bool b => cases (show v = .bl b from h); exact ⟨.bl b, rfl, Nat.le_refl _⟩
    | int i => cases (show v = .int i from h); exact ⟨.int i, rfl, Nat.le_refl _⟩
    | str x =>
      obtain ⟨rfl, h, _⟩ := h
      exact ⟨.str x, h, Nat.le_refl _⟩
    | _ => exact h.elim
  | succ m ih =>
    intro v d h
    have all : ∀ {xs : List V} {ds : List PyData}, Paired (Dn m H) xs ds → DpAll K H xs ds ∧ PyData.canLayAll0 ds = true ∧ PyData.depthAll ds ≤ m := by
      intro xs ds p
      induction p with
      | nil => exact ⟨.nil, rfl, Nat.zero_le _⟩
      | cons a _ r =>
        obtain ⟨a1, a2, a3⟩ := ih a
        obtain ⟨r1, r2, r3⟩ := r
        refine ⟨.cons a1 r1, ?_, Nat.max_le.mpr ⟨a3, r3⟩⟩
        show (_ && _) = true
        rw [a2, r2] <;> rfl
    cases d with
    | none => cases (show v = .non from h); exact ⟨.non, rfl, Nat.zero_le _⟩
    | bool b => cases (show v = .bl b from h); exact ⟨.bl b, rfl, Nat.zero_le _⟩
    | int i => cases (show v = .int i from h); exact ⟨.int i, rfl, Nat.zero_le _⟩
    | str x =>
      obtain ⟨rfl, h, _⟩ := h
      exact ⟨.str x, h, Nat.zero_le _⟩
    | list ds =>
      obtain ⟨a, xs, rfl, h1, h2, hz, h3⟩ := h
      obtain ⟨b1, b2, b3⟩ := all h3
      exact ⟨.lst (sqL_of h1) b1, b2, Nat.succ_le_succ b3⟩
    | tuple ds =>
      obtain ⟨a, xs, rfl, h1, hz, h3⟩ := h
      obtain ⟨b1, b2, b3⟩ := all h3
      exact ⟨.tup (sqT_of h1) b1, b2, Nat.succ_le_succ b3⟩
    | dict => exact h.elim
theorem Dn.shaped {H : Hp} {n : Nat} {v : V} {d : PyData} (h : Dn n H v d) (l : n ≤ 64) : SeqAt.shaped d = true := by
  obtain ⟨_, a, b⟩ := h.dp (K := [])
  unfold SeqAt.shaped
  rw [a, decide_eq_true (Nat.le_trans b l)] <;> rfl
theorem Dn.len {H : Hp} {n : Nat} {xs : List V} {ds : List PyData} (h : Paired (Dn n H) xs ds) : xs.length = ds.length := h.length
/-- the name of a datum's type -/
def tyN : PyData → String
  | .none => "NoneType" | .bool _ => "bool" | .int _ => "int" | .str _ => "str" | .list _ => "list" | .tuple _ => "tuple" | .dict _ => "dict"
def isA (T : String) (d : PyData) : Bool := (kitB (tyN d) T).getD false
theorem isA_is {T : String} {d : PyData} (hT : T ∈ ["int", "bool", "str", "tuple", "list"]) : kitB (tyN d) T = some (isA T d) := by
  simp only [List.mem_cons, List.not_mem_nil, or_false] at hT
  rcases hT with rfl | rfl | rfl | rfl | rfl <;> cases d <;> kernel_rfl
theorem isA_int (d : PyData) : isA "int" d = match d with | .int _ => true | .bool _ => true | _ => false := by cases d <;> kernel_rfl
theorem isA_bool (d : PyData) : isA "bool" d = match d with | .bool _ => true | _ => false := by cases d <;> kernel_rfl
theorem isA_str (d : PyData) : isA "str" d = match d with | .str _ => true | _ => false := by cases d <;> kernel_rfl
theorem isA_tuple (d : PyData) : isA "tuple" d = match d with | .tuple _ => true | _ => false := by cases d <;> kernel_rfl
theorem isA_list (d : PyData) : isA "list" d = match d with | .list _ => true | _ => false := by cases d <;> kernel_rfl
theorem Dn.ty {K : PySem.W.Frag} {H : Hp} {n : Nat} {v : V} {d : PyData} (h : Dn n H v d) : TyX K H v (.type (tyN d)) := by
  cases d with
  | none => cases n <;> (cases (show v = .non from h); exact .base .non)
  | bool b => cases n <;> (cases (show v = .bl b from h); exact .base (.bl b))
  | int i => cases n <;> (cases (show v = .int i from h); exact .base (.int i))
  | str x => cases n <;> (obtain ⟨rfl, h⟩ := h; exact .base (.str x))
  | list ds =>
    cases n with
    | zero => exact h.elim
    | succ m =>
      obtain ⟨a, xs, rfl, h1, h2, hz, h3⟩ := h
      exact .base (.lst h1)
  | tuple ds =>
    cases n with
    | zero => exact h.elim
    | succ m =>
      obtain ⟨a, xs, rfl, h1, hz, h3⟩ := h
      exact .base (.tup h1)
  | dict => cases n <;> exact h.elim
theorem rd_isi {K : PySem.W.Frag} {H : Hp} {n : Nat} {v : V} {d : PyData} {Q : VK} {T : String} (h : Dn n H v d) (hT : T ∈ ["int", "bool", "str", "tuple", "list"]) (q : Q (.bl (isA T d)) H) : rIsi K [v, .ty T] H Q :=
  ⟨v, .ty T, .type (tyN d), .type T, isA T d, rfl, .ty T, h.ty, kit_ty (isA_is hT), q⟩
theorem Dn.of_tuple {H : Hp} {n : Nat} {v : V} {ds : List PyData} (h : Dn n H v (.tuple ds)) : ∃ m a xs, n = m + 1 ∧ v = .ref a ∧ H a = some (.tup xs) ∧ Paired (Dn m H) xs ds := by
  cases n with
  | zero => exact h.elim
  | succ m =>
    obtain ⟨a, xs, h1, h2, _, h3⟩ := h
    exact ⟨m, a, xs, rfl, h1, h2, h3⟩
theorem Dn.tlen {H : Hp} {n : Nat} {a : Addr} {xs : List V} {ds : List PyData} (h : Dn n H (.ref a) (.tuple ds)) (e : H a = some (.tup xs)) : xs.length ≤ 100000 := by
  cases n with
  | zero => exact h.elim
  | succ m =>
    obtain ⟨a, ys, h1, h2, h3, _⟩ := h
    cases h1
    rw [e] at h2
    cases h2
    exact h3
theorem Dn.llen {H : Hp} {n : Nat} {a : Addr} {xs : List V} {ds : List PyData} (h : Dn n H (.ref a) (.list ds)) (e : H a = some (.lst xs)) : xs.length ≤ 100000 := by
  cases n with
  | zero => exact h.elim
  | succ m =>
    obtain ⟨a, ys, h1, h2, _, h3, _⟩ := h
    cases h1
    rw [e] at h2
    cases h2
    exact h3
theorem Dn.of_list {H : Hp} {n : Nat} {v : V} {ds : List PyData} (h : Dn n H v (.list ds)) : ∃ m a xs, n = m + 1 ∧ v = .ref a ∧ H a = some (.lst xs) ∧ isBag (.lst xs) = false ∧ Paired (Dn m H) xs ds := by
  cases n with
  | zero => exact h.elim
  | succ m =>
    obtain ⟨a, xs, h1, h2, hb, _, h3⟩ := h
    exact ⟨m, a, xs, rfl, h1, h2, hb, h3⟩
theorem Dn.int {H : Hp} {n : Nat} (i : Int) : Dn n H (.int i) (.int i) := by cases n <;> exact rfl
theorem Dn.bl {H : Hp} {n : Nat} (b : Bool) : Dn n H (.bl b) (.bool b) := by cases n <;> exact rfl
theorem Dn.non {H : Hp} {n : Nat} : Dn n H .non .none := by cases n <;> exact rfl
theorem Dn.str {H : Hp} {n : Nat} {x : Str} (h : PyData.strOk x = true) (l : x.length ≤ 16000000) : Dn n H (.str x) (.str x) := by cases n <;> exact ⟨rfl, h, l⟩
theorem Dn.tup {H : Hp} {n : Nat} {a : Addr} {xs : List V} {ds : List PyData} (h : H a = some (.tup xs)) (p : Paired (Dn n H) xs ds) (l : ds.length ≤ 100000 := by decide) : Dn (n + 1) H (.ref a) (.tuple ds) := ⟨a, xs, rfl, h, by rw [Dn.len p]; exact l, p⟩
theorem Dn.lst {H : Hp} {n : Nat} {a : Addr} {xs : List V} {ds : List PyData} (h : H a = some (.lst xs)) (b : isBag (.lst xs) = false) (p : Paired (Dn n H) xs ds) (l : ds.length ≤ 100000 := by decide) : Dn (n + 1) H (.ref a) (.list ds) := ⟨a, xs, rfl, h, b, by rw [Dn.len p]; exact l, p⟩
theorem pat {α β : Type} {F : α → β → Prop} {l : List α} {r : List β} (h : Paired F l r) {i : Nat} {x : α} (hx : l[i]? = some x) : ∃ y, r[i]? = some y ∧ F x y := by
  induction h generalizing i with
  | nil => cases hx
  | cons a _ ih =>
    cases i with
    | zero => cases hx; exact ⟨_, rfl, a⟩
    | succ j => exact ih (i := j) hx
end data
theorem eqv_str (d : PyData) (z : Str) : PyData.eqv d (.str z) = match d with | .str w => w == z | _ => false := by
  cases d <;> rfl
theorem rd_neD {K : PySem.W.Frag} {H : Hp} {Q : VK} {n m : Nat} {x y : V} {d e : PyData} (hn : n ≤ 64) (hm : m ≤ 64) (h1 : Dn n H x d) (h2 : Dn m H y e) (q : Q (.bl (!PyData.eqv d e)) H) : rNeD K x y H Q := ⟨d, e, h1.dp.1, h2.dp.1, h1.shaped hn, h2.shaped hm, q⟩
theorem rd_eqD {K : PySem.W.Frag} {H : Hp} {Q : VK} {n m : Nat} {x y : V} {d e : PyData} (hn : n ≤ 64) (hm : m ≤ 64) (h1 : Dn n H x d) (h2 : Dn m H y e) (q : Q (.bl (PyData.eqv d e)) H) : rEqD K x y H Q := ⟨d, e, h1.dp.1, h2.dp.1, h1.shaped hn, h2.shaped hm, q⟩
theorem Dn.two {H : Hp} {n : Nat} {xs : List V} {ds : List PyData} (h : Paired (Dn n H) xs ds) (l : xs.length = 2) : ∃ x1 x2 d1 d2, xs = [x1, x2] ∧ ds = [d1, d2] ∧ Dn n H x1 d1 ∧ Dn n H x2 d2 := by
  cases h with
  | nil => cases l
  | cons a h =>
    cases h with
    | nil => cases l
    | cons b h =>
      cases h with
      | nil => exact ⟨_, _, _, _, rfl, rfl, a, b⟩
      | cons c h => simp at l
theorem Dn.three {H : Hp} {n : Nat} {xs : List V} {ds : List PyData} (h : Paired (Dn n H) xs ds) (l : xs.length = 3) : ∃ x1 x2 x3 d1 d2 d3, xs = [x1, x2, x3] ∧ ds = [d1, d2, d3] ∧ Dn n H x1 d1 ∧ Dn n H x2 d2 ∧ Dn n H x3 d3 := by
  cases h with
  | nil => cases l
  | cons a h =>
    cases h with
    | nil => cases l
    | cons b h =>
      cases h with
      | nil => cases l
      | cons c h =>
        cases h with
        | nil => exact ⟨_, _, _, _, _, _, rfl, rfl, a, b, c⟩
        | cons d h => simp at l
theorem Dn.eq_int {H : Hp} {n : Nat} {v : V} {i : Int} (h : Dn n H v (.int i)) : v = .int i := by cases n <;> exact h
theorem Dn.eq_str {H : Hp} {n : Nat} {v : V} {x : Str} (h : Dn n H v (.str x)) : v = .str x := by cases n <;> exact h.1
/-- what a for asks behind its iterable -/
def FoB (J : It) (g : TG) (tb : TS) (D : Ends) (σ : L2.St) (H : Hp) : Prop := ∃ W : Nat → Nat → L2.St → Hp → Prop, (∃ m, W 0 m σ H) ∧ ∀ i m σ1 H1, W i m σ1 H1 →
  (J.stop i H1 ∧ D.nx σ1 H1) ∨ (J.go i H1 ∧ ∃ N : L2.St → Hp → Prop, (∀ σ2 H2, N σ2 H2 → ∃ m', m' < m ∧ W (i + 1) m' σ2 H2) ∧ ∀ x H2, J.yld i H1 x H2 → g x σ1 H2 fun σ3 H3 => tb { D with nx := N, ct := N, bk := D.nx } σ3 H3)
theorem rd_for {wi : TI} {g : TG} {tb : TS} {D : Ends} {σ : L2.St} {H : Hp} (h : wi σ H fun J H1 => FoB J g tb D σ H1) : tFor wi g tb D σ H := h
theorem fo_it {J : It} {n : Nat} {G : Hp → Prop} {Y : Nat → Hp → V → Hp → Prop} (wk : Walk J n G Y) {g : TG} {tb : TS} {D : Ends} {σ : L2.St} {H : Hp} (Pv : Nat → L2.St → Hp → Prop) (h0 : Pv 0 σ H) (hG : ∀ i σ1 H1, i ≤ n → Pv i σ1 H1 → G H1)
    (hs : ∀ i x σ1 H1 H2, i < n → Pv i σ1 H1 → Y i H1 x H2 → g x σ1 H2 fun σ3 H3 => tb { D with nx := Pv (i + 1), ct := Pv (i + 1), bk := D.nx } σ3 H3) (hd : ∀ σ1 H1, Pv n σ1 H1 → D.nx σ1 H1) : FoB J g tb D σ H := for_it wk Pv h0 hG hs hd
def WkR (vs : List V) (H : Hp) (R : It → Hp → Prop) : Prop := ∃ j : Int, vs = [.int j] ∧ -(2 ^ 62) ≤ j ∧ j < 2 ^ 62 ∧ R (Itr 0 j.toNat) H
theorem rd_iRng1 {ta : TA} {σ : L2.St} {H : Hp} {R : It → Hp → Prop} (h : ta σ H fun vs H1 => WkR vs H1 R) : iRng1 ta σ H R := h
theorem rd_wkR {j : Int} {H : Hp} {R : It → Hp → Prop} (h : -1000000000 ≤ j ∧ j ≤ 1000000000) (r : R (Itr 0 j.toNat) H) : WkR [.int j] H R := ⟨j, rfl, by omega, by omega, r⟩
theorem walk_zipT {K : PySem.W.Frag} {a b : Addr} {xs ys : List V} {n : Nat} (hn : n = min xs.length ys.length) : Walk (RZ.ItzT K a b) n (fun H => SqT K H a xs ∧ SqT K H b ys) (YPair (fun i => xs[i]?) (fun i => ys[i]?)) := by
  subst hn
  refine ⟨fun i H hi q => ?_, fun H q => ⟨xs, ys, q.1, q.2, by omega⟩, fun i H v H' _ q y => ?_⟩
  · have h1 : i < xs.length := by omega
    have h2 : i < ys.length := by omega
    exact ⟨xs, ys, xs[i], ys[i], q.1, q.2, List.getElem?_eq_getElem h1, List.getElem?_eq_getElem h2⟩
  · obtain ⟨T, x, z, h1, h2, h3, h4, h5⟩ := y
    exact ⟨T, x, z, h1, h2, h3, h4 xs q.1, h5 ys q.2⟩
def WkZ (K : PySem.W.Frag) (vs : List V) (H : Hp) (R : It → Hp → Prop) : Prop := ∃ a b xs ys, vs = [.ref a, .ref b] ∧ ((SqL K H a xs ∧ SqL K H b ys ∧ R (Itz K a b) H) ∨ (SqT K H a xs ∧ SqT K H b ys ∧ R (RZ.ItzT K a b) H))
theorem rd_iZipA {K : PySem.W.Frag} {ta : TA} {σ : L2.St} {H : Hp} {R : It → Hp → Prop} (h : ta σ H fun vs H1 => WkZ K vs H1 R) : RZ.iZipA K ta σ H R := h
theorem rd_wkZL {K : PySem.W.Frag} {a b : Addr} {xs ys : List V} {H : Hp} {R : It → Hp → Prop} (h1 : SqL K H a xs) (h2 : SqL K H b ys) (r : R (Itz K a b) H) : WkZ K [.ref a, .ref b] H R := ⟨a, b, xs, ys, rfl, .inl ⟨h1, h2, r⟩⟩
theorem rd_wkZT {K : PySem.W.Frag} {a b : Addr} {xs ys : List V} {H : Hp} {R : It → Hp → Prop} (h1 : SqT K H a xs) (h2 : SqT K H b ys) (r : R (RZ.ItzT K a b) H) : WkZ K [.ref a, .ref b] H R := ⟨a, b, xs, ys, rfl, .inr ⟨h1, h2, r⟩⟩
theorem rd_isiLT {K : PySem.W.Frag} {H : Hp} {n : Nat} {v : V} {d : PyData} {Q : VK} {tp : Addr} (h : Dn n H v d) (ht : H tp = some (.tup [.ty "list", .ty "tuple"])) (q : Q (.bl (isA "list" d || isA "tuple" d)) H) : rIsiT K [v, .ref tp] H Q := by
  refine ⟨v, tp, _, .type (tyN d), [.type "list", .type "tuple"], isA "list" d || isA "tuple" d, rfl, ht, .cons (.ty _) (.cons (.ty _) .nil), h.ty, ?_, q⟩
  refine kitAny_cons (kit_ty (isA_is (by decide))) (fun e => ?_) (fun e => by rw [e] <;> rfl)
  rw [e, Bool.false_or]
  refine kitAny_cons (kit_ty (isA_is (by decide))) (fun e2 => ?_) (fun e2 => e2)
  rw [e2]
  exact kitAny_nil
/-- both stand for the same datum: True -/
def spSame (n : Nat) : Sp := fun vs H Q _ => ∃ (v1 v2 : V) (d : PyData), vs = [v1, v2] ∧ Dn n H v1 d ∧ Dn n H v2 d ∧ ∀ H', Same H H' → Q (.bl true) H'
theorem all_yes (n : Nat) : (List.range n).filterMap (fun _ => some (V.bl true)) = ((List.range n).map fun _ => true).map V.bl := by
  rw [List.map_map]
  generalize List.range n = l
  induction l with
  | nil => rfl
  | cons a l ih => rw [List.filterMap_cons, List.map_cons, ← ih] <;> rfl
theorem all_yes2 (n : Nat) : (((List.range n).map fun _ => true).all id) = true := by
  rw [List.all_map, List.all_eq_true]
  exact fun _ _ => rfl
section tupdata
/-- tuples stay -/
def Tps (H H' : Hp) : Prop := ∀ b xs, H b = some (.tup xs) → H' b = some (.tup xs)
theorem Tps.of {H H' : Hp} (e : Ext H H') : Tps H H' := fun b xs h => e b _ h rfl
theorem Tps.chg {l : Addr} {H H' : Hp} {xs : List V} (c : Chg l H H') (h : H l = some (.lst xs)) : Tps H H' := fun b ys e => by
  rw [c b fun q => by subst q; rw [h] at e; cases e]
  exact e
theorem Tps.trans {H H1 H2 : Hp} (a : Tps H H1) (b : Tps H1 H2) : Tps H H2 := fun c xs h => b c xs (a c xs h)
/-- v stands for the datum d, made of tuples alone, of depth at most n -/
def Dt : Nat → Hp → V → PyData → Prop
  | n, H, v, d => match d with
    | .none => v = .non
    | .bool b => v = .bl b
    | .int i => v = .int i
    | .str x => v = .str x ∧ PyData.strOk x = true ∧ x.length ≤ 16000000
    | .tuple ds => match n with
      | 0 => False
      | m + 1 => ∃ a xs, v = .ref a ∧ H a = some (.tup xs) ∧ xs.length ≤ 100000 ∧ Paired (Dt m H) xs ds
    | _ => False
  termination_by structural n => n
theorem Dt.keep {H H' : Hp} (e : Tps H H') : ∀ {n : Nat} {v : V} {d : PyData}, Dt n H v d → Dt n H' v d := by
  intro n
  induction n with
  | zero =>
    intro v d h
    cases d <;> exact h
  | succ m ih =>
    intro v d h
    cases d with
    | tuple ds =>
      obtain ⟨a, xs, rfl, h1, hz, h3⟩ := h
      exact ⟨a, xs, rfl, e _ _ h1, hz, pimp h3 fun _ _ q => ih q⟩
    | _ => exact h
theorem Dt.dn {H : Hp} : ∀ {n : Nat} {v : V} {d : PyData}, Dt n H v d → Dn n H v d := by
  intro n
  induction n with
  | zero =>
    intro v d h
    cases d <;> first | exact h | exact h.elim
  | succ m ih =>
    intro v d h
    cases d with
    | tuple ds =>
      obtain ⟨a, xs, rfl, h1, hz, h3⟩ := h
      exact ⟨a, xs, rfl, h1, hz, pimp h3 fun _ _ q => ih q⟩
    | list => exact h.elim
    | dict => exact h.elim
    | _ => exact h
theorem Dt.up1 {H : Hp} : ∀ {n : Nat} {v : V} {d : PyData}, Dt n H v d → Dt (n + 1) H v d := by
  intro n
  induction n with
  | zero =>
    intro v d h
    cases d with
    | tuple ds => exact h.elim
    | _ => exact h
  | succ m ih =>
    intro v d h
    cases d with
    | tuple ds =>
      obtain ⟨a, xs, rfl, h1, hz, h3⟩ := h
      exact ⟨a, xs, rfl, h1, hz, pimp h3 fun _ _ q => ih q⟩
    | _ => exact h
theorem Dt.up {H : Hp} {n m : Nat} {v : V} {d : PyData} (h : Dt n H v d) (l : n ≤ m) : Dt m H v d := by
  induction l with
  | refl => exact h
  | step _ ih => exact ih.up1
theorem Dt.int {H : Hp} {n : Nat} (i : Int) : Dt n H (.int i) (.int i) := by cases n <;> exact rfl
theorem Dt.str {H : Hp} {n : Nat} {x : Str} (h : PyData.strOk x = true) (l : x.length ≤ 16000000) : Dt n H (.str x) (.str x) := by cases n <;> exact ⟨rfl, h, l⟩
theorem Dt.tup {H : Hp} {n : Nat} {a : Addr} {xs : List V} {ds : List PyData} (h : H a = some (.tup xs)) (p : Paired (Dt n H) xs ds) (l : ds.length ≤ 100000 := by decide) : Dt (n + 1) H (.ref a) (.tuple ds) := ⟨a, xs, rfl, h, by rw [p.length]; exact l, p⟩
end tupdata
theorem Ext.chg {q : Addr} {H H3 H4 : Hp} (e : Ext H H3) (c : Chg q H3 H4) (h0 : H q = none) : Ext H H4 := fun b o h n => by
  rw [c b (ne_of_none h h0)]
  exact e b o h n
theorem Bag.chg {a c q : Addr} {ns : List Int} {H H' : Hp} (b : Bag a c ns H) (g : Chg q H H') (h1 : a ≠ q) (h2 : c ≠ q) : Bag a c ns H' := by
  obtain ⟨i, x, s, e1, e2, r⟩ := b
  exact ⟨i, x, s, by rw [g a h1]; exact e1, by rw [g c h2]; exact e2, r⟩
theorem Bag.free {a c q : Addr} {ns : List Int} {H : Hp} (b : Bag a c ns H) (h : H q = none) : a ≠ q ∧ c ≠ q := by
  obtain ⟨i, x, s, e1, e2, r⟩ := b
  exact ⟨ne_of_none e1 h, ne_of_none e2 h⟩
theorem Ext.free {H H' : Hp} (e : Ext H H') {q : Addr} (h : H' q = none) {o : HO} (n : isBag o = false) : H q ≠ some o := fun z => by
  rw [e _ _ z n] at h
  cases h
/-! ### the terms that the law draws -/
def GItem (nms : List Str) (rec : PyData → Prop) (d : PyData) : Prop := ∃ f x, d = .tuple [.int f, x] ∧ -9 ≤ f ∧ f ≤ 9 ∧ f ≠ 0 ∧
  ((∃ z, x = .str z ∧ z ∈ nms) ∨ ∃ i j k t, x = .tuple [.str "floor", .tuple [.int i, .int j, .int k], t] ∧ (-9 ≤ i ∧ i ≤ 9 ∧ -3 ≤ j ∧ j ≤ 3 ∧ 1 ≤ k ∧ k ≤ 4) ∧ rec t)
def GT (nms : List Str) (rec : PyData → Prop) (d : PyData) : Prop := ∃ its c, d = .tuple [.tuple its, .int c] ∧ its.length ≤ 4 ∧ -1000 ≤ c ∧ c ≤ 1000 ∧ ∀ x ∈ its, GItem nms rec x
def GTerm (nms : List Str) : Nat → PyData → Prop
  | 0 => GT nms fun _ => False
  | n + 1 => GT nms (GTerm nms n)
def GRec (nms : List Str) : Nat → PyData → Prop
  | 0 => fun _ => False
  | n + 1 => GTerm nms n
theorem GTerm_eq (nms : List Str) (n : Nat) : GTerm nms n = GT nms (GRec nms n) := by cases n <;> rfl
def spAnySlope : Sp := fun vs H Q _ => ∃ (a c : Addr) (ns : List Int), vs = [.ref a] ∧ Bag a c ns H ∧
  ∀ v i j k H', (-9 ≤ i ∧ i ≤ 9 ∧ -3 ≤ j ∧ j ≤ 3 ∧ 1 ≤ k ∧ k ≤ 4) → Ext H H' → Bag a c ns H' → Dt 1 H' v (.tuple [.int i, .int j, .int k]) → Q v H'
def goodNames (nms : List Str) : Prop := nms.length ≤ 100 ∧ ∀ z ∈ nms, PyData.strOk z = true ∧ z.length ≤ 16000000
def spAnyTerm (n : Nat) : Sp := fun vs H Q _ => ∃ (a c l : Addr) (ns : List Int) (nms : List Str), vs = [.ref a, .ref l, .int (n : Int)] ∧ Bag a c ns H ∧ H l = some (.lst (nms.map V.str)) ∧ goodNames nms ∧
  ∀ v d H', Ext H H' → Bag a c ns H' → Dt (3 + 4 * n) H' v d → GTerm nms n d → Q v H'
theorem eqv_nil (l : List Str) : PyData.eqv (.list (l.map PyData.str)) (.list []) = l.isEmpty := by cases l <;> rfl
theorem dn_strs {H : Hp} {l : Addr} {nms : List Str} (h : H l = some (.lst (nms.map V.str))) (g : goodNames nms) : Dn 1 H (.ref l) (.list (nms.map PyData.str)) := by
  refine ⟨l, _, rfl, h, bag_strs _, by rw [List.length_map]; have := g.1; omega, ?_⟩
  have g2 := g.2
  clear g h
  induction nms with
  | nil => exact .nil
  | cons z r ih => exact .cons ⟨rfl, g2 z (List.mem_cons_self ..)⟩ (ih fun y hy => g2 y (List.mem_cons_of_mem _ hy))
theorem cut4 (xs : List V) (h : xs.length ≤ 4) : cutV xs none (some 4) = xs := by
  unfold cutV
  have e1 : HT.sIx xs.length 0 none = 0 := rfl
  have e2 : HT.sIx xs.length xs.length (some 4) = xs.length := by
    have := HT.sIx_nat xs.length xs.length 4
    rw [show ((4 : Nat) : Int) = 4 from rfl] at this
    rw [this]
    omega
  rw [e1, e2]
  exact List.take_length
/-- between two turns of the loop that draws a term's items -/
def TermInv (a c l q : Addr) (ns : List Int) (nms : List Str) (n : Nat) (H : Hp) (i : Nat) (σ : L2.St) (H' : Hp) : Prop := ∃ (o5 o6 : Option V) (ps : List Addr) (ds : List PyData),
  σ = [some (.ref a), some (.ref l), some (.int (n : Int)), some (.ref q), o5, o6] ∧ Ext H H' ∧ Bag a c ns H' ∧ H' q = some (.lst (ps.map V.ref)) ∧ Paired (Dt (1 + 4 * n) H') (ps.map V.ref) ds ∧ ds.length ≤ i ∧ ∀ d ∈ ds, GItem nms (GRec nms n) d
theorem TermInv.put {a c l q : Addr} {ns : List Int} {nms : List Str} {n : Nat} {H : Hp} {i : Nat} {ps : List Addr} {ds : List PyData} (nq : H q = none) (aq : a ≠ q) (cq : c ≠ q) (ld : ds.length ≤ i) (hi : i ≤ 100) (gd : ∀ d ∈ ds, GItem nms (GRec nms n) d)
    {p : Addr} {d : PyData} {H5 : Hp} {N : L2.St → Hp → Prop} {o o' : Option V} (x5 : Ext H H5) (B5 : Bag a c ns H5) (h5 : H5 q = some (.lst (ps.map V.ref))) (pd5 : Paired (Dt (1 + 4 * n) H5) (ps.map V.ref) ds) (dd : Dt (1 + 4 * n) H5 (.ref p) d) (gg : GItem nms (GRec nms n) d)
    (hN : ∀ σ' H', TermInv a c l q ns nms n H (i + 1) σ' H' → N σ' H') : rAppend (.ref q) [.ref p] H5 fun _ H6 => N [some (.ref a), some (.ref l), some (.int (n : Int)), some (.ref q), o, o'] H6 := by
  refine rd_app h5 ?_ fun H6 c6 h6 => hN _ _ ?_
  · have : (ps.map V.ref).length = ds.length := pd5.length
    exact sz_smaller (by omega)
  · have t6 : Tps H5 H6 := Tps.chg c6 h5
    refine ⟨_, _, ps ++ [p], ds ++ [d], rfl, x5.chg c6 nq, B5.chg c6 aq cq, ?_, ?_, ?_, ?_⟩
    · rw [List.map_append]; exact h6
    · rw [List.map_append]
      exact (pimp pd5 fun _ _ z => z.keep t6).snoc (dd.keep t6)
    · rw [List.length_append]; exact Nat.succ_le_succ ld
    · intro e he
      rcases List.mem_append.mp he with he | he
      · exact gd e he
      · rw [List.mem_singleton.mp he]; exact gg
section isd
/-- v stands for some datum of depth at most k -/
def IsD (k : Nat) (H : Hp) (v : V) : Prop := ∃ d, Dn k H v d
def AllD (k : Nat) (H : Hp) (xs : List V) : Prop := ∀ x ∈ xs, IsD k H x
theorem AllD.nil {k : Nat} {H : Hp} : AllD k H [] := fun x h => by cases h
theorem AllD.cons {k : Nat} {H : Hp} {x : V} {xs : List V} (h : IsD k H x) (r : AllD k H xs) : AllD k H (x :: xs) := fun y hy => by
  rcases List.mem_cons.mp hy with e | hy
  · rw [e]; exact h
  · exact r y hy
theorem AllD.app {k : Nat} {H : Hp} {xs ys : List V} (h : AllD k H xs) (r : AllD k H ys) : AllD k H (xs ++ ys) := fun y hy => by
  rcases List.mem_append.mp hy with hy | hy
  · exact h y hy
  · exact r y hy
theorem AllD.cut {k : Nat} {H : Hp} {xs : List V} (h : AllD k H xs) (lo hi : Option Int) : AllD k H (cutV xs lo hi) := fun y hy => h y (List.mem_of_mem_drop (List.mem_of_mem_take hy))
theorem AllD.paired {k : Nat} {H : Hp} : ∀ {xs : List V}, AllD k H xs → ∃ ds, Paired (Dn k H) xs ds
  | [], _ => ⟨[], .nil⟩
  | x :: xs, h => by
    obtain ⟨d, hd⟩ := h x (List.mem_cons_self ..)
    obtain ⟨ds, p⟩ := AllD.paired fun y hy => h y (List.mem_cons_of_mem _ hy)
    exact ⟨d :: ds, .cons hd p⟩
theorem IsD.ext {k : Nat} {H H' : Hp} {v : V} (e : Ext H H') (h : IsD k H v) : IsD k H' v := by
  obtain ⟨d, h⟩ := h
  exact ⟨d, h.ext e⟩
theorem IsD.same {k : Nat} {H H' : Hp} {v : V} (e : Same H H') (h : IsD k H v) : IsD k H' v := h.ext (.of e)
theorem AllD.ext {k : Nat} {H H' : Hp} {xs : List V} (e : Ext H H') (h : AllD k H xs) : AllD k H' xs := fun y hy => (h y hy).ext e
theorem AllD.same {k : Nat} {H H' : Hp} {xs : List V} (e : Same H H') (h : AllD k H xs) : AllD k H' xs := h.ext (.of e)
theorem IsD.up {k m : Nat} {H : Hp} {v : V} (h : IsD k H v) (l : k ≤ m) : IsD m H v := by
  obtain ⟨d, h⟩ := h
  exact ⟨d, h.up l⟩
theorem AllD.up {k m : Nat} {H : Hp} {xs : List V} (h : AllD k H xs) (l : k ≤ m) : AllD m H xs := fun y hy => (h y hy).up l
theorem IsD.int {k : Nat} {H : Hp} (i : Int) : IsD k H (.int i) := ⟨_, Dn.int i⟩
theorem IsD.bl {k : Nat} {H : Hp} (b : Bool) : IsD k H (.bl b) := ⟨_, Dn.bl b⟩
theorem IsD.non {k : Nat} {H : Hp} : IsD k H .non := ⟨_, Dn.non⟩
theorem IsD.str {k : Nat} {H : Hp} {x : Str} (h : PyData.strOk x = true) (l : x.length ≤ 16000000) : IsD k H (.str x) := ⟨_, Dn.str h l⟩
theorem IsD.tup {k : Nat} {H : Hp} {a : Addr} {xs : List V} (h : H a = some (.tup xs)) (l : xs.length ≤ 100000) (p : AllD k H xs) : IsD (k + 1) H (.ref a) := by
  obtain ⟨ds, p⟩ := p.paired
  exact ⟨_, Dn.tup h p (by rw [← Dn.len p]; exact l)⟩
theorem IsD.lst {k : Nat} {H : Hp} {a : Addr} {xs : List V} (h : H a = some (.lst xs)) (b : isBag (.lst xs) = false) (l : xs.length ≤ 100000) (p : AllD k H xs) : IsD (k + 1) H (.ref a) := by
  obtain ⟨ds, p⟩ := p.paired
  exact ⟨_, Dn.lst h b p (by rw [← Dn.len p]; exact l)⟩
theorem cut_len (xs : List V) (lo hi : Option Int) : (cutV xs lo hi).length ≤ xs.length := cutV_length xs lo hi
def spBent : Sp := fun vs H Q _ => ∃ (a c t : Addr) (ns : List Int) (x1 x2 : V), vs = [.ref a, .ref t] ∧ Bag a c ns H ∧ H t = some (.tup [x1, x2]) ∧ IsD 25 H x1 ∧ IsD 25 H x2 ∧
  ∀ v H', Ext H H' → Bag a c ns H' → IsD 30 H' v → Q v H'
end isd
theorem bag_len {xs : List V} (h : xs.length ≠ 4) : isBag (.lst xs) = false := by
  unfold isBag
  split
  · rename_i e
    cases e
    exact absurd rfl h
  · rfl
def spLaw (K : PySem.W.Frag) : Sp := fun vs H Q _ => ∃ (a : Addr) (ns : List Int), vs = [.ref a] ∧ SqL K H a (ns.map V.int) ∧ ∀ H', Q (.bl true) H'
theorem Dt.of_tuple {H : Hp} {n : Nat} {v : V} {ds : List PyData} (h : Dt n H v (.tuple ds)) : ∃ m a xs, n = m + 1 ∧ v = .ref a ∧ H a = some (.tup xs) ∧ xs.length ≤ 100000 ∧ Paired (Dt m H) xs ds := by
  cases n with
  | zero => exact h.elim
  | succ m =>
    obtain ⟨a, xs, h1, h2, h4, h3⟩ := h
    exact ⟨m, a, xs, rfl, h1, h2, h4, h3⟩
theorem Dt.eq_int {H : Hp} {n : Nat} {v : V} {i : Int} (h : Dt n H v (.int i)) : v = .int i := by cases n <;> exact h
theorem dt_all {H : Hp} {n : Nat} {xs : List V} {ds : List PyData} (h : Paired (Dt n H) xs ds) : AllD n H xs := by
  induction h with
  | nil => exact .nil
  | cons a _ ih => exact .cons ⟨_, a.dn⟩ ih
theorem bag_allref {xs : List V} (h : ∀ x ∈ xs, ∃ a, x = V.ref a) : isBag (.lst xs) = false := by
  unfold isBag
  split
  · rename_i e
    cases e
    obtain ⟨a, e⟩ := h _ (List.mem_cons_of_mem _ (List.mem_cons_self ..))
    cases e
  · rfl
theorem dt_refs {H : Hp} {n : Nat} {xs : List V} {ds : List PyData} (h : Paired (Dt n H) xs ds) (g : ∀ d ∈ ds, ∃ es, d = PyData.tuple es) : ∀ x ∈ xs, ∃ a, x = V.ref a := by
  induction h with
  | nil => exact fun x hx => by cases hx
  | cons a _ ih =>
    intro x hx
    rcases List.mem_cons.mp hx with rfl | hx
    · obtain ⟨es, rfl⟩ := g _ (List.mem_cons_self ..)
      obtain ⟨_, p, _, _, e, _⟩ := a.of_tuple
      exact ⟨p, e⟩
    · exact ih (fun d hd => g d (List.mem_cons_of_mem _ hd)) x hx
/-- a drawn term as it stands -/
theorem GTerm.parts {nms : List Str} {n m : Nat} {H : Hp} {v : V} {d : PyData} (g : GTerm nms n d) (h : Dt m H v d) : ∃ t t1 xs its c, v = .ref t ∧ H t = some (.tup [.ref t1, .int c]) ∧ H t1 = some (.tup xs) ∧ xs.length ≤ 4 ∧ AllD m H xs ∧ isBag (.lst xs) = false ∧ d = .tuple [.tuple its, .int c] ∧ -1000 ≤ c ∧ c ≤ 1000 := by
  rw [GTerm_eq] at g
  obtain ⟨its, c, rfl, hl, c0, c1, gi⟩ := g
  obtain ⟨m1, t, ys, rfl, rfl, h1, _, p⟩ := h.of_tuple
  cases p with
  | cons a p =>
    cases p with
    | cons b p =>
      cases p
      obtain ⟨m2, t1, xs, rfl, rfl, h2, _, p2⟩ := a.of_tuple
      have ec := b.eq_int
      subst ec
      refine ⟨t, t1, xs, its, c, rfl, h1, h2, by rw [p2.length]; exact hl, (dt_all p2).up (by omega), bag_allref (dt_refs p2 fun e he => by obtain ⟨f, x, rfl, _⟩ := gi e he; exact ⟨_, rfl⟩), rfl, c0, c1⟩
def DD : Nat → PyData
  | 0 => .tuple [.tuple [], .int 1]
  | i + 1 => .tuple [.tuple [.tuple [.int 1, .tuple [.str "floor", .tuple [.int 1, .int 0, .int 1], DD i]]], .int 0]
/-! ## the head: what is told of the top's end -/
section heads
open PySem.W (Frag)
def paOf (K : Frag) (C f : Str) : Addr := match PySem.W.findIn K (.ref (He.ga K C)) f with
  | some (some (.ref p)) => p
  | _ => 0
def pgOf (K : Frag) (C f : Str) : Addr := match PySem.W.recIn K (paOf K C f) "property" with
  | some (.ref g :: _) => g
  | _ => 0
def propB (C f : Str) (K : Frag) : Bool := He.eqO (PySem.W.findIn K (.ref (He.ga K C)) f) (some (some (.ref (paOf K C f)))) && (He.eqO (PySem.W.specialIn K (.ref (paOf K C f)) "__get__") (some (some (.builtin "property.__get__"))) && (decide (PySem.W.takesIn K (.ref (paOf K C f)) = some true) && (match PySem.W.recIn K (paOf K C f) "property" with
  | some (.ref _ :: _) => true
  | _ => false)))
theorem propB_ok {K : Frag} {C f : Str} (h : propB C f K = true) : PropOf K (He.ga K C) f (paOf K C f) (pgOf K C f) := by
  obtain ⟨h1, h⟩ := He.ba h
  obtain ⟨h2, h⟩ := He.ba h
  obtain ⟨h3, h4⟩ := He.ba h
  refine ⟨He.eqO_ok h1, He.eqO_ok h2, of_decide_eq_true h3, ?_⟩
  unfold pgOf
  split at h4
  · rename_i g r e
    exact ⟨r, by rw [e]⟩
  · cases h4
def selfB (C : Str) (K : Frag) : Bool := PySem.W.selfFirst K (He.ga K C)
def readB (C : Str) (K : Frag) : Bool := PySem.W.readsIn K (He.ga K C) (.type "type") && He.eqO (PySem.W.specialIn K (.ref (He.ga K C)) "__getattribute__") (some (some (.builtin "type.__getattribute__")))
theorem readB_ok {K : Frag} {C : Str} (h : readB C K = true) : ClX.CRead K (He.ga K C) (.type "type") := ⟨(He.ba h).1, He.eqO_ok (He.ba h).2⟩
def statB (C m : Str) (K : Frag) : Bool := He5.wrapB K (He.ga K C) "staticmethod" "staticmethod.__get__" m
/-- what isinstance asks of the class at C -/
def isiB (C : Str) (K : Frag) : Bool := He.eqO (PySem.W.findIn K (.ref (He.ga K C)) "__class__") (some (some (.builtin "object.__class__"))) && (He.eqO (PySem.W.specialIn K (.builtin "object.__class__") "__get__") (some (some (.builtin "getset_descriptor.__get__"))) &&
  (decide (PySem.W.takesIn K (.builtin "object.__class__") = some true) && (decide (PySem.W.mroIn K (He.ga K C) (.type "object") = some true) && decide (PySem.W.kitOne K (.ref (He.ga K C)) (.ref (He.ga K C)) = some true))))
structure IsiC (K : Frag) (C : Addr) : Prop where
  ca : PySem.W.findIn K (.ref C) "__class__" = some (some (.builtin "object.__class__"))
  cn : PySem.W.specialIn K (.builtin "object.__class__") "__get__" = some (some (.builtin "getset_descriptor.__get__"))
  ct : PySem.W.takesIn K (.builtin "object.__class__") = some true
  cm : PySem.W.mroIn K C (.type "object") = some true
  me : PySem.W.kitOne K (.ref C) (.ref C) = some true
theorem isiB_ok {K : Frag} {C : Str} (h : isiB C K = true) : IsiC K (He.ga K C) := by
  obtain ⟨h1, h⟩ := He.ba h
  obtain ⟨h2, h⟩ := He.ba h
  obtain ⟨h3, h⟩ := He.ba h
  obtain ⟨h4, h5⟩ := He.ba h
  exact ⟨He.eqO_ok h1, He.eqO_ok h2, of_decide_eq_true h3, of_decide_eq_true h4, of_decide_eq_true h5⟩
abbrev AlY : Type := He.AlD × Bool
def obsY (n : Nat) (fa : List He.Fa) (fn : List He5.DefA) (ex : List (Frag → Bool)) (g : Addr → Option Obj) : AlY := (He5.obsA fa fn (He.frG g (He5.asA g n)), ex.all fun f => f (He.frG g (He5.asA g n)))
structure SaysY (fa : List He.Fa) (fn : List He5.DefA) (ex : List (Frag → Bool)) (K : Frag) : Prop where
  a : He5.SaysA fa fn K
  e : ex.all (fun f => f K) = true
theorem SaysY.ex {fa : List He.Fa} {fn : List He5.DefA} {ex : List (Frag → Bool)} {K : Frag} (c : SaysY fa fn ex K) (i : Nat) {f : Frag → Bool} (h : ex[i]? = some f := by rfl) : f K = true := List.all_eq_true.mp c.e f (List.mem_of_getElem? h)
def hookY (n : Nat) (fa : List He.Fa) (fn : List He5.DefA) (ex : List (Frag → Bool)) : PySem.W.Hook where
  α := AlY
  obs := fun s => obsY n fa fn ex s.heap.get?
  val := fun _ => (He5.valA fn, true)
  says := fun _ h => ∃ K : Frag, K.In h ∧ SaysY fa fn ex K
  of := fun _ _ e => ⟨_, He.frG_in, ⟨congrArg (fun z : AlY => z.1) e, congrArg (fun z : AlY => z.2) e⟩⟩
  keeps := fun _ _ _ ⟨K, hK, c⟩ k => ⟨K, PySem.W.Frag.In.keeps hK k, c⟩
theorem obsY_eq {n : Nat} {fa : List He.Fa} {fn : List He5.DefA} {ex : List (Frag → Bool)} {g : Addr → Option Obj} {s : Shared} (h : ∀ a, g a = s.heap.get? a) : obsY n fa fn ex g = (hookY n fa fn ex).obs s := by
  have e : g = s.heap.get? := funext h
  rw [e] <;> rfl
end heads
/-! ## classes: methods, properties, static methods, operators of one's own -/
def MeB (C : Addr) (m : Str) (sp : Sp) (dvs : List V) (E : XK) (t : TA) (σ : L2.St) (x : V) (H : Hp) (Q : VK) : Prop := ∃ a dx fs, x = .ref a ∧ H a = some (.ins C dx fs) ∧ fs.lookup m = none ∧ t σ H fun vs H2 => sp (x :: (vs ++ dvs)) H2 Q E
def FdB (K : PySem.W.Frag) (f : Str) (x : V) (H : Hp) (Q : VK) : Prop := ∃ a C dx fs v, x = .ref a ∧ H a = some (.ins C dx fs) ∧ Cls K C ∧ NoAttr K C f ∧ fs.lookup f = some v ∧ Q v H
def PrB (C : Addr) (sp : Sp) (dvs : List V) (E : XK) (x : V) (H : Hp) (Q : VK) : Prop := ∃ a dx fs, x = .ref a ∧ H a = some (.ins C dx fs) ∧ sp (.ref a :: dvs) H Q E
section classes
variable {X : Cx}
/-- the def at f keeps the promise sp (all its parameters are given) -/
def OkF (P : Program) (w : World) (K : PySem.W.Frag) (mg : Str → Option Value) (base : Heap) (k : Nat) (f : Addr) (ps : List Str) (sp : Sp) : Prop := ∃ fd, FnOk P w K mg base CX0 k f fd ps sp ∧ Binds K fd ps [] ∧ ∃ oc od osl, K.lookup f = some ⟨oc, od, .func fd, osl⟩
theorem OkF.mono {P : Program} {w : World} {K : PySem.W.Frag} {mg : Str → Option Value} {base : Heap} {j k : Nat} {f : Addr} {ps : List Str} {sp : Sp} (h : OkF P w K mg base j f ps sp) (l : j ≤ k) : OkF P w K mg base k f ps sp := by
  obtain ⟨fd, F, B, lk0⟩ := h
  exact ⟨fd, F.mono l, B, lk0⟩
theorem OkF.imp {P : Program} {w : World} {K : PySem.W.Frag} {mg : Str → Option Value} {base : Heap} {k : Nat} {f : Addr} {ps : List Str} {sp sp' : Sp} (h : OkF P w K mg base k f ps sp) (i : ∀ vs H Q E, sp' vs H Q E → sp vs H Q E) : OkF P w K mg base k f ps sp' := by
  obtain ⟨fd, F, B⟩ := h
  exact ⟨fd, F.imp i, B⟩
theorem OkF.mk {P : Program} {w : World} {K : PySem.W.Frag} {mg : Str → Option Value} {base : Heap} {x qual : Str} {st : Stmt} {f : Addr} {kws : List (Str × V)} {N ps : List Str} {k : Nat} {sp : Sp} (F : ∃ fd, FunD K x qual (defArgs st) (defBody st) (defScope st) [] kws f fd) (S : FnScope N ps (defScope st))
    (hb : ∀ (kV doc pm : Value) (an : Option Addr) (cdv ct : Value) (us : List Value), us.length = ps.length → bindArgs (PySem.W.fnOf x qual (defArgs st) (defBody st) (defScope st) .none kV doc pm an cdv ct) ⟨us, []⟩ = pure (ps.zip us))
    (len : ∀ vs H Q E, sp vs H Q E → vs.length = ps.length)
    (hbody : ∀ (cdv : Value) (A : Around) (outer : List Env) (s : Shared) (H : Hp) (vs : List V) (Q : VK) (E : XK), Room k (A.deeper (envOfC qual (defScope st) s.heap.objs.size f cdv)) → sp vs H Q E →
      ∃ t, PSs (cxOf CX0 P w K mg base N qual (defScope st) f cdv A outer s H E).nox (defBody st) t ∧ t { nx := fun _ H' => Q .non H', rt := Q } (start N vs) H) : OkF P w K mg base (k + 1) f ps sp := by
  obtain ⟨fd, F⟩ := F
  exact ⟨fd, F.ok S len fun cdv A outer s H vs Q E hr h => by
    obtain ⟨t, a, b⟩ := hbody cdv A outer s H vs Q E hr h
    exact ⟨t, a.nox, b⟩, F.bindsN hb, fund_at F⟩
/-- o.m(e, ..) -/
theorem pe_om {pl : Sem Bool} {k : Nat} {C f : Addr} {m : Str} {ps : List Str} {sp : Sp} {o e : Expr} {es : List Expr} {ta : TE} {t : TA} {apos pos : Pos} (ho : PE X o ta) (c : Cls X.K C) (M : Meth X.K C m f) (h : OkF X.prog X.w X.K X.mg X.base k f ps sp) (hr : Room k X.A) (ha : PA X (e :: es) t)
    (hst : starEach (e :: es) X.env = (false, eval e X.env) :: starEach es X.env := by rfl) (hpl : (backTo pos (starEach es X.env)).any (·.1) = false := by rfl)
    (ht : eval (.Call (.Attribute o m apos) (e :: es) [] pos) X.env = (do let ov ← eval o X.env; standAt apos.atName; let (f, first) ← holding [ov] (getMethod ov m pl); callWith pos f first (backTo pos (starEach (e :: es) X.env)) (backToKw pos (keywordEach [] X.env))) := by rfl) :
    PE X (.Call (.Attribute o m apos) (e :: es) [] pos) (tMeth C m sp [] E0 ta t) := by
  obtain ⟨fd, F, B, lk0⟩ := h
  exact pe_meth ho c M F hr B .nil pass0 ha hst hpl ht
/-- o.m() -/
theorem pe_om0 {pl : Sem Bool} {k : Nat} {C f : Addr} {m : Str} {ps : List Str} {sp : Sp} {o : Expr} {ta : TE} {apos pos : Pos} (ho : PE X o ta) (c : Cls X.K C) (M : Meth X.K C m f) (h : OkF X.prog X.w X.K X.mg X.base k f ps sp) (hr : Room k X.A)
    (ht : eval (.Call (.Attribute o m apos) [] [] pos) X.env = (do let ov ← eval o X.env; standAt apos.atName; let (f, first) ← holding [ov] (getMethod ov m pl); callWith pos f first (backTo pos (starEach [] X.env)) (backToKw pos (keywordEach [] X.env))) := by rfl) :
    PE X (.Call (.Attribute o m apos) [] [] pos) (tMeth C m sp [] E0 ta tNil) := by
  obtain ⟨fd, F, B, lk0⟩ := h
  exact pe_meth0 ho c M F hr B .nil pass0 ht
/-- o.f, a property -/
theorem pe_op_ {k : Nat} {C p g : Addr} {f : Str} {ps : List Str} {sp : Sp} {e : Expr} {ta : TE} {pos : Pos} (he : PE X e ta) (c : Cls X.K C) (hp : PropOf X.K C f p g) (h : OkF X.prog X.w X.K X.mg X.base k g ps sp) (hr : Room (k + 1) X.A) (hab : attributeBase e f X.env (eval e X.env) = eval e X.env := by rfl) : PE X (.Attribute e f pos) (tProp C sp [] E0 ta) := by
  obtain ⟨fd, F, B, lk0⟩ := h
  exact pe_prop he c hp F hr B .nil pass0 hab
section
variable {C : Addr} {m : Str} {sp : Sp} {dvs : List V} {E : XK} {ta : TE} {t : TA} {σ : L2.St} {H : Hp} {Q : VK} {K : PySem.W.Frag} {f : Str}
theorem rd_meth (h : ta σ H fun x H1 => MeB C m sp dvs E t σ x H1 Q) : tMeth C m sp dvs E ta t σ H Q := h
theorem rd_meB {a dx : Addr} {fs : List (Str × V)} (h : H a = some (.ins C dx fs)) (hl : fs.lookup m = none) (q : t σ H fun vs H2 => sp (.ref a :: (vs ++ dvs)) H2 Q E) : MeB C m sp dvs E t σ (.ref a) H Q := ⟨a, dx, fs, rfl, h, hl, q⟩
theorem rd_fld (h : ta σ H fun x H1 => FdB K f x H1 Q) : tFld K ta f σ H Q := h
theorem rd_fdB {a dx : Addr} {fs : List (Str × V)} {v : V} (h : H a = some (.ins C dx fs)) (c : Cls K C) (n : NoAttr K C f) (l : fs.lookup f = some v) (q : Q v H) : FdB K f (.ref a) H Q := ⟨a, C, dx, fs, v, rfl, h, c, n, l, q⟩
theorem rd_prop (h : ta σ H fun x H1 => PrB C sp dvs E x H1 Q) : tProp C sp dvs E ta σ H Q := h
theorem rd_prB {a dx : Addr} {fs : List (Str × V)} (h : H a = some (.ins C dx fs)) (q : sp (.ref a :: dvs) H Q E) : PrB C sp dvs E (.ref a) H Q := ⟨a, dx, fs, rfl, h, q⟩
end
/-- x op y of two instances of the class at C, by its own def -/
def rBin (C : Addr) (sp : Sp) : R2 := fun x y H Q => ∃ a dx fs b dy gs, x = .ref a ∧ y = .ref b ∧ H a = some (.ins C dx fs) ∧ H b = some (.ins C dy gs) ∧ sp [x, y] H Q E0
theorem op_bin {op : Operator} {k : Nat} {C f : Addr} {m : Str} {ps : List Str} {sp : Sp} (hm : PySem.dunder op.info.2 = m) (hc : PySem.W.selfFirst X.K C = true) (M : Meth X.K C m f) (h : OkF X.prog X.w X.K X.mg X.base k f ps sp) (hr : Room k X.A) : OpR X (binaryOp op) (rBin C sp) := by
  intro pins s σ H x y v u Q I rx ry hh
  obtain ⟨fd, F, B, lk0⟩ := h
  obtain ⟨a, dx, fs, b, dy, gs, rfl, rfl, ha, hb, q⟩ := hh
  cases (show v = Value.ref a from rx)
  cases (show u = Value.ref b from ry)
  obtain ⟨mA, O, _⟩ := ins_get I.hok ha
  obtain ⟨od, J, _⟩ := O.look
  obtain ⟨mB, O', _⟩ := ins_get I.hok hb
  obtain ⟨od', J', _⟩ := O'.look
  obtain ⟨mm, hF⟩ := I.fr
  refine PySem.W.binop_K hF I.ok.mod.kin J J'.type hc (by rw [hm]; exact M.at_) M.fn ?_
  refine wpAny_mono (run_fn (us := [.ref a, .ref b]) (vs := [.ref a, .ref b]) F hr B .nil pass0 I (.cons rfl (.cons rfl .nil)) q) (fun w s' z => ?_) fun _ _ x => x
  obtain ⟨z', H', I', rz, qz⟩ := z
  exact SlX.cmpback rz ⟨z', H', I', rz, qz⟩
theorem rd_bin {C : Addr} {sp : Sp} {H : Hp} {Q : VK} {a b dx dy : Addr} {fs gs : List (Str × V)} (h1 : H a = some (.ins C dx fs)) (h2 : H b = some (.ins C dy gs)) (q : sp [.ref a, .ref b] H Q E0) : rBin C sp (.ref a) (.ref b) H Q := ⟨a, dx, fs, b, dy, gs, rfl, rfl, h1, h2, q⟩
/-- -x -/
def rNegO (C : Addr) (sp : Sp) : V → Hp → VK → Prop := fun x H Q => ∃ a dx fs, x = .ref a ∧ H a = some (.ins C dx fs) ∧ sp [x] H Q E0
theorem un_negO {k : Nat} {C f : Addr} {ps : List Str} {sp : Sp} (M : Meth X.K C "__neg__" f) (h : OkF X.prog X.w X.K X.mg X.base k f ps sp) (hr : Room k X.A) : UnR X (unaryOp .USub) (rNegO C sp) := by
  intro pins s σ H x v Q I rx hh
  obtain ⟨fd, F, B, lk0⟩ := h
  obtain ⟨a, dx, fs, rfl, ha, q⟩ := hh
  cases (show v = Value.ref a from rx)
  obtain ⟨mA, O, _⟩ := ins_get I.hok ha
  obtain ⟨od, J, _⟩ := O.look
  obtain ⟨mm, hF⟩ := I.fr
  exact PySem.W.ksp_neg hF I.ok.mod.kin J M.at_ M.fn (run_fn (us := [.ref a]) (vs := [.ref a]) F hr B .nil pass0 I (.cons rfl .nil) q)
/-- x == y, x an instance of the class at C with its own __eq__; y another thing whose type is told -/
def rEqO (K : PySem.W.Frag) (C : Addr) (sp : Sp) : R2 := fun x y H Q => ∃ a dx fs t, x = .ref a ∧ H a = some (.ins C dx fs) ∧ TyX K H y t ∧ PySem.W.notFirst K C t = true ∧ sp [x, y] H Q E0
theorem op_eqO {k : Nat} {C f : Addr} {ps : List Str} {sp : Sp} (M : Meth X.K C "__eq__" f) (h : OkF X.prog X.w X.K X.mg X.base k f ps sp) (hr : Room k X.A) : OpR X (compareOp .Eq) (rEqO X.K C sp) := by
  intro pins s σ H x y v u Q I rx ry hh
  obtain ⟨fd, F, B, lk0⟩ := h
  obtain ⟨a, dx, fs, t, rfl, ha, ty, hn, q⟩ := hh
  cases (show v = Value.ref a from rx)
  obtain ⟨mA, O, _⟩ := ins_get I.hok ha
  obtain ⟨od, J, _⟩ := O.look
  obtain ⟨mm, hF⟩ := I.fr
  obtain ⟨P, Z, p, _⟩ := kit_of I ry ty
  show wpAny _ _ (richCompare .Eq _ _) _ _ _
  refine PySem.W.cmp_K (op := .Eq) hr.units0 hF I.ok.mod.kin J (Z.ty _ _ I.kIn p) hn M.at_ M.fn ?_
  refine wpAny_mono (run_fn (us := [.ref a, u]) (vs := [.ref a, y]) F hr B .nil pass0 I (.cons rfl (.cons ry .nil)) q) (fun w s' z => ?_) fun _ _ x => x
  obtain ⟨z', H', I', rz, qz⟩ := z
  exact SlX.cmpback rz ⟨z', H', I', rz, qz⟩
theorem rd_eqO {K : PySem.W.Frag} {C : Addr} {sp : Sp} {H : Hp} {Q : VK} {a b dx dy : Addr} {fs gs : List (Str × V)} (c : Cls K C) (i : IsiC K C) (h1 : H a = some (.ins C dx fs)) (h2 : H b = some (.ins C dy gs)) (q : sp [.ref a, .ref b] H Q E0) : rEqO K C sp (.ref a) (.ref b) H Q :=
  ⟨a, dx, fs, .ref C, rfl, h1, .base (.ins h2 c i.ca i.cn i.ct i.cm), by unfold PySem.W.notFirst; rw [beq_self_eq_true]; rfl, q⟩
/-- bool(x) of an instance with its own __bool__ -/
def rBoolO (C : Addr) (sp : Sp) : List V → Hp → VK → Prop := fun xs H Q => ∃ a dx fs, xs = [.ref a] ∧ H a = some (.ins C dx fs) ∧ sp [.ref a] H (fun v H' => ∃ b, v = .bl b ∧ Q v H') E0
theorem truthy_own {M : Model} {A : Around} {E : Value → Shared → Prop} {s : Shared} {K : PySem.W.Frag} {x C f : Addr} {ox : Obj} {od : Option Obj} {Q : Bool → Shared → Prop} (X : K.In s.heap) (I : PySem.W.InstAt s.heap x ox C od) (hs : PySem.W.findIn K (.ref C) "__bool__" = some (some (.ref f))) (hf : PySem.W.isFn K (.ref f) = true)
    (h : wpAny M A (call (.ref f) [.ref x]) (fun r s₁ => ∃ b, r = Value.bool b ∧ Q b s₁) E s) : wpAny M A (truthy (.ref x)) Q E s := by
  unfold truthy
  refine wpAny_bind (m := callSpecial? (.ref x) (Str.ofString "__bool__")) (PySem.W.special_fn X I hs (beq_iff_eq.mp hf) (wpAny_mono h (fun r s' hr => ?_) fun _ _ y => y))
  obtain ⟨b, rfl, q⟩ := hr
  exact wpAny_pure q
theorem bool_own {prog : Program} {w : World} {A : Around} {E : Value → Shared → Prop} {s : Shared} {K : PySem.W.Frag} {x C f : Addr} {ox : Obj} {od : Option Obj} {Q : Value → Shared → Prop} (X : K.In s.heap) (I : PySem.W.InstAt s.heap x ox C od) (hs : PySem.W.findIn K (.ref C) "__bool__" = some (some (.ref f))) (hf : PySem.W.isFn K (.ref f) = true)
    (h : wpAny (model prog w) A.in1.in1 (call (.ref f) [.ref x]) (fun r s₁ => ∃ b, r = Value.bool b ∧ Q r s₁) E s) : wpAny (model prog w) A (call (.type "bool") [.ref x]) Q E s := by
  refine callType_codes (T := "bool") (Bi := Builtin.«object.__init__») (Q₁ := fun r s₁ => ∃ b, r = Value.bool b ∧ Q r s₁) PySem.F.called_bool (PySem.F.typeCall_bool_1 _) PySem.F.entry_object_init ?_ ?_
  · refine codeAny_of_tree ?_
    show wpAny _ A.in1.in1 (do checkBuiltinCall "bool.__new__" ⟨[.type "bool", .ref x], []⟩; again (.builtin "bool.__new__" ⟨[.type "bool", .ref x], []⟩)) _ _ s
    refine wpAny_bind (wpAny_of_eq (PySem.F.newCall_bool_1 _) (wpAny_pure ⟨plainId_quiet (by decide +kernel) _, codeAny_builtin PySem.F.entry_bool_new ?_⟩))
    rw [Around.under_plainId (by decide +kernel) _]
    have f1 := PySem.F.conv_sub_bool
    have tr : ∀ {R : Bool → Shared → Prop}, (∀ b s₁, Q (.bool b) s₁ → R b s₁) → wpAny (model prog w) A.in1.in1 (truthy (.ref x)) R (fun e s' => wants (fun r s₁ => ∃ b, r = Value.bool b ∧ Q r s₁) E (.error e) s') s := fun {R} k =>
      truthy_own X I hs hf (wpAny_mono h (fun r s₁ ⟨b, e, q⟩ => ⟨b, e, by subst e; exact k b s₁ q⟩) fun _ _ y => y)
    obtain ⟨hp, g, d, tk, os⟩ := s
    repeat (any_goals (first | assumption | (with_reducible refine tr ?_; intro b s₁ q) | wp_step))
    all_goals exact ⟨_, rfl, q⟩
  · rintro obj s₁ ⟨b, rfl, hq⟩
    exact ⟨rfl, PySem.F.args_object_init_2 _ _, object_init_meets PySem.F.called_bool.init.lookup PySem.F.called_bool.made (by decide) prog w A.in1 _ s₁ ⟨rfl, rfl, hq⟩⟩
theorem c_boolO {k : Nat} {C f : Addr} {ps : List Str} {sp : Sp} (M : Meth X.K C "__bool__" f) (h : OkF X.prog X.w X.K X.mg X.base k f ps sp) (hr : Room (k + 2) X.A) : CallR X (.type "bool") (rBoolO C sp) := by
  intro pins s σ H xs us Q I r hh
  obtain ⟨fd, F, B, lk0⟩ := h
  obtain ⟨a, dx, fs, rfl, ha, q⟩ := hh
  obtain ⟨u, rfl, ru⟩ := r.one
  cases (show u = Value.ref a from ru)
  obtain ⟨mA, O, _⟩ := ins_get I.hok ha
  obtain ⟨od, J, _⟩ := O.look
  have hr2 : Room k X.A.in1.in1 := (show Room (k + 1) X.A.in1 from Room.in1 hr).in1
  have hl : ([Value.ref a] ++ []).length = ps.length := F.len _ _ _ _ q
  refine bool_own I.kIn J M.at_ M.fn (wpAny_call (codeAny_mono (F.run X.A.in1.in1 X.stack s H ⟨[.ref a], []⟩ [.ref a] [.ref a] _ E0 hr2 I.env0.in1.in1 (B s [.ref a] I.kIn hl) (.cons rfl .nil) q) fun r s' hq => ?_))
  cases r with
  | error e => exact False.elim hq
  | ok fl =>
    cases fl with
    | ret u =>
      obtain ⟨v, H', I', rv, b, ev, qq⟩ := I.after hq
      subst ev
      cases (show u = Value.bool b from rv)
      exact ⟨b, rfl, .bl b, H', I', rfl, qq⟩
    | next => exact False.elim hq
    | brk => exact False.elim hq
    | cont => exact False.elim hq
theorem rd_boolO {C : Addr} {sp : Sp} {H : Hp} {Q : VK} {a dx : Addr} {fs : List (Str × V)} (h : H a = some (.ins C dx fs)) (q : sp [.ref a] H (fun v H' => ∃ b, v = .bl b ∧ Q v H') E0) : rBoolO C sp [.ref a] H Q := ⟨a, dx, fs, rfl, h, q⟩
/-- C.m(e, ..), m a static method -/
def tStat (C : Addr) (sp : Sp) (ta : TE) (t : TA) : TE := fun σ H Q => ta σ H fun x H1 => x = .ref C ∧ t σ H1 fun vs H2 => sp vs H2 Q E0
theorem pe_stat {pl : Sem Bool} {k : Nat} {C p f : Addr} {m : Str} {ps : List Str} {sp : Sp} {o e : Expr} {es : List Expr} {ta : TE} {t : TA} {apos pos : Pos} (ho : PE X o ta) (r : ClX.CRead X.K C (.type "type")) (at_ : PySem.W.findCls X.K (.ref C) (.type "type") m = some (.get (.builtin "staticmethod.__get__") (.ref p) .none (.ref C)))
    (rc : ∃ rest, PySem.W.recIn X.K p "staticmethod" = some (.ref f :: rest)) (kp : PySem.W.keepIn X.K (.ref f) = true) (h : OkF X.prog X.w X.K X.mg X.base k f ps sp) (hr : Room k X.A) (ha : PA X (e :: es) t)
    (hst : starEach (e :: es) X.env = (false, eval e X.env) :: starEach es X.env := by rfl) (hpl : (backTo pos (starEach es X.env)).any (·.1) = false := by rfl)
    (ht : eval (.Call (.Attribute o m apos) (e :: es) [] pos) X.env = (do let ov ← eval o X.env; standAt apos.atName; let (f, first) ← holding [ov] (getMethod ov m pl); callWith pos f first (backTo pos (starEach (e :: es) X.env)) (backToKw pos (keywordEach [] X.env))) := by rfl) :
    PE X (.Call (.Attribute o m apos) (e :: es) [] pos) (tStat C sp ta t) := by
  obtain ⟨fd, F, B, lk0⟩ := h
  obtain ⟨rest, hp⟩ := rc
  refine ⟨fun pins s σ H Q I hh => ?_⟩
  refine PySem.W.methodCall_KW (pl := pl) (thn (ho.run pins s σ H _ I hh) fun u s1 ⟨x, H1, I1, rx, ex, q⟩ => ?_) ht
  subst ex
  obtain rfl : u = Value.ref C := rx
  have I2 := I1.tok (s1.toks + 1)
  refine PySem.W.method_cls I1.kIn r.ga (PySem.W.cls_bind I1.kIn r.rd at_ (wpAny_call (PySem.W.sm_get (s := { s1 with toks := s1.toks + 1 }) I1.kIn hp (PySem.W.handed_on rfl ?_))))
  refine PySem.W.callWith_K (h₀ := X.base) I2.ok.mod.kin kp (thn (ha.run pos pins _ σ H1 _ I2 q) fun us s3 ⟨vs, H2, I3, rv, q2⟩ => ⟨I3.kIn, ?_⟩) hst hpl
  exact run_fn F hr B .nil pass0 I3 rv (by rw [List.append_nil]; exact q2)
theorem rd_stat {C : Addr} {sp : Sp} {ta : TE} {t : TA} {σ : L2.St} {H : Hp} {Q : VK} (h : ta σ H fun x H1 => x = .ref C ∧ t σ H1 fun vs H2 => sp vs H2 Q E0) : tStat C sp ta t σ H Q := h
/-! ### constructors -/
def MkB (C : Addr) (n m : Nat) (sp : Sp) (gV : List V → List V → List V) (vs zs : List V) (H : Hp) (Q : VK) : Prop := vs.length = n ∧ zs.length = m ∧ ∀ x dx, H x = none → H dx = none → dx ≠ x → sp (gV (.ref x :: vs) zs) (upd (upd H dx (.own x)) x (.ins C dx [])) (fun v H3 => v = .non ∧ Q (.ref x) H3) E0
def MkB0 (C : Addr) (sp : Sp) (dvs vs : List V) (H : Hp) (Q : VK) : Prop := ∀ x dx, H x = none → H dx = none → dx ≠ x → sp (.ref x :: (vs ++ dvs)) (upd (upd H dx (.own x)) x (.ins C dx [])) (fun v H3 => v = .non ∧ Q (.ref x) H3) E0
/-- C(e, .., k = v, ..) -/
def OkC (P : Program) (w : World) (K : PySem.W.Frag) (mg : Str → Option Value) (base : Heap) (k : Nat) (C f : Addr) (ps : List Str) (n : Nat) (ks : List Str) (gV : List V → List V → List V) (sp : Sp) : Prop :=
  ∃ fd g, FnOk P w K mg base CX0 k f fd ps sp ∧ KBn K fd ps (n + 1) ks g gV
theorem pe_oc {k n : Nat} {x : Str} {C f : Addr} {ps ks : List Str} {gV : List V → List V → List V} {sp : Sp} {e : Expr} {es : List Expr} {kws : List Keyword} {t tk : TA} {p pos : Pos} (M : Mk X.K C f) (h : OkC X.prog X.w X.K X.mg X.base k C f ps n ks gV sp) (hr : Room (k + 1) X.A) (hg : Gl X x) (hm : X.mg x = some (.ref C)) (ha : PA X (e :: es) t) (hkw : PK X kws tk)
    (hall : (backToKw pos (keywordEach kws X.env)).all (·.1.isSome) = true := by rfl) (hks : (backToKw pos (keywordEach kws X.env)).filterMap (·.1) = ks := by rfl) (hdb : (x == ("__debug__" : Str)) = false := by decide)
    (he : starEach (e :: es) X.env = (false, eval e X.env) :: starEach es X.env := by rfl) (hpl : ((backTo pos (starEach (e :: es) X.env)).any (·.1) || (backToKw pos (keywordEach kws X.env)).any (·.1.isNone)) = false := by rfl) :
    PE X (.Call (.Name x p) (e :: es) kws pos) (tMakeK C n ks.length sp gV E0 t tk) := by
  obtain ⟨fd, g, F, hb⟩ := h
  exact pe_makeK M F hr hg hm hb pass0 ha hkw hall hks hdb he hpl
theorem rd_makeK {C : Addr} {n m : Nat} {sp : Sp} {gV : List V → List V → List V} {t tk : TA} {σ : L2.St} {H : Hp} {Q : VK} (h : t σ H fun vs H1 => tk σ H1 fun zs H2 => MkB C n m sp gV vs zs H2 Q) : tMakeK C n m sp gV E0 t tk σ H Q := h
/-- C(e, ..), defaults behind -/
def OkC0 (P : Program) (w : World) (K : PySem.W.Frag) (mg : Str → Option Value) (base : Heap) (k : Nat) (f : Addr) (ps : List Str) (dvs : List V) (sp : Sp) : Prop :=
  ∃ fd ds, FnOk P w K mg base CX0 k f fd ps sp ∧ Binds K fd ps ds ∧ Vals dvs ds
theorem pe_oc0 {k : Nat} {x : Str} {C f : Addr} {ps : List Str} {dvs : List V} {sp : Sp} {e : Expr} {es : List Expr} {t : TA} {p pos : Pos} (M : Mk X.K C f) (h : OkC0 X.prog X.w X.K X.mg X.base k f ps dvs sp) (hr : Room (k + 1) X.A) (hg : Gl X x) (hm : X.mg x = some (.ref C)) (ha : PA X (e :: es) t)
    (hdb : (x == ("__debug__" : Str)) = false := by decide) (he : starEach (e :: es) X.env = (false, eval e X.env) :: starEach es X.env := by rfl) (hpl : (backTo pos (starEach es X.env)).any (·.1) = false := by rfl) :
    PE X (.Call (.Name x p) (e :: es) [] pos) (tMake C sp dvs E0 t) := by
  obtain ⟨fd, ds, F, hb, hd⟩ := h
  exact pe_make M F hr hg hm hb hd pass0 ha (hdb := hdb) (he := he) (hpl := hpl)
theorem rd_make {C : Addr} {sp : Sp} {dvs : List V} {t : TA} {σ : L2.St} {H : Hp} {Q : VK} (h : t σ H fun vs H1 => MkB0 C sp dvs vs H1 Q) : tMake C sp dvs E0 t σ H Q := h
/-- o.m(k = v, ..) -/
def OkFK (P : Program) (w : World) (K : PySem.W.Frag) (mg : Str → Option Value) (base : Heap) (k : Nat) (f : Addr) (ps ks : List Str) (gV : List V → List V → List V) (sp : Sp) : Prop := ∃ fd g, FnOk P w K mg base CX0 k f fd ps sp ∧ KBn K fd ps 1 ks g gV
def MeK (C : Addr) (m : Str) (n : Nat) (sp : Sp) (gV : List V → List V → List V) (tk : TA) (σ : L2.St) (x : V) (H : Hp) (Q : VK) : Prop := ∃ a dx fs, x = .ref a ∧ H a = some (.ins C dx fs) ∧ fs.lookup m = none ∧ tk σ H fun zs H2 => zs.length = n ∧ sp (gV [x] zs) H2 Q E0
def tMethK (C : Addr) (m : Str) (n : Nat) (sp : Sp) (gV : List V → List V → List V) (ta : TE) (tk : TA) : TE := fun σ H Q => ta σ H fun x H1 => MeK C m n sp gV tk σ x H1 Q
theorem rd_methK {C : Addr} {m : Str} {n : Nat} {sp : Sp} {gV : List V → List V → List V} {ta : TE} {tk : TA} {σ : L2.St} {H : Hp} {Q : VK} (h : ta σ H fun x H1 => MeK C m n sp gV tk σ x H1 Q) : tMethK C m n sp gV ta tk σ H Q := h
theorem rd_meK {C : Addr} {m : Str} {n : Nat} {sp : Sp} {gV : List V → List V → List V} {tk : TA} {σ : L2.St} {H : Hp} {Q : VK} {a dx : Addr} {fs : List (Str × V)} (h : H a = some (.ins C dx fs)) (hl : fs.lookup m = none) (q : tk σ H fun zs H2 => zs.length = n ∧ sp (gV [.ref a] zs) H2 Q E0) : MeK C m n sp gV tk σ (.ref a) H Q := ⟨a, dx, fs, rfl, h, hl, q⟩
theorem pe_omK {pl : Sem Bool} {k : Nat} {C f : Addr} {m : Str} {ps ks : List Str} {gV : List V → List V → List V} {sp : Sp} {o : Expr} {kws : List Keyword} {ta : TE} {tk : TA} {apos pos : Pos} (ho : PE X o ta) (c : Cls X.K C) (M : Meth X.K C m f) (h : OkFK X.prog X.w X.K X.mg X.base k f ps ks gV sp) (hr : Room k X.A) (hkw : PK X kws tk)
    (hall : (backToKw pos (keywordEach kws X.env)).all (·.1.isSome) = true := by rfl) (hks : (backToKw pos (keywordEach kws X.env)).filterMap (·.1) = ks := by rfl)
    (hpl : ((backTo pos (starEach [] X.env)).any (·.1) || (backToKw pos (keywordEach kws X.env)).any (·.1.isNone)) = false := by rfl)
    (ht : eval (.Call (.Attribute o m apos) [] kws pos) X.env = (do let ov ← eval o X.env; standAt apos.atName; let (f, first) ← holding [ov] (getMethod ov m pl); callWith pos f first (backTo pos (starEach [] X.env)) (backToKw pos (keywordEach kws X.env))) := by rfl) :
    PE X (.Call (.Attribute o m apos) [] kws pos) (tMethK C m ks.length sp gV ta tk) := by
  obtain ⟨fd, g, F, hb⟩ := h
  refine ⟨fun pins s σ H Q I h => ?_⟩
  refine PySem.W.methodCall_KW (pl := pl) (thn (ho.run pins s σ H _ I h) fun u s1 ⟨x, H1, I1, rx, a, dx, fs, ex, ea, l, q⟩ => ?_) ht
  subst ex
  obtain rfl : u = Value.ref a := rx
  refine getmeth_ok I1 ea c M l ?_
  refine PySem.W.callWith_KW0 (first := [.ref a]) (h₀ := X.base) I.ok.mod.kin M.kp hall ?_ hpl
  refine thn (hkw.run pos pins s1 σ H1 _ I1 q) fun ws s2 ⟨zs, H2, I2, rz, l2, q2⟩ => ⟨I2.kIn, ?_⟩
  rw [hks]
  exact run_fnN (us := [.ref a]) (vs := [.ref a]) F hr hb pass0 I2 (.cons rfl .nil) rz rfl l2 q2
theorem OkFK.mk {P : Program} {w : World} {K : PySem.W.Frag} {mg : Str → Option Value} {base : Heap} {x qual : Str} {st : Stmt} {f : Addr} {ps ks : List Str} {k : Nat} {sp : Sp} (h : OkF P w K mg base k f ps sp) (F : ∃ fd, FunD K x qual (defArgs st) (defBody st) (defScope st) [] [] f fd) (g : {α : Type} → List α → List α → List α)
    (hrel : ∀ {vs zs : List V} {us ws : List Value}, Vals vs us → Vals zs ws → Vals (g vs zs) (g us ws))
    (hb : ∀ (kV doc pm : Value) (an : Option Addr) (cdv ct : Value) (us ws : List Value), us.length = 1 → ws.length = ks.length → bindArgs (PySem.W.fnOf x qual (defArgs st) (defBody st) (defScope st) .none kV doc pm an cdv ct) ⟨us, ks.zip ws⟩ = pure (ps.zip (g us ws))) :
    OkFK P w K mg base k f ps ks g sp := by
  obtain ⟨fd, F⟩ := F
  obtain ⟨fd2, FO, _, oc2, od2, osl2, l2⟩ := h
  obtain ⟨oc, od, dV, kV, doc, pm, an, cdv, ct, osl, rfl, lk, hcd, hD, hK⟩ := F.ex
  rw [lk] at l2
  cases l2
  rcases hD with ⟨_, rfl⟩ | ⟨e, _⟩
  · exact ⟨_, g, FO, ⟨fun s us ws _ h1 h2 => .of_eq (hb kV doc pm an cdv ct us ws h1 h2), fun r1 r2 => hrel r1 r2⟩⟩
  · exact absurd rfl e
end classes
/-! ## great ints, while, fields -/
section sizes
/-- i has at most n bits -/
def W (n : Nat) (i : Int) : Prop := i.natAbs < 2 ^ n
variable {a b : Nat} {i j : Int}
theorem W.mono (h : W a i) (l : a ≤ b) : W b i := Nat.lt_of_lt_of_le h (Nat.pow_le_pow_right (by decide) l)
theorem W.le (h : W a j) (l : i.natAbs ≤ j.natAbs) : W a i := Nat.lt_of_le_of_lt l h
theorem W.mul (ha : W a i) (hb : W b j) : W (a + b) (i * j) := wide_lt ha hb
theorem W.add (ha : W a i) (hb : W a j) : W (a + 1) (i + j) := by
  unfold W at *
  have : (2 : Nat) ^ (a + 1) = 2 ^ a * 2 := Nat.pow_succ ..
  omega
theorem W.sub (ha : W a i) (hb : W a j) : W (a + 1) (i - j) := by
  unfold W at *
  have : (2 : Nat) ^ (a + 1) = 2 ^ a * 2 := Nat.pow_succ ..
  omega
theorem W.neg (ha : W a i) : W a (-i) := ha.le (by omega)
theorem W.fdiv (ha : W a i) (j : Int) : W a (i.fdiv j) := ha.le (Int.natAbs_fdiv_le_natAbs i j)
theorem W.log (h : W a i) (h9 : a ≤ 9000) (h0 : 0 < a := by decide) : i.natAbs.log2 < 9000 := Nat.lt_of_lt_of_le (PySem.Flt.log2_lt_of h0 h) h9
theorem W.mulx (ha : W a i) (hb : W b j) (h : a + b ≤ 100000 := by decide) : CMulX i j := mulx_ok ha hb (by omega)
theorem W.small (h : i.natAbs < 1073741824) : W 30 i := h
end sizes
/-- // by a divisor that is not zero -/
def CDivG (_ j : Int) : Prop := j ≠ 0 ∧ j.natAbs.log2 < 9000
section
variable {X : Cx}
theorem op_fdivG : OpR X (binaryOp .FloorDiv) (rI CDivG fun i j => .int (i.fdiv j)) := opI fun i j _ _ _ _ _ hc q => floordiv_int hc.1 q (.inl (PyProof.noPylong_of_log2 hc.2))
end
section
variable {K : PySem.W.Frag} {σ : L2.St} {H : Hp} {Q : VK} {ta tv : TE} {f : Str} {D : Ends}
theorem rd_bits (h : ta σ H fun x H1 => ∃ i, x = .int i ∧ Q (.int (Builtin.Int.intBits i : Nat)) H1) : tBits ta σ H Q := h
def rShl1 : R2 := fun x y H Q => ∃ k : Nat, x = .int 1 ∧ y = .int (k : Int) ∧ k ≤ 134217727 ∧ Q (.int (2 ^ k)) H
theorem op_shl1 {X : Cx} : OpR X (binaryOp .LShift) rShl1 := op_oneShl
theorem rd_shl1 {k : Int} (h : 0 ≤ k) (h2 : k ≤ 134217727) (q : Q (.int (2 ^ k.toNat)) H) : rShl1 (.int 1) (.int k) H Q := ⟨k.toNat, rfl, by rw [Int.toNat_of_nonneg h], by omega, q⟩
theorem rd_in {x : V} {p : Addr} {xs : List V} (h : SqT K H p xs) (fx : flatV x = true) (fs : xs.all flatV = true) (q : Q (.bl (inV x xs)) H) : rIn K false x (.ref p) H Q := ⟨p, xs, rfl, .inr h, fx, fs, q⟩
def SfB (K : PySem.W.Frag) (f : Str) (D : Ends) (σ : L2.St) (y x : V) (H2 : Hp) : Prop := ∃ a C dx fs, x = .ref a ∧ H2 a = some (.ins C dx fs) ∧ Cls K C ∧ NoAttr K C f ∧ fs.length < 1000 ∧ D.nx σ (upd H2 a (.ins C dx (putF f y fs)))
theorem rd_sFld (h : tv σ H fun y H1 => ta σ H1 fun x H2 => SfB K f D σ y x H2) : sFld K ta tv f D σ H := h
theorem rd_sfB {a C dx : Addr} {fs : List (Str × V)} {y : V} (h : H a = some (.ins C dx fs)) (c : Cls K C) (n : NoAttr K C f) (l : fs.length < 1000) (q : ∀ H2, Chg a H H2 → H2 a = some (.ins C dx (putF f y fs)) → D.nx σ H2) : SfB K f D σ y (.ref a) H := ⟨a, C, dx, fs, rfl, h, c, n, l, q _ Chg.of upd_same⟩
end
theorem rd_nT {A B : Prop} (h : B) : if (!true) = true then A else B := iteF h
theorem rd_nF {A B : Prop} (h : A) : if (!false) = true then A else B := iteT h
theorem rd_gNameS {i : Nat} {v : V} {σ σ' : L2.St} {H : Hp} {N : L2.St → Hp → Prop} (hs : σ.set i (some v) = σ') (q : N σ' H) : gName i v σ H N := by
  subst hs
  exact q
theorem rd_parS {i j : Nat} {v w : V} {σ σ' : L2.St} {H : Hp} {N : L2.St → Hp → Prop} (hs : (σ.set i (some v)).set j (some w) = σ') (h : N σ' H) : ParB i j [v, w] N σ H := by
  subst hs
  exact ⟨v, w, rfl, h⟩
/-! ## a dict of the module: ints to tuples of ints -/
section idict
open PySem.W (Frag)
def tupAt (K : Frag) (a : Addr) (vs : List Int) : Bool := match K.lookup a with
  | some ⟨.type c, _, .seq its _, _⟩ => decide (c = "tuple") && (decide (its.size ≤ sizeLine) && He.relAll (vs.map V.int) its.toList)
  | _ => false
theorem tupAt_ok {K : Frag} {a : Addr} {vs : List Int} (h : tupAt K a vs = true) (H : Hp) : SqT K H a (vs.map V.int) := by
  unfold tupAt at h
  cases q : K.lookup a with
  | none =>
    rw [q] at h
    cases h
  | some o =>
    obtain ⟨oc, od, dt, osl⟩ := o
    rw [q] at h
    cases oc with
    | type c =>
      cases dt with
      | seq its n =>
        obtain ⟨h1, h2⟩ := He.ba (show (decide (c = "tuple") && (decide (its.size ≤ sizeLine) && He.relAll (vs.map V.int) its.toList)) = true from h)
        obtain ⟨h3, h4⟩ := He.ba h2
        exact .inr ⟨_, its, n, q, congrArg Value.type (of_decide_eq_true h1), rfl, of_decide_eq_true h3, He.relAll_ok h4⟩
      | _ => cases h
    | _ => cases dt <;> cases h
def rowB (K : Frag) (e : DictEntry) (k : Int) (vs : List Int) : Bool := match e.key, e.val with
  | .int j _, .ref a => decide (j = k) && (decide (e.hash = hashInt k) && tupAt K a vs)
  | _, _ => false
def rowsB (K : Frag) : List DictEntry → List (Int × List Int) → Bool
  | [], [] => true
  | e :: es, q :: r => rowB K e q.1 q.2 && rowsB K es r
  | _, _ => false
def idctB (x : Str) (kvs : List (Int × List Int)) (K : Frag) : Bool := match K.lookup (He.ga K x) with
  | some ⟨.type c, none, .dict es _, sl⟩ => decide (c = "dict") && (sl.isEmpty && rowsB K es.toList kvs)
  | _ => false
theorem rowB_ok {K : Frag} {e : DictEntry} {k : Int} {vs : List Int} (h : rowB K e k vs = true) : ∃ t a, e.key = .int k t ∧ e.hash = hashInt k ∧ e.val = .ref a ∧ ∀ H, SqT K H a (vs.map V.int) := by
  obtain ⟨hh, key, val⟩ := e
  unfold rowB at h
  cases key with
  | int j t =>
    cases val with
    | ref a =>
      obtain ⟨h1, h2⟩ := He.ba (show (decide (j = k) && (decide (hh = hashInt k) && tupAt K a vs)) = true from h)
      obtain ⟨h3, h4⟩ := He.ba h2
      cases of_decide_eq_true h1
      exact ⟨t, a, rfl, of_decide_eq_true h3, rfl, tupAt_ok h4⟩
    | _ => cases h
  | _ => cases val <;> cases h
/-- d[k] is the tuple at u, which holds vs -/
def IGet (K : Frag) (p : Addr) (k : Int) (vs : List Int) (u : Addr) : Prop := ∃ es n, K.lookup p = some ⟨.type "dict", none, .dict es n, #[]⟩ ∧ (∀ e ∈ es.toList, ∃ j t, e.key = .int j t ∧ e.hash = hashInt j) ∧ findBy Value.isInt es k = some (.ref u) ∧ ∀ H, SqT K H u (vs.map V.int)
theorem rows_keys {K : Frag} : ∀ {es : List DictEntry} {kvs : List (Int × List Int)}, rowsB K es kvs = true → ∀ e ∈ es, ∃ j t, e.key = .int j t ∧ e.hash = hashInt j
  | e :: es, q :: r, h, x, hx => by
    obtain ⟨h1, h2⟩ := He.ba (show (rowB K e q.1 q.2 && rowsB K es r) = true from h)
    cases hx with
    | head =>
      obtain ⟨t, a, e1, e2, _⟩ := rowB_ok h1
      exact ⟨_, t, e1, e2⟩
    | tail _ hx => exact rows_keys h2 x hx
theorem rows_find {K : Frag} {k : Int} {vs : List Int} : ∀ {es : List DictEntry} {kvs : List (Int × List Int)}, rowsB K es kvs = true → kvs.lookup k = some vs → ∃ u, (es.find? fun e => Value.isInt k e.key).map (·.val) = some (.ref u) ∧ ∀ H, SqT K H u (vs.map V.int)
  | [], [], _, hl => by cases hl
  | e :: es, q :: r, h, hl => by
    obtain ⟨h1, h2⟩ := He.ba (show (rowB K e q.1 q.2 && rowsB K es r) = true from h)
    obtain ⟨t, a, e1, e2, e3, e4⟩ := rowB_ok h1
    obtain ⟨q1, q2⟩ := q
    by_cases z : k = q1
    · subst z
      have : q2 = vs := by
        have : some q2 = some vs := by
          rw [← hl]
          simp [List.lookup]
        injection this
      subst this
      refine ⟨a, ?_, e4⟩
      rw [List.find?_cons_of_pos (by rw [e1]; simp [Value.isInt])]
      rw [← e3] <;> rfl
    · have hl2 : r.lookup k = some vs := by
        rw [← hl]
        have : (k == q1) = false := by simp [z]
        simp [List.lookup, this]
      obtain ⟨u, f1, f2⟩ := rows_find h2 hl2
      refine ⟨u, ?_, f2⟩
      rw [List.find?_cons_of_neg (by rw [e1]; simp [Value.isInt]; omega)]
      exact f1
theorem idctB_ok {K : Frag} {x : Str} {kvs : List (Int × List Int)} (h : idctB x kvs K = true) : ∀ k vs, kvs.lookup k = some vs → ∃ u, IGet K (He.ga K x) k vs u := by
  intro k vs hl
  unfold idctB at h
  cases q : K.lookup (He.ga K x) with
  | none =>
    rw [q] at h
    cases h
  | some o =>
    obtain ⟨oc, od, dt, osl⟩ := o
    rw [q] at h
    cases oc with
    | type c =>
      cases od with
      | none =>
        cases dt with
        | dict es n =>
          obtain ⟨h1, h2⟩ := He.ba (show (decide (c = "dict") && (osl.isEmpty && rowsB K es.toList kvs)) = true from h)
          obtain ⟨h3, h4⟩ := He.ba h2
          cases of_decide_eq_true h1
          have h5 : osl = #[] := Array.isEmpty_iff.mp h3
          cases h5
          obtain ⟨u, f1, f2⟩ := rows_find h4 hl
          refine ⟨u, es, n, q, rows_keys h4, ?_, f2⟩
          obtain ⟨l⟩ := es
          unfold findBy
          rw [List.find?_toArray]
          exact f1
        | _ => cases h
      | some a => cases dt <;> cases h
    | _ => cases od <;> cases dt <;> cases h
def rIxI (K : Frag) : R2 := fun x y H Q => ∃ p k vs u, x = .ref p ∧ y = .int k ∧ IGet K p k vs u ∧ Q (.ref u) H
theorem ix_idict {X : Cx} : IxR X (rIxI X.K) := by
  intro value slice pins s σ H x y v u Q I rx ry h hs
  obtain ⟨p, k, vs, r, rfl, rfl, ⟨es, n, hl, hk, hf, _⟩, q⟩ := h
  obtain rfl : v = Value.ref p := rx
  obtain ⟨t, rfl⟩ := ry
  have hm : s.heap.MapOf (intKind X.prog X.w) p (fun k => findBy Value.isInt es k) := ⟨_, es, n, I.kIn _ _ hl, ⟨rfl, rfl, rfl⟩, rfl, fun e he => by
    obtain ⟨j, t, e1, e2⟩ := hk e (Array.mem_toList_iff.mpr he)
    exact ⟨j, by rw [e1]; exact intKind_is X.prog X.w j t, e2⟩, fun _ => rfl⟩
  exact tail_any hm.typeIs slot_dict_getitem.lookup (wpAny_getItem_of (intKind_is X.prog X.w k t) hm hf ⟨.ref r, H, I.tok _, rfl, q⟩) hs
theorem rd_ixI {K : Frag} {p u : Addr} {k : Int} {vs : List Int} {H : Hp} {Q : VK} (h : IGet K p k vs u) (q : Q (.ref u) H) : rIxI K (.ref p) (.int k) H Q := ⟨p, k, vs, u, rfl, rfl, h, q⟩
end idict
def top (i : Nat) : Stmt := PySem.Challenge.pw_rootfloor_k07_whole_each_number_has_one.main.body.getD i (.Pass ⟨0, 0, 0, 0⟩)
def mfile : Str := PySem.Challenge.pw_rootfloor_k07_whole_each_number_has_one.main.file
abbrev s_wall : Stmt := top 0
abbrev s_InvalidRoot__init_ : Stmt := inClass (top 3) 0
abbrev s_InvalidNumber__init_ : Stmt := inClass (top 4) 0
abbrev s_InvalidDigits__init_ : Stmt := inClass (top 5) 0
abbrev s_FieldsDiffer__init_ : Stmt := inClass (top 6) 0
abbrev s_is_integer : Stmt := top 10
abbrev s_is_number : Stmt := top 11
abbrev s_need_number : Stmt := top 12
abbrev s_is_root : Stmt := top 13
abbrev s_common_divisor : Stmt := top 14
abbrev s_numerator_text : Stmt := top 15
abbrev s_slope_text : Stmt := top 16
abbrev s_Surd__init_ : Stmt := inClass (top 17) 0
abbrev s_Surd_of_slope : Stmt := inClass (top 17) 1
abbrev s_Surd_root : Stmt := inClass (top 17) 2
abbrev s_Surd_parts : Stmt := inClass (top 17) 3
abbrev s_Surd_sign : Stmt := inClass (top 17) 4
abbrev s_Surd_floor : Stmt := inClass (top 17) 5
abbrev s_Surd_compared : Stmt := inClass (top 17) 6
abbrev s_Surd_text : Stmt := inClass (top 17) 7
abbrev s_Surd__add_ : Stmt := inClass (top 17) 8
abbrev s_Surd__sub_ : Stmt := inClass (top 17) 9
abbrev s_Surd__mul_ : Stmt := inClass (top 17) 10
abbrev s_Surd__neg_ : Stmt := inClass (top 17) 11
abbrev s_Surd__eq_ : Stmt := inClass (top 17) 12
abbrev s_Surd__bool_ : Stmt := inClass (top 17) 13
abbrev s_Surd__repr_ : Stmt := inClass (top 17) 14
abbrev s_steps_up_to : Stmt := top 22
abbrev s_can_stand : Stmt := top 23
abbrev s_Field__init_ : Stmt := inClass (top 24) 1
abbrev s_Field_root : Stmt := inClass (top 24) 2
abbrev s_Field_period : Stmt := inClass (top 24) 3
abbrev s_Field_top : Stmt := inClass (top 24) 4
abbrev s_Field_part : Stmt := inClass (top 24) 5
abbrev s_Field_step : Stmt := inClass (top 24) 6
abbrev s_Field_tail : Stmt := inClass (top 24) 7
abbrev s_Field_base : Stmt := inClass (top 24) 8
abbrev s_Field_digits : Stmt := inClass (top 24) 9
abbrev s_Field_value : Stmt := inClass (top 24) 10
abbrev s_Field_floor : Stmt := inClass (top 24) 11
abbrev s_Field__eq_ : Stmt := inClass (top 24) 12
abbrev s_Field__repr_ : Stmt := inClass (top 24) 13
abbrev s_law_bag : Stmt := top 26
abbrev s_law_pull : Stmt := top 27
abbrev s_law_of : Stmt := top 28
abbrev s_law_same : Stmt := top 29
abbrev s_law_period : Stmt := top 30
abbrev s_law_steps : Stmt := top 31
abbrev s_law_can : Stmt := top 32
abbrev s_law_root : Stmt := top 33
abbrev s_law : Stmt := top 34
def d_is_integer : He5.DefA := ⟨fun K => He.ga K "is_integer", "is_integer", "is_integer", defArgs s_is_integer, defBody s_is_integer, defScope s_is_integer, [], []⟩
def d_is_number : He5.DefA := ⟨fun K => He.ga K "is_number", "is_number", "is_number", defArgs s_is_number, defBody s_is_number, defScope s_is_number, [], []⟩
def d_need_number : He5.DefA := ⟨fun K => He.ga K "need_number", "need_number", "need_number", defArgs s_need_number, defBody s_need_number, defScope s_need_number, [], []⟩
def d_is_root : He5.DefA := ⟨fun K => He.ga K "is_root", "is_root", "is_root", defArgs s_is_root, defBody s_is_root, defScope s_is_root, [], []⟩
def d_steps_up_to : He5.DefA := ⟨fun K => He.ga K "steps_up_to", "steps_up_to", "steps_up_to", defArgs s_steps_up_to, defBody s_steps_up_to, defScope s_steps_up_to, [], []⟩
def d_can_stand : He5.DefA := ⟨fun K => He.ga K "can_stand", "can_stand", "can_stand", defArgs s_can_stand, defBody s_can_stand, defScope s_can_stand, [], []⟩
def d_Field__init_ : He5.DefA := ⟨fun K => He.ma K (He.ga K "Field") "__init__", "__init__", "Field.__init__", defArgs s_Field__init_, defBody s_Field__init_, defScope s_Field__init_, [], []⟩
def d_Field_step : He5.DefA := ⟨fun K => He.ma K (He.ga K "Field") "step", "step", "Field.step", defArgs s_Field_step, defBody s_Field_step, defScope s_Field_step, [], []⟩
def d_Field_digits : He5.DefA := ⟨fun K => He.ma K (He.ga K "Field") "digits", "digits", "Field.digits", defArgs s_Field_digits, defBody s_Field_digits, defScope s_Field_digits, [], []⟩
def d_Field_value : He5.DefA := ⟨fun K => He.ma K (He.ga K "Field") "value", "value", "Field.value", defArgs s_Field_value, defBody s_Field_value, defScope s_Field_value, [], []⟩
def d_law_bag : He5.DefA := ⟨fun K => He.ga K "_law_bag", "_law_bag", "_law_bag", defArgs s_law_bag, defBody s_law_bag, defScope s_law_bag, [], []⟩
def d_law_pull : He5.DefA := ⟨fun K => He.ga K "_law_pull", "_law_pull", "_law_pull", defArgs s_law_pull, defBody s_law_pull, defScope s_law_pull, [], []⟩
def d_law_of : He5.DefA := ⟨fun K => He.ga K "_law_of", "_law_of", "_law_of", defArgs s_law_of, defBody s_law_of, defScope s_law_of, [], []⟩
def d_law_same : He5.DefA := ⟨fun K => He.ga K "_law_same", "_law_same", "_law_same", defArgs s_law_same, defBody s_law_same, defScope s_law_same, [], []⟩
def d_law_period : He5.DefA := ⟨fun K => He.ga K "_law_period", "_law_period", "_law_period", defArgs s_law_period, defBody s_law_period, defScope s_law_period, [], []⟩
def d_law_steps : He5.DefA := ⟨fun K => He.ga K "_law_steps", "_law_steps", "_law_steps", defArgs s_law_steps, defBody s_law_steps, defScope s_law_steps, [], []⟩
def d_law_can : He5.DefA := ⟨fun K => He.ga K "_law_can", "_law_can", "_law_can", defArgs s_law_can, defBody s_law_can, defScope s_law_can, [], []⟩
def d_law_root : He5.DefA := ⟨fun K => He.ga K "_law_root", "_law_root", "_law_root", defArgs s_law_root, defBody s_law_root, defScope s_law_root, [], []⟩
def d_law : He5.DefA := ⟨fun K => He.ga K "law", "law", "law", defArgs s_law, defBody s_law, defScope s_law, [], []⟩
def fn : List He5.DefA := [d_is_integer, d_is_number, d_need_number, d_is_root, d_steps_up_to, d_can_stand, d_Field__init_, d_Field_step, d_Field_digits, d_Field_value, d_law_bag, d_law_pull, d_law_of, d_law_same, d_law_period, d_law_steps, d_law_can, d_law_root, d_law]
def fa : List He.Fa := [.glo "is_integer",
  .glo "is_number",
  .glo "need_number",
  .glo "is_root",
  .glo "steps_up_to",
  .glo "can_stand",
  .glo "_law_bag",
  .glo "_law_pull",
  .glo "_law_of",
  .glo "_law_same",
  .glo "_law_period",
  .glo "_law_steps",
  .glo "_law_can",
  .glo "_law_root",
  .glo "law",
  .glo "Field",
  .free "abs",
  .free "all",
  .free "bool",
  .free "enumerate",
  .free "int",
  .free "isinstance",
  .free "len",
  .free "list",
  .free "range",
  .free "sorted",
  .free "str",
  .free "tuple",
  .free "zip",
  .glo "ROOTS",
  .int "MOST_NUMBER" (10000000000000000000000000000000000000000),
  .int "MOST_PLACE" (1000),
  .glo "PERIODS",
  .cls "Field",
  .mkr "Field",
  .noat "Field" "own_root",
  .noat "Field" "own_period",
  .noat "Field" "relations",
  .meth "Field" "step",
  .meth "Field" "digits",
  .meth "Field" "value"]
def ex : List (PySem.W.Frag → Bool) := [fun K => He.tupB K "ROOTS" [.int 2, .int 3, .int 5, .int 6, .int 13],
  idctB "PERIODS" [(2, [2]), (3, [1, 2]), (5, [1]), (6, [2, 4]), (13, [3])]]
def names : List PySem.Str := (["ROOTS", "MOST_NUMBER", "MOST_PLACE", "PERIODS", "BASES", "_wall", "is_integer", "is_number", "need_number", "is_root", "common_divisor", "numerator_text", "slope_text", "steps_up_to", "can_stand"] : List PySem.Str) ++ (["_law_bag", "_law_pull", "_law_of", "_law_same", "_law_period", "_law_steps", "_law_can", "_law_root", "RootError", "InvalidRoot", "InvalidNumber", "InvalidDigits", "FieldsDiffer", "Surd", "Field"] : List PySem.Str)
abbrev R : PySem.W.OpenRow := PySem.W.OpenLaw.row PySem.Challenge.rw_rootfloor_k07_whole_each_number_has_one
abbrev hk : PySem.W.Hook := hookY 5 fa fn ex
def ob (s : PySem.W.SharedT) : AlY := obsY 5 fa fn ex (HandSHeadRun.getT s)
theorem ob_eq (s : PySem.W.SharedT) : ob s = hk.obs s.abs := obsY_eq (HandSHeadRun.getT_eq s)

theorem runF (w : World) : HandSHeadRun.RunEq R (PySem.W.view R.prog [34]) hk ob 12000 names (w.withFollow "special-get-raises" false) := by
  intro os
  kernel_rfl
theorem runT (w : World) : HandSHeadRun.RunEq R (PySem.W.view R.prog [34]) hk ob 12000 names (w.withFollow "special-get-raises" true) := by
  intro os
  kernel_rfl
theorem run (w : World) : HandSHeadRun.RunEq R (PySem.W.view R.prog [34]) hk ob 12000 names w := PySem.W.byRow2 "special-get-raises" (P := fun w => HandSHeadRun.RunEq R (PySem.W.view R.prog [34]) hk ob 12000 names w) runF runT w
/-! ## max of a tuple of ints -/
section maxt
theorem max_tupRaw {prog : Program} {w : World} {A : Around} {E : Value → Shared → Prop} {s : Shared} {l : Addr} {its : List Value} {ns : List Int} {Q : Value → Shared → Prop} (hh : A.handled = none) (hl : s.heap.IsTuple l its.toArray) (hi : IntsAre its ns) (hne : 0 < ns.length)
    (h : ∀ h' tk M t', (∀ b o, s.heap.get? b = some o → h'.get? b = some o) → M ∈ ns → (∀ a, a ∈ ns → a ≤ M) → Q (.int M t') { s with heap := h', toks := tk }) : wpAny (model prog w) A (call (.builtin "max") [.ref l]) Q E s := by
  obtain ⟨xs, e⟩ := hi.allInts.items
  have hn : numsOf (intItems xs).toList = ns := by rw [← e]; exact hi.numsOf
  rw [nums_intItems] at hn
  subst hn
  rw [e] at hl
  have hsz : 0 < xs.size := by simpa using hne
  have hlt : l < s.heap.objs.size := by obtain ⟨_, e, _⟩ := hl; exact Heap.lt_size e
  have hfp : ∀ b ∈ [s.heap.objs.size, l], b < (s.heap.push { cls := .type "tuple_iterator", data := .fields #[.ref l, .int 0 0] }).objs.size := fun b hb => by
    rw [Heap.size_push]
    rcases List.mem_cons.mp hb with rfl | hb
    · exact Nat.lt_succ_self _
    · rcases List.mem_cons.mp hb with rfl | hb
      · exact Nat.lt_succ_of_lt hlt
      · cases hb
  refine PySem.call_max_walk (wpAny_pyIter_tuple hl ?_)
  refine ⟨_, _, _, _, _, _, _, rfl, Walks.tuple (A := A.in1) hh _ l (Nat.ne_of_lt hlt) (intItems xs), ⟨⟨_, Heap.get?_push_size _ rfl, rfl, rfl⟩, hl.push _⟩, hfp, by simpa [intItems] using hsz, CmpOf.ints_gt (numAt xs) (fun _ _ => intItems_at), fun v h' tk hP hk => ?_⟩
  have hv : (intItems xs)[argBest (fun i j => decide (numAt xs i > numAt xs j)) (xs.size - 1)]? = some v := by simpa [intItems] using hP
  obtain ⟨t, rfl⟩ := intItems_at hv
  obtain ⟨h1, h2⟩ := argBest_gt (numAt xs) (xs.size - 1)
  refine h h' tk _ t (fun b o e => ?_) ?_ fun a ha => ?_
  · refine hk b o (fun hm => ?_) (Heap.get?_push_of_some _ e)
    rcases List.mem_cons.mp hm with e1 | hm
    · exact absurd (e1 ▸ Heap.lt_size e) (Nat.lt_irrefl _)
    · cases hm
  · rw [numAt_eq]; exact PySem.getD_mem (by rw [List.length_map, Array.length_toList]; omega)
  · obtain ⟨j, hj, rfl⟩ := mem_getD ha
    rw [List.length_map, Array.length_toList] at hj
    rw [← numAt_eq]; exact h2 j (by omega)
def rMaxT (K : PySem.W.Frag) : List V → Hp → VK → Prop := fun vs H Q => ∃ (a : Addr) (ns : List Int), vs = [V.ref a] ∧ SqT K H a (ns.map V.int) ∧ 0 < ns.length ∧ ∀ m, m ∈ ns → (∀ y, y ∈ ns → y ≤ m) → Q (.int m) H
theorem cr_maxT {X : Cx} (hc : X.calm = true) : CallR X (.builtin "max") (rMaxT X.K) := by
  intro pins s σ H vs us Q I r h
  obtain ⟨a, ns, rfl, hs, hne, q⟩ := h
  obtain ⟨its, rv, hl, _⟩ := I.tuple hs
  rw [Vals.ref1 r]
  exact max_tupRaw (I.ok.hd hc) hl rv.ints hne fun h' tk m t' hk h1 h2 => ⟨.int _, H, I.kept hk, ⟨_, rfl⟩, q m h1 h2⟩
end maxt
theorem units1 {n : Nat} (h : n + 64 < cLine) : n + 1 < cLine := Nat.lt_of_le_of_lt (by omega) h
/-! ## terms, in plain Lean -/
section terms
def isIntD : PyData → Bool
  | .int _ => true
  | _ => false
theorem isIntD_eq (d : PyData) : isIntD d = (isA "int" d && !isA "bool" d) := by
  rw [isA_int, isA_bool]
  cases d <;> rfl
def withinD (d : PyData) (lo hi : Int) : Bool := match d with
  | .int i => decide (lo ≤ i) && decide (i ≤ hi)
  | _ => false
def slopeD (d : PyData) : Bool := match d with
  | .tuple [a, b, c] => withinD a (-9) 9 && withinD b (-3) 3 && withinD c 1 4
  | _ => false
def words : List Str := ["all", "and", "not", "or", "r"]
def letters : Str := "abcdefghijklmnopqrstuvwxyz"
def varS (x : Str) : Bool := decide ((1 : Int) ≤ x.length) && decide ((x.length : Int) ≤ 3) && !inV (.str x) (words.map V.str) && x.cps.toList.all fun c => decide (c ∈ letters.cps.toList)
def varD (d : PyData) : Bool := match d with
  | .str x => varS x
  | _ => false
def floorD (rec : PyData → Bool) (d : PyData) : Bool := match d with
  | .tuple [.str w, s, t] => decide (w = "floor") && slopeD s && rec t
  | _ => false
def itemD (rec : PyData → Bool) (d : PyData) : Bool := match d with
  | .tuple [.int f, x] => decide (-9 ≤ f) && decide (f ≤ 9) && decide (f ≠ 0) && (varD x || floorD rec x)
  | _ => false
def termF (rec : PyData → Bool) (d : PyData) : Bool := match d with
  | .tuple [.tuple its, c] => decide (its.length ≤ 4) && withinD c (-1000) 1000 && its.all (itemD rec)
  | _ => false
def termD : Nat → PyData → Bool
  | 0 => termF fun _ => false
  | n + 1 => termF (termD n)
end terms
def spInteger : Sp := fun vs H Q _ => ∃ (n : Nat) (v : V) (d : PyData), vs = [v] ∧ Dn n H v d ∧ Q (.bl (isIntD d)) H
def spWithin : Sp := fun vs H Q _ => ∃ (n : Nat) (v : V) (d : PyData) (lo hi : Int), vs = [v, .int lo, .int hi] ∧ Dn n H v d ∧ Q (.bl (withinD d lo hi)) H
/-- a test of a datum of depth at most 60 that changes nothing -/
def spTest (f : PyData → Bool) : Sp := fun vs H Q _ => ∃ (n : Nat) (v : V) (d : PyData), n ≤ 60 ∧ vs = [v] ∧ Dn n H v d ∧ ∀ H', Same H H' → Q (.bl (f d)) H'
def spTestN (k : Nat) (f : PyData → Bool) : Sp := fun vs H Q _ => ∃ (n : Nat) (v : V) (d : PyData), n ≤ 60 ∧ vs = [v, .int (k : Int)] ∧ Dn n H v d ∧ ∀ H', Same H H' → Q (.bl (f d)) H'
theorem all_lst {K : PySem.W.Frag} {H : Hp} {Q : VK} {p : Addr} {xs : List V} {bs : List Bool} (h : H p = some (.lst xs)) (e : xs = bs.map V.bl) (q : Q (.bl (bs.all id)) H) : rAll K [.ref p] H Q := ⟨p, bs, rfl, sqL_of (e ▸ h), q⟩
theorem range_map {α β : Type} (l : List α) (f : α → β) (d : α) : (List.range l.length).filterMap (fun i => some (f (l.getD i d))) = l.map f := by
  induction l with
  | nil => rfl
  | cons a l ih =>
    rw [List.length_cons, List.range_succ_eq_map, List.filterMap_cons, List.filterMap_map]
    show f a :: _ = _
    rw [List.map_cons, ← ih]
    rfl
theorem slope_no {d : PyData} (h : isA "tuple" d = false) : slopeD d = false := by
  rw [isA_tuple] at h
  cases d <;> first | rfl | cases h
theorem slope_len {ds : List PyData} (h : ds.length ≠ 3) : slopeD (.tuple ds) = false := by
  match ds, h with
  | [], _ => rfl
  | [_], _ => rfl
  | [_, _], _ => rfl
  | [_, _, _], h => exact absurd rfl h
  | _ :: _ :: _ :: _ :: _, _ => rfl
theorem within_no {d : PyData} {lo hi : Int} (h : isIntD d = false) : withinD d lo hi = false := by
  cases d <;> first | rfl | cases h
theorem of_isInt {d : PyData} (h : isIntD d = true) : ∃ i, d = .int i := by
  cases d with
  | int i => exact ⟨i, rfl⟩
  | _ => cases h
theorem isTup_of {d : PyData} (h : isA "tuple" d = true) : ∃ ds, d = .tuple ds := by
  rw [isA_tuple] at h
  cases d with
  | tuple ds => exact ⟨ds, rfl⟩
  | _ => cases h
theorem isStr_of {d : PyData} (h : isA "str" d = true) : ∃ x, d = .str x := by
  rw [isA_str] at h
  cases d with
  | str x => exact ⟨x, rfl⟩
  | _ => cases h
theorem rd_inT {K : PySem.W.Frag} {H : Hp} {Q : VK} {p : Addr} {x : V} {xs : List V} (h : SqT K H p xs) (hx : flatV x = true) (ha : xs.all flatV = true) (q : Q (.bl (inV x xs)) H) : rIn K false x (.ref p) H Q := ⟨p, xs, rfl, .inr h, hx, ha, q⟩
theorem rd_inS {H : Hp} {Q : VK} {c : Nat} {z : Str} (q : Q (.bl (decide (c ∈ z.cps.toList))) H) : rInS (.str ⟨#[c]⟩) (.str z) H Q := ⟨c, z, rfl, rfl, q⟩
theorem var_no {d : PyData} (h : isA "str" d = false) : varD d = false := by
  rw [isA_str] at h
  cases d <;> first | rfl | cases h
theorem signs_map (x : Str) (f : Nat → Bool) : (List.range x.cps.size).filterMap (fun i => some (V.bl (f (x.cps.toList.getD i 0)))) = (x.cps.toList.map f).map V.bl := by
  have h := range_map x.cps.toList (fun c => V.bl (f c)) 0
  rw [Array.length_toList] at h
  rw [h, List.map_map]
  rfl
theorem at_toList {x : Str} {i c : Nat} (h : x.cps[i]? = some c) : x.cps.toList.getD i 0 = c := by
  rw [List.getD_eq_getElem?_getD, Array.getElem?_toList, h] <;> rfl
theorem item_no {rec : PyData → Bool} {d : PyData} (h : isA "tuple" d = false) : itemD rec d = false := by
  rw [isA_tuple] at h
  cases d <;> first | rfl | cases h
theorem item_len {rec : PyData → Bool} {ds : List PyData} (h : ds.length ≠ 2) : itemD rec (.tuple ds) = false := by
  match ds, h with
  | [], _ => rfl
  | [a], _ => cases a <;> rfl
  | [_, _], h => exact absurd rfl h
  | a :: _ :: _ :: _, _ => cases a <;> rfl
theorem item_two {rec : PyData → Bool} (f x : PyData) : itemD rec (.tuple [f, x]) = (withinD f (-9) 9 && (match f with | .int i => decide (i ≠ 0) | _ => false) && (varD x || floorD rec x)) := by
  cases f <;> rfl
theorem floor_no {rec : PyData → Bool} {d : PyData} (h : isA "tuple" d = false) : floorD rec d = false := by
  rw [isA_tuple] at h
  cases d <;> first | rfl | cases h
theorem floor_len {rec : PyData → Bool} {ds : List PyData} (h : ds.length ≠ 3) : floorD rec (.tuple ds) = false := by
  match ds, h with
  | [], _ => rfl
  | [a], _ => cases a <;> rfl
  | [a, _], _ => cases a <;> rfl
  | [_, _, _], h => exact absurd rfl h
  | a :: _ :: _ :: _ :: _, _ => cases a <;> rfl
theorem floor_three {rec : PyData → Bool} (a s t : PyData) : floorD rec (.tuple [a, s, t]) = (PyData.eqv a (.str "floor") && slopeD s && rec t) := by
  rw [eqv_str]
  cases a with
  | str w =>
    show (decide (w = "floor") && slopeD s && rec t) = ((w == "floor") && slopeD s && rec t)
    rw [show (w == ("floor" : Str)) = decide (w = "floor") from by by_cases h : w = "floor" <;> simp [h]]
  | _ => rfl
theorem term_no {rec : PyData → Bool} {d : PyData} (h : isA "tuple" d = false) : termF rec d = false := by
  rw [isA_tuple] at h
  cases d <;> first | rfl | cases h
theorem term_len {rec : PyData → Bool} {ds : List PyData} (h : ds.length ≠ 2) : termF rec (.tuple ds) = false := by
  match ds, h with
  | [], _ => rfl
  | [a], _ => cases a <;> rfl
  | [_, _], h => exact absurd rfl h
  | a :: _ :: _ :: _, _ => cases a <;> rfl
theorem term_two {rec : PyData → Bool} {a c : PyData} (h : isA "tuple" a = false) : termF rec (.tuple [a, c]) = false := by
  rw [isA_tuple] at h
  cases a <;> first | rfl | cases h
def recOf : Nat → PyData → Bool
  | 0 => fun _ => false
  | n + 1 => termD n
theorem termD_eq (n : Nat) : termD n = termF (recOf n) := by cases n <;> rfl
theorem term_items {rec : PyData → Bool} (its : List PyData) (c : PyData) : termF rec (.tuple [.tuple its, c]) = (decide (its.length ≤ 4) && withinD c (-1000) 1000 && its.all (itemD rec)) := rfl
theorem data_map (ds : List PyData) (f : PyData → Bool) : (List.range ds.length).filterMap (fun i => some (V.bl (f (ds.getD i .none)))) = (ds.map f).map V.bl := by
  rw [range_map ds (fun c => V.bl (f c)) .none, List.map_map]
  rfl
theorem all_false {α : Type} {l : List α} {f : α → Bool} {i : Nat} {x : α} (h : l[i]? = some x) (e : f x = false) : l.all f = false := by
  rw [List.all_eq_false]
  exact ⟨x, List.mem_of_getElem? h, by rw [e]; exact Bool.false_ne_true⟩
theorem all_true {α : Type} {l : List α} {f : α → Bool} (h : ∀ i x, i < l.length → l[i]? = some x → f x = true) : l.all f = true := by
  rw [List.all_eq_true]
  intro x hx
  obtain ⟨i, hi, e⟩ := List.mem_iff_getElem.mp hx
  exact h i x hi (by rw [List.getElem?_eq_getElem hi, e])
/-! ## square roots and surds, in plain Lean -/
section sqrt
/-- r is the greatest integer whose square is at most n -/
def IsSqrt (n r : Int) : Prop := 0 ≤ r ∧ r * r ≤ n ∧ n < (r + 1) * (r + 1)
theorem sq_lt {a b : Int} (ha : 0 ≤ a) (h : a < b) : a * a < b * b := Int.lt_of_le_of_lt (Int.mul_le_mul_of_nonneg_left (Int.le_of_lt h) ha) (Int.mul_lt_mul_of_pos_right h (Int.lt_of_le_of_lt ha h))
theorem lt_of_sq {a b : Int} (hb : 0 ≤ b) (h : a * a < b * b) : a < b := by
  rcases Int.lt_or_le a b with l | l
  · exact l
  · exact absurd (Int.mul_le_mul l l hb (Int.le_trans hb l)) (by omega)
theorem le_of_sq {a b : Int} (hb : 0 ≤ b) (h : a * a ≤ b * b) : a ≤ b := by
  rcases Int.lt_or_le b a with l | l
  · exact absurd (sq_lt hb l) (by omega)
  · exact l
theorem IsSqrt.uniq {n r s : Int} (h : IsSqrt n r) (g : IsSqrt n s) : r = s := by
  obtain ⟨h0, h1, h2⟩ := h
  obtain ⟨g0, g1, g2⟩ := g
  have a : r < s + 1 := lt_of_sq (by omega) (Int.lt_of_le_of_lt h1 g2)
  have b : s < r + 1 := lt_of_sq (by omega) (Int.lt_of_le_of_lt g1 h2)
  omega
/-- one step of the search from above stays above -/
theorem newton_up {n f : Int} (hn : 0 ≤ n) (hf : 0 < f) : n < ((f + n / f) / 2 + 1) * ((f + n / f) / 2 + 1) := by
  have hq : 0 ≤ n / f := Int.ediv_nonneg hn (by omega)
  have e := Int.mul_ediv_add_emod n f
  have r1 := Int.emod_lt_of_pos n hf
  generalize n / f = q at hq e
  have h1 : f + q + 1 ≤ 2 * ((f + q) / 2 + 1) := by omega
  generalize (f + q) / 2 + 1 = g at h1
  have h2 : (f + q + 1) * (f + q + 1) ≤ (2 * g) * (2 * g) := Int.mul_le_mul h1 h1 (by omega) (by omega)
  have h3 : 4 * (f * (q + 1)) ≤ (f + q + 1) * (f + q + 1) := by
    have z : 0 ≤ (f - (q + 1)) * (f - (q + 1)) := by
      rcases Int.le_total 0 (f - (q + 1)) with l | l
      · exact Int.mul_nonneg l l
      · exact Int.mul_nonneg_of_nonpos_of_nonpos l l
    have e1 : (f + q + 1) * (f + q + 1) - 4 * (f * (q + 1)) = (f - (q + 1)) * (f - (q + 1)) := by
      simp only [Int.add_mul, Int.mul_add, Int.sub_mul, Int.mul_sub, Int.mul_one, Int.one_mul, Int.mul_comm q f]
      omega
    omega
  have h4 : n < f * (q + 1) := by
    rw [Int.mul_add, Int.mul_one]
    omega
  have h5 : (2 * g) * (2 * g) = 4 * (g * g) := by
    rw [Int.mul_assoc, Int.mul_left_comm g 2 g]
    omega
  omega
theorem newton_end {n f : Int} (hf : 0 < f) (h : ¬ (f + n / f) / 2 < f) : f * f ≤ n := by
  have h1 : f ≤ n / f := by omega
  have h2 := Int.mul_le_mul_of_nonneg_left h1 (show 0 ≤ f by omega)
  have e := Int.mul_ediv_add_emod n f
  have r0 := Int.emod_nonneg n (show f ≠ 0 by omega)
  omega
theorem newton_pos {n f : Int} (hn : 2 ≤ n) (hf : 0 < f) : 0 < (f + n / f) / 2 := by
  have hq : 0 ≤ n / f := Int.ediv_nonneg (by omega) (by omega)
  by_cases h1 : f = 1
  · subst h1
    rw [Int.ediv_one]
    omega
  · omega
theorem sqrt_of_end {n f : Int} (hf : 0 < f) (hu : n < (f + 1) * (f + 1)) (h : ¬ (f + n / f) / 2 < f) : IsSqrt n f := ⟨by omega, newton_end hf h, hu⟩
theorem sqrt_small {n : Int} (h0 : 0 ≤ n) (h : n < 2) : IsSqrt n n := by
  have : n = 0 ∨ n = 1 := by omega
  rcases this with rfl | rfl <;> exact ⟨by decide, by decide, by decide⟩
theorem IsSqrt.le {n r x : Int} (h : IsSqrt n r) (hx : 0 ≤ x) : x ≤ r ↔ x * x ≤ n := by
  obtain ⟨h0, h1, h2⟩ := h
  refine ⟨fun l => Int.le_trans (Int.mul_le_mul l l hx h0) h1, fun l => ?_⟩
  have : x < r + 1 := lt_of_sq (by omega) (Int.lt_of_le_of_lt l h2)
  omega
end sqrt
section surds
def roots : List Int := [2, 3, 5, 6, 13]
/-- no square is d times another one -/
theorem no_square_nat (d : Nat) (hd : d = 2 ∨ d = 3 ∨ d = 5 ∨ d = 6 ∨ d = 13) : ∀ n i j : Nat, i ≤ n → i * i = d * (j * j) → i = 0 := by
  intro n
  induction n with
  | zero => intro i j h _; omega
  | succ n ih =>
    intro i j hi e
    -- a prime p of d divides i, then j
    have key : ∀ p q : Nat, d = p * q → 1 < p → (∀ x : Nat, (x * x) % p = 0 → x % p = 0) → (∀ x : Nat, (q * (x * x)) % p = 0 → x % p = 0) → i = 0 := by
      intro p q hpq hp h1 h2
      have a : (i * i) % p = 0 := by
        rw [e, hpq, Nat.mul_assoc]
        exact Nat.mul_mod_right p _
      have b := h1 i a
      obtain ⟨i', rfl⟩ : ∃ i', i = p * i' := ⟨i / p, (Nat.mul_div_cancel' (Nat.dvd_of_mod_eq_zero b)).symm⟩
      have e2 : p * (i' * i') = q * (j * j) := by
        have e3 : p * (p * (i' * i')) = p * (q * (j * j)) := by
          rw [hpq] at e
          have l : p * i' * (p * i') = p * (p * (i' * i')) := by
            rw [Nat.mul_assoc, Nat.mul_left_comm i' p i']
          rw [l, Nat.mul_assoc] at e
          exact e
        exact Nat.eq_of_mul_eq_mul_left (by omega) e3
      have c : j % p = 0 := h2 j (by rw [← e2]; exact Nat.mul_mod_right p _)
      obtain ⟨j', rfl⟩ : ∃ j', j = p * j' := ⟨j / p, (Nat.mul_div_cancel' (Nat.dvd_of_mod_eq_zero c)).symm⟩
      have e4 : i' * i' = d * (j' * j') := by
        have e5 : p * (i' * i') = p * (d * (j' * j')) := by
          rw [e2, hpq]
          have l : p * j' * (p * j') = p * (p * (j' * j')) := by
            rw [Nat.mul_assoc, Nat.mul_left_comm j' p j']
          rw [l]
          rw [Nat.mul_left_comm q p, Nat.mul_left_comm q p, Nat.mul_assoc p q]
        exact Nat.eq_of_mul_eq_mul_left (by omega) e5
      by_cases z : i' = 0
      · rw [z]; rfl
      · have : i' ≤ n := by
          have : 2 * i' ≤ p * i' := Nat.mul_le_mul_right i' hp
          omega
        have := ih i' j' this e4
        omega
    have sq : ∀ (p x : Nat), (x * x) % p = ((x % p) * (x % p)) % p := fun p x => Nat.mul_mod x x p
    have sq2 : ∀ (p q x : Nat), (q * (x * x)) % p = (q % p * (((x % p) * (x % p)) % p)) % p := fun p q x => by rw [Nat.mul_mod, sq]
    have small : ∀ (p q : Nat), 0 < p → (∀ r, r < p → (q % p * ((r * r) % p)) % p = 0 → r = 0) → ∀ x : Nat, (q * (x * x)) % p = 0 → x % p = 0 := fun p q hp h x hx => h (x % p) (Nat.mod_lt x hp) (by rw [← sq2]; exact hx)
    have one : ∀ p : Nat, (∀ x : Nat, (1 * (x * x)) % p = 0 → x % p = 0) → ∀ x : Nat, (x * x) % p = 0 → x % p = 0 := fun p h x hx => h x (by rw [Nat.one_mul]; exact hx)
    rcases hd with rfl | rfl | rfl | rfl | rfl
    · exact key 2 1 rfl (by decide) (one 2 (small 2 1 (by decide) (by decide))) (small 2 1 (by decide) (by decide))
    · exact key 3 1 rfl (by decide) (one 3 (small 3 1 (by decide) (by decide))) (small 3 1 (by decide) (by decide))
    · exact key 5 1 rfl (by decide) (one 5 (small 5 1 (by decide) (by decide))) (small 5 1 (by decide) (by decide))
    · exact key 3 2 rfl (by decide) (one 3 (small 3 1 (by decide) (by decide))) (small 3 2 (by decide) (by decide))
    · exact key 13 1 rfl (by decide) (one 13 (small 13 1 (by decide) (by decide))) (small 13 1 (by decide) (by decide))
theorem no_square {d i j : Int} (hd : d ∈ roots) (h : i * i = j * j * d) : i = 0 ∧ j = 0 := by
  have hd2 : d.natAbs = 2 ∨ d.natAbs = 3 ∨ d.natAbs = 5 ∨ d.natAbs = 6 ∨ d.natAbs = 13 := by
    simp only [roots, List.mem_cons, List.not_mem_nil, or_false] at hd
    rcases hd with rfl | rfl | rfl | rfl | rfl <;> decide
  have e : i.natAbs * i.natAbs = d.natAbs * (j.natAbs * j.natAbs) := by
    have := congrArg Int.natAbs h
    rw [Int.natAbs_mul, Int.natAbs_mul, Int.natAbs_mul, Nat.mul_comm (j.natAbs * j.natAbs)] at this
    exact this
  have z := no_square_nat d.natAbs hd2 i.natAbs i.natAbs j.natAbs (Nat.le_refl _) e
  rw [z] at e
  have hj : j.natAbs * j.natAbs = 0 := by
    rcases Nat.mul_eq_zero.mp e.symm with q | q
    · omega
    · exact q
  have : j.natAbs = 0 := by
    rcases Nat.mul_eq_zero.mp hj with q | q <;> exact q
  exact ⟨by omega, by omega⟩
theorem root_pos {d : Int} (hd : d ∈ roots) : 2 ≤ d ∧ d ≤ 13 := by
  simp only [roots, List.mem_cons, List.not_mem_nil, or_false] at hd
  rcases hd with rfl | rfl | rfl | rfl | rfl <;> decide
/-- the sign of i + j r, by squares -/
def sgn (d i j : Int) : Int := if 0 ≤ i ∧ 0 ≤ j then (if 0 < i ∨ 0 < j then 1 else 0) else if i ≤ 0 ∧ j ≤ 0 then -1 else if 0 < i then (if j * j * d < i * i then 1 else -1) else (if i * i < j * j * d then 1 else -1)
/-- m is the floor of f r -/
def IsMul (d f m : Int) : Prop := (0 ≤ f → IsSqrt (f * f * d) m) ∧ (f < 0 → IsSqrt (f * f * d) (-m - 1))
theorem sgn_eq {d i j m : Int} (hd : d ∈ roots) (h : IsMul d j m) : sgn d i j = if i = 0 ∧ j = 0 then 0 else if 0 ≤ i + m ∧ (j ≠ 0 ∨ 0 < i) then 1 else -1 := by
  have hp := root_pos hd
  have nn : 0 ≤ j * j * d := Int.mul_nonneg (by
    rcases Int.le_total 0 j with l | l
    · exact Int.mul_nonneg l l
    · exact Int.mul_nonneg_of_nonpos_of_nonpos l l) (by omega)
  have ns : ∀ x : Int, x ≠ 0 ∨ j ≠ 0 → x * x ≠ j * j * d := fun x hx e => by
    have := no_square hd e
    omega
  obtain ⟨h1, h2⟩ := h
  unfold sgn
  by_cases a : 0 ≤ i ∧ 0 ≤ j
  · rw [if_pos a]
    have q := h1 a.2
    by_cases b : 0 < i ∨ 0 < j
    · rw [if_pos b, if_neg (by omega), if_pos ⟨by have := q.1; omega, by omega⟩]
    · rw [if_neg b, if_pos (by omega)]
  · rw [if_neg a]
    by_cases b : i ≤ 0 ∧ j ≤ 0
    · rw [if_pos b, if_neg (by omega), if_neg]
      rintro ⟨c, e⟩
      by_cases j0 : j = 0
      · omega
      · have := (h2 (by omega)).1
        omega
    · rw [if_neg b, if_neg (show ¬(i = 0 ∧ j = 0) by omega)]
      by_cases c : 0 < i
      · rw [if_pos c]
        have q := h2 (by omega)
        by_cases e : j * j * d < i * i
        · rw [if_pos e, if_pos]
          refine ⟨?_, by omega⟩
          have : ¬ i ≤ -m - 1 := fun l => by
            have := (q.le (by omega)).mp l
            omega
          omega
        · rw [if_neg e, if_neg]
          rintro ⟨g, _⟩
          have : i * i ≤ j * j * d := by omega
          have := (q.le (by omega)).mpr this
          omega
      · rw [if_neg c]
        have q := h1 (by omega)
        have e0 : (-i) * (-i) = i * i := Int.neg_mul_neg i i
        by_cases e : i * i < j * j * d
        · rw [if_pos e, if_pos]
          refine ⟨?_, by omega⟩
          have := (q.le (x := -i) (by omega)).mpr (by omega)
          omega
        · rw [if_neg e, if_neg]
          rintro ⟨g, _⟩
          have := (q.le (x := -i) (by omega)).mp (by omega)
          have := ns i (by omega)
          omega
theorem sgn_scale {d i j g : Int} (hg : 0 < g) : sgn d (g * i) (g * j) = sgn d i j := by
  have p : ∀ x : Int, 0 ≤ g * x ↔ 0 ≤ x := fun x => ⟨fun h => by
    rcases Int.lt_or_le x 0 with l | l
    · have := Int.mul_neg_of_pos_of_neg hg l
      omega
    · exact l, fun h => Int.mul_nonneg (by omega) h⟩
  have p2 : ∀ x : Int, 0 < g * x ↔ 0 < x := fun x => ⟨fun h => by
    rcases Int.lt_or_le 0 x with l | l
    · exact l
    · have := Int.mul_nonpos_of_nonneg_of_nonpos (show 0 ≤ g by omega) l
      omega, fun h => Int.mul_pos hg h⟩
  have p3 : ∀ x : Int, g * x ≤ 0 ↔ x ≤ 0 := fun x => by
    have := p2 x
    omega
  have e1 : ∀ x : Int, g * x * (g * x) = g * g * (x * x) := fun x => by
    rw [Int.mul_assoc, Int.mul_left_comm x g x, ← Int.mul_assoc]
  have gg : 0 < g * g := Int.mul_pos hg hg
  have q : ∀ x y : Int, g * g * x < g * g * y ↔ x < y := fun x y => ⟨fun h => Int.lt_of_mul_lt_mul_left h (by omega), fun h => Int.mul_lt_mul_of_pos_left h gg⟩
  unfold sgn
  simp only [p, p2, p3, e1, Int.mul_assoc (g * g), q]
theorem sgn_neg {d i j : Int} (hd : d ∈ roots) : sgn d (-i) (-j) = - sgn d i j := by
  have ns : ∀ x : Int, x ≠ 0 ∨ j ≠ 0 → x * x ≠ j * j * d := fun x hx e => by
    have := no_square hd e
    omega
  unfold sgn
  rw [Int.neg_mul_neg, Int.neg_mul_neg]
  have n1 := ns i
  by_cases a : 0 ≤ i ∧ 0 ≤ j
  · rw [if_pos a]
    by_cases b : 0 < i ∨ 0 < j
    · rw [if_pos b, if_neg (by omega), if_pos (by omega)]
    · rw [if_neg b, if_pos (by omega), if_neg (by omega)]
      rfl
  · rw [if_neg a]
    by_cases b : i ≤ 0 ∧ j ≤ 0
    · rw [if_pos b, if_pos (by omega), if_pos (by omega)]
      rfl
    · rw [if_neg b, if_neg (by omega), if_neg (by omega)]
      by_cases c : 0 < i
      · rw [if_pos c, if_neg (by omega)]
        by_cases e : j * j * d < i * i
        · rw [if_pos e, if_neg (by omega)]
        · rw [if_neg e, if_pos (by have := n1 (by omega); omega)]
          rfl
      · rw [if_neg c, if_pos (by omega)]
        by_cases e : i * i < j * j * d
        · rw [if_pos e, if_neg (by omega)]
        · rw [if_neg e, if_pos (by have := n1 (by omega); omega)]
          rfl
end surds
section promises
theorem sqrt_le {n r : Int} (h : IsSqrt n r) : 0 ≤ r ∧ r ≤ n := by
  obtain ⟨h0, h1, _⟩ := h
  refine ⟨h0, ?_⟩
  by_cases z : r = 0
  · have : r * r = 0 := by rw [z]; rfl
    omega
  · have := Int.mul_le_mul_of_nonneg_left (show 1 ≤ r by omega) h0
    rw [Int.mul_one] at this
    omega
theorem sq_nn (f : Int) : 0 ≤ f * f := by
  rcases Int.le_total 0 f with l | l
  · exact Int.mul_nonneg l l
  · exact Int.mul_nonneg_of_nonpos_of_nonpos l l
theorem sqrt_ex {n : Int} (h : 0 ≤ n) : ∃ r, IsSqrt n r := by
  have key : ∀ k : Nat, ∃ r, IsSqrt (k : Int) r := by
    intro k
    induction k with
    | zero => exact ⟨0, by decide, by decide, by decide⟩
    | succ k ih =>
      obtain ⟨r, h0, h1, h2⟩ := ih
      by_cases z : ((k + 1 : Nat) : Int) < (r + 1) * (r + 1)
      · exact ⟨r, h0, by omega, z⟩
      · refine ⟨r + 1, by omega, by omega, ?_⟩
        have := sq_lt (show 0 ≤ r + 1 by omega) (show r + 1 < r + 1 + 1 by omega)
        omega
  obtain ⟨r, hr⟩ := key n.toNat
  rw [Int.toNat_of_nonneg h] at hr
  exact ⟨r, hr⟩
theorem isMul_ex {d f : Int} (hd : d ∈ roots) : ∃ m, IsMul d f m := by
  obtain ⟨r, hr⟩ := sqrt_ex (Int.mul_nonneg (sq_nn f) (show 0 ≤ d by have := root_pos hd; omega))
  by_cases h : 0 ≤ f
  · exact ⟨r, fun _ => hr, fun z => absurd z (by omega)⟩
  · exact ⟨-r - 1, fun z => absurd z h, fun _ => by rw [show -(-r - 1) - 1 = r by omega]; exact hr⟩
theorem IsMul.uniq {d f m m' : Int} (h : IsMul d f m) (g : IsMul d f m') : m = m' := by
  by_cases z : 0 ≤ f
  · exact (h.1 z).uniq (g.1 z)
  · have := (h.2 (by omega)).uniq (g.2 (by omega))
    omega
open Classical in
/-- the floor of f times the root of d -/
noncomputable def mf (d f : Int) : Int := if h : ∃ m, IsMul d f m then Classical.choose h else 0
theorem mf_ok {d f : Int} (hd : d ∈ roots) : IsMul d f (mf d f) := by
  unfold mf
  rw [dif_pos (isMul_ex hd)]
  exact Classical.choose_spec _
/-- the floor of a slope times n -/
noncomputable def flr (d i j k n : Int) : Int := (i * n + mf d (j * n)) / k
theorem flr_eq {d i j k n m : Int} (hd : d ∈ roots) (h : IsMul d (j * n) m) : (i * n + m) / k = flr d i j k n := by
  unfold flr
  rw [h.uniq (mf_ok hd)]
def spIsRoot : Sp := fun vs H Q _ => ∃ d : Int, vs = [.int d] ∧ d ∈ roots ∧ Q (.bl true) H
def spSqrt : Sp := fun vs H Q _ => ∃ n : Int, vs = [.int n] ∧ 0 ≤ n ∧ W 8000 n ∧ ∀ r, IsSqrt n r → Q (.int r) H
def spMulF : Sp := fun vs H Q _ => ∃ d f : Int, vs = [.int d, .int f] ∧ d ∈ roots ∧ W 3000 f ∧ ∀ m, IsMul d f m → Q (.int m) H
def spFloorS : Sp := fun vs H Q _ => ∃ d i j k : Int, vs = [.int d, .int i, .int j, .int k] ∧ d ∈ roots ∧ W 3000 j ∧ 0 < k ∧ W 3000 k ∧ ∀ m, IsMul d j m → Q (.int ((i + m) / k)) H
def spSignS : Sp := fun vs H Q _ => ∃ d i j : Int, vs = [.int d, .int i, .int j] ∧ d ∈ roots ∧ W 3000 j ∧ Q (.int (sgn d i j)) H
def spGcd : Sp := fun vs H Q _ => ∃ i j : Int, vs = [.int i, .int j] ∧ Q (.int (Int.gcd i j : Nat)) H
theorem root_W {d : Int} (h : d ∈ roots) : W 4 d := by
  have := root_pos h
  unfold W
  omega
/-- the first guess -/
theorem sqrt_first {n : Int} (h : 2 ≤ n) (hw : W 8000 n) : ∃ e : Nat, (((Builtin.Int.intBits n : Nat) : Int) + 1) / 2 = (e : Int) ∧ e ≤ 4001 ∧ n < (2 ^ e + 1) * (2 ^ e + 1) := by
  have hb : Builtin.Int.intBits n = n.natAbs.log2 + 1 := by
    unfold Builtin.Int.intBits
    rw [if_neg]
    intro z
    have := beq_iff_eq.mp z
    omega
  rw [hb]
  have hl : n.natAbs.log2 < 8000 := PySem.Flt.log2_lt_of (by decide) hw
  generalize hL : n.natAbs.log2 = L at hl
  refine ⟨(L + 2) / 2, by omega, by omega, ?_⟩
  have h1 : n.natAbs < 2 ^ (L + 1) := by
    rw [← hL]
    exact Nat.lt_log2_self
  generalize he : (L + 2) / 2 = e
  have h2 : 2 ^ (L + 1) ≤ 2 ^ e * 2 ^ e := by
    rw [← Nat.pow_add]
    exact Nat.pow_le_pow_right (by decide) (by omega)
  have h3 : n < ((2 ^ e * 2 ^ e : Nat) : Int) := by omega
  have h4 : ((2 ^ e * 2 ^ e : Nat) : Int) = 2 ^ e * 2 ^ e := by
    rw [Int.natCast_mul, Int.natCast_pow] <;> rfl
  rw [h4] at h3
  have h5 : (0 : Int) < 2 ^ e := Int.pow_pos (by decide)
  generalize (2 : Int) ^ e = p at h3 h5
  have : p * p < (p + 1) * (p + 1) := sq_lt (by omega) (by omega)
  omega
end promises
/-! ## instances of Surd -/
section surd
theorem kp_of {K : PySem.W.Frag} {x qual : Str} {params : Arguments} {body : List Stmt} {scope : Scope} {dvs : List V} {kws : List (Str × V)} {f : Addr} (F : ∃ fd, FunD K x qual params body scope dvs kws f fd) : PySem.W.keepIn K (.ref f) = true := by
  obtain ⟨fd, F⟩ := F
  exact F.kp
/-- a def with defaults, by its body -/
theorem Fn.mk {P : Program} {w : World} {K : PySem.W.Frag} {mg : Str → Option Value} {base : Heap} {x qual : Str} {st : Stmt} {f : Addr} {dvs : List V} {kws : List (Str × V)} {N ps : List Str} {k : Nat} {sp : Sp} {fd : FuncData} (F : FunD K x qual (defArgs st) (defBody st) (defScope st) dvs kws f fd) (S : FnScope N ps (defScope st))
    (len : ∀ vs H Q E, sp vs H Q E → vs.length = ps.length)
    (hbody : ∀ (cdv : Value) (A : Around) (outer : List Env) (s : Shared) (H : Hp) (vs : List V) (Q : VK) (E : XK), Room k (A.deeper (envOfC qual (defScope st) s.heap.objs.size f cdv)) → sp vs H Q E →
      ∃ t, PSs (cxOf CX0 P w K mg base N qual (defScope st) f cdv A outer s H E).nox (defBody st) t ∧ t { nx := fun _ H' => Q .non H', rt := Q } (start N vs) H) : FnOk P w K mg base CX0 (k + 1) f fd ps sp :=
  F.ok S len fun cdv A outer s H vs Q E hr h => by
    obtain ⟨t, a, b⟩ := hbody cdv A outer s H vs Q E hr h
    exact ⟨t, a.nox, b⟩
/-- the divisor that a surd's maker takes out -/
def nG (i j k : Int) : Int := if k < 0 then -((Int.gcd (Int.gcd i j : Nat) k : Nat) : Int) else ((Int.gcd (Int.gcd i j : Nat) k : Nat) : Int)
theorem nG_dvd (i j k : Int) : nG i j k ∣ i ∧ nG i j k ∣ j ∧ nG i j k ∣ k := by
  have h1 : ((Int.gcd (Int.gcd i j : Nat) k : Nat) : Int) ∣ i := Int.dvd_trans (Int.gcd_dvd_left ..) (Int.gcd_dvd_left ..)
  have h2 : ((Int.gcd (Int.gcd i j : Nat) k : Nat) : Int) ∣ j := Int.dvd_trans (Int.gcd_dvd_left ..) (Int.gcd_dvd_right ..)
  have h3 : ((Int.gcd (Int.gcd i j : Nat) k : Nat) : Int) ∣ k := Int.gcd_dvd_right ..
  unfold nG
  split
  · exact ⟨Int.neg_dvd.mpr h1, Int.neg_dvd.mpr h2, Int.neg_dvd.mpr h3⟩
  · exact ⟨h1, h2, h3⟩
theorem nG_pos {i j k : Int} (h : 0 < k) : 0 < nG i j k := by
  unfold nG
  rw [if_neg (by omega)]
  have : Int.gcd (Int.gcd i j : Nat) k ≠ 0 := fun z => by
    have := (Int.gcd_eq_zero_iff.mp z).2
    omega
  omega
theorem nG_sign {i j k : Int} (h : k < 0) : nG i j k < 0 := by
  unfold nG
  rw [if_pos h]
  have : Int.gcd (Int.gcd i j : Nat) k ≠ 0 := fun z => by
    have := (Int.gcd_eq_zero_iff.mp z).2
    omega
  omega
theorem nG_ne {i j k : Int} (h : k ≠ 0) : nG i j k ≠ 0 := by
  rcases Int.lt_or_gt_of_ne h with l | l
  · have := nG_sign (i := i) (j := j) l
    omega
  · have := nG_pos (i := i) (j := j) l
    omega
theorem nG_neg {i j k : Int} (h : 0 < k) : nG (-i) (-j) (-k) = -nG i j k := by
  unfold nG
  rw [if_pos (by omega), if_neg (by omega)]
  rw [Int.neg_gcd, Int.gcd_neg, Int.gcd_neg]
theorem nG_i (i j k : Int) : nG i j k * (i.fdiv (nG i j k)) = i := Int.mul_fdiv_cancel' (nG_dvd i j k).1
theorem nG_j (i j k : Int) : nG i j k * (j.fdiv (nG i j k)) = j := Int.mul_fdiv_cancel' (nG_dvd i j k).2.1
theorem nG_k (i j k : Int) : nG i j k * (k.fdiv (nG i j k)) = k := Int.mul_fdiv_cancel' (nG_dvd i j k).2.2
theorem nG_kp {i j k : Int} (h : k ≠ 0) : 0 < k.fdiv (nG i j k) := by
  have e := nG_k i j k
  have z := nG_ne (i := i) (j := j) h
  rcases Int.lt_or_gt_of_ne h with l | l
  · have g := nG_sign (i := i) (j := j) l
    refine Int.lt_of_not_ge fun c => ?_
    have := Int.mul_nonneg_of_nonpos_of_nonpos (Int.le_of_lt g) c
    omega
  · have g := nG_pos (i := i) (j := j) l
    refine Int.lt_of_not_ge fun c => ?_
    have := Int.mul_nonpos_of_nonneg_of_nonpos (Int.le_of_lt g) c
    omega
theorem nG_W {i j k : Int} {n : Nat} (h : k ≠ 0) (hw : W n k) : W n (nG i j k) := by
  refine hw.le ?_
  have := Int.natAbs_dvd_natAbs.mpr (nG_dvd i j k).2.2
  exact Nat.le_of_dvd (by omega) this
/-- the surd at a: (i + j r) / k, its parts of at most n bits -/
def SurdAt (K : PySem.W.Frag) (n : Nat) (H : Hp) (a : Addr) (d i j k : Int) : Prop := ∃ dx p, H a = some (.ins (He.ga K "Surd") dx [("own_root", .int d), ("own_parts", .ref p)]) ∧ H p = some (.tup [.int i, .int j, .int k]) ∧ d ∈ roots ∧ 0 < k ∧ W n i ∧ W n j ∧ W n k
theorem SurdAt.ext {K : PySem.W.Frag} {n : Nat} {H H' : Hp} {a : Addr} {d i j k : Int} (e : Ext H H') (h : SurdAt K n H a d i j k) : SurdAt K n H' a d i j k := by
  obtain ⟨dx, p, h1, h2, h3⟩ := h
  exact ⟨dx, p, e _ _ h1 rfl, e _ _ h2 rfl, h3⟩
theorem SurdAt.same {K : PySem.W.Frag} {n : Nat} {H H' : Hp} {a : Addr} {d i j k : Int} (e : Same H H') (h : SurdAt K n H a d i j k) : SurdAt K n H' a d i j k := h.ext (.of e)
theorem SurdAt.up {K : PySem.W.Frag} {n m : Nat} {H : Hp} {a : Addr} {d i j k : Int} (h : SurdAt K n H a d i j k) (l : n ≤ m) : SurdAt K m H a d i j k := by
  obtain ⟨dx, p, h1, h2, h3, h4, h5, h6, h7⟩ := h
  exact ⟨dx, p, h1, h2, h3, h4, h5.mono l, h6.mono l, h7.mono l⟩
/-- what is at another place than x stays -/
def Keep (x : Addr) (H H' : Hp) : Prop := ∀ b o, b ≠ x → H b = some o → H' b = some o
theorem Keep.chg {x : Addr} {H H' : Hp} (c : Chg x H H') : Keep x H H' := fun b o n h => by rw [c b n]; exact h
theorem Keep.same {x : Addr} {H H' : Hp} (c : Same H H') : Keep x H H' := fun b o _ h => c b o h
theorem Keep.trans {x : Addr} {H H1 H2 : Hp} (a : Keep x H H1) (b : Keep x H1 H2) : Keep x H H2 := fun c o n h => b c o n (a c o n h)
def spInit (K : PySem.W.Frag) : Sp := fun vs H Q _ => ∃ (x dx : Addr) (d i j k : Int) (n : Nat), vs = [.ref x, .int d, .int i, .int j, .int k] ∧ H x = some (.ins (He.ga K "Surd") dx []) ∧ d ∈ roots ∧ k ≠ 0 ∧ n ≤ 3000 ∧ 0 < n ∧ W n i ∧ W n j ∧ W n k ∧
  ∀ H', Keep x H H' → SurdAt K n H' x d (i.fdiv (nG i j k)) (j.fdiv (nG i j k)) (k.fdiv (nG i j k)) → Q .non H'
/-- what a maker gives -/
def MkS (K : PySem.W.Frag) (d i j k : Int) (H : Hp) (Q : VK) : Prop := ∃ n, d ∈ roots ∧ k ≠ 0 ∧ n ≤ 3000 ∧ 0 < n ∧ W n i ∧ W n j ∧ W n k ∧ ∀ x H', Same H H' → SurdAt K n H' x d (i.fdiv (nG i j k)) (j.fdiv (nG i j k)) (k.fdiv (nG i j k)) → Q (.ref x) H'
theorem mks_new {H : Hp} {x dx C : Addr} (hx : H x = none) (hd : H dx = none) {H' : Hp} (k : Keep x (upd (upd H dx (.own x)) x (.ins C dx [])) H') : Same H H' := fun b o h => k b o (ne_of_none h hx) (by rw [upd_ne (ne_of_none h hx), upd_ne (ne_of_none h hd)]; exact h)
theorem rd_mkS {K : PySem.W.Frag} {d i j k : Int} {H : Hp} {Q : VK} {gV : List V → List V → List V} (hg : ∀ x, gV [.ref x, .int d, .int i, .int j] [.int k] = [.ref x, .int d, .int i, .int j, .int k]) (h : MkS K d i j k H Q) : MkB (He.ga K "Surd") 3 1 (spInit K) gV [.int d, .int i, .int j] [.int k] H Q := by
  obtain ⟨n, h1, h2, h3, h4, h5, h6, h7, q⟩ := h
  refine ⟨rfl, rfl, fun x dx hx hd ne => ?_⟩
  rw [hg x]
  exact ⟨x, dx, d, i, j, k, n, rfl, upd_same, h1, h2, h3, h4, h5, h6, h7, fun H' kp sa => ⟨rfl, q x H' (mks_new hx hd kp) sa⟩⟩
theorem rd_mkS0 {K : PySem.W.Frag} {d i j : Int} {H : Hp} {Q : VK} (h : MkS K d i j 1 H Q) : MkB0 (He.ga K "Surd") (spInit K) [.int 1] [.int d, .int i, .int j] H Q := by
  obtain ⟨n, h1, h2, h3, h4, h5, h6, h7, q⟩ := h
  refine fun x dx hx hd ne => ?_
  exact ⟨x, dx, d, i, j, 1, n, rfl, upd_same, h1, h2, h3, h4, h5, h6, h7, fun H' kp sa => ⟨rfl, q x H' (mks_new hx hd kp) sa⟩⟩
def spPartsS (K : PySem.W.Frag) : Sp := fun vs H Q _ => ∃ (a : Addr) (d i j k : Int) (n : Nat), vs = [.ref a] ∧ SurdAt K n H a d i j k ∧ ∀ p, H p = some (.tup [.int i, .int j, .int k]) → Q (.ref p) H
def spRootS (K : PySem.W.Frag) : Sp := fun vs H Q _ => ∃ (a : Addr) (d i j k : Int) (n : Nat), vs = [.ref a] ∧ SurdAt K n H a d i j k ∧ Q (.int d) H
def spSignM (K : PySem.W.Frag) : Sp := fun vs H Q _ => ∃ (a : Addr) (d i j k : Int), vs = [.ref a] ∧ SurdAt K 3000 H a d i j k ∧ Q (.int (sgn d i j)) H
def spFloorM (K : PySem.W.Frag) : Sp := fun vs H Q _ => ∃ (a : Addr) (d i j k : Int), vs = [.ref a] ∧ SurdAt K 3000 H a d i j k ∧ ∀ m, IsMul d j m → Q (.int ((i + m) / k)) H
def spBin (K : PySem.W.Frag) (f : Int → Int → Int → Int → Int → Int → Int → Int × Int × Int) : Sp := fun vs H Q _ => ∃ (x y : Addr) (d a b k c e m : Int), vs = [.ref x, .ref y] ∧ SurdAt K 1400 H x d a b k ∧ SurdAt K 1400 H y d c e m ∧ MkS K d (f d a b k c e m).1 (f d a b k c e m).2.1 (f d a b k c e m).2.2 H Q
def fSub (_ a b k c e m : Int) : Int × Int × Int := (a * m - c * k, b * m - e * k, k * m)
def fAdd (_ a b k c e m : Int) : Int × Int × Int := (a * m + c * k, b * m + e * k, k * m)
def fMul (d a b k c e m : Int) : Int × Int × Int := (a * c + d * b * e, a * e + b * c, k * m)
def spCmp (K : PySem.W.Frag) : Sp := fun vs H Q _ => ∃ (x y : Addr) (d a b k c e m : Int) (n : Nat), vs = [.ref x, .ref y] ∧ n ≤ 1400 ∧ SurdAt K n H x d a b k ∧ SurdAt K n H y d c e m ∧ ∀ H', Same H H' → Q (.int (sgn d (a * m - c * k) (b * m - e * k))) H'
def spEqS (K : PySem.W.Frag) : Sp := fun vs H Q _ => ∃ (x y : Addr) (d a b k d' c e m : Int) (n : Nat), vs = [.ref x, .ref y] ∧ SurdAt K n H x d a b k ∧ SurdAt K n H y d' c e m ∧ Q (.bl (decide (d = d' ∧ a = c ∧ b = e ∧ k = m))) H
def spBoolS (K : PySem.W.Frag) : Sp := fun vs H Q _ => ∃ (a : Addr) (d i j k : Int) (n : Nat), vs = [.ref a] ∧ SurdAt K n H a d i j k ∧ Q (.bl (decide (i ≠ 0 ∨ j ≠ 0))) H
end surd
theorem rd_isiO {K : PySem.W.Frag} {C : Addr} {H : Hp} {Q : VK} {b dy : Addr} {gs : List (Str × V)} (c : Cls K C) (i : IsiC K C) (h2 : H b = some (.ins C dy gs)) (q : Q (.bl true) H) : rIsi K [.ref b, .ref C] H Q := ⟨_, _, .ref C, .ref C, true, rfl, .own C, .base (.ins h2 c i.ca i.cn i.ct i.cm), i.me, q⟩
theorem eqv_ints3 (a b k c e m : Int) : PyData.eqv (.tuple [.int a, .int b, .int k]) (.tuple [.int c, .int e, .int m]) = decide (a = c ∧ b = e ∧ k = m) := by
  show ((a == c) && ((b == e) && ((k == m) && true))) = _
  by_cases h1 : a = c <;> by_cases h2 : b = e <;> by_cases h3 : k = m <;> simp [h1, h2, h3]
def spNeed : Sp := fun vs H Q _ => ∃ (n : Nat) (v : V) (d : PyData), n ≤ 60 ∧ vs = [v] ∧ Dn n H v d ∧ slopeD d = true ∧ ∀ H', Same H H' → Q .non H'
def spOfSlope (K : PySem.W.Frag) : Sp := fun vs H Q _ => ∃ (p : Addr) (d i j k : Int), vs = [.int d, .ref p] ∧ H p = some (.tup [.int i, .int j, .int k]) ∧ d ∈ roots ∧ slopeD (.tuple [.int i, .int j, .int k]) = true ∧
  ∀ x H', Same H H' → SurdAt K 30 H' x d (i.fdiv (nG i j k)) (j.fdiv (nG i j k)) (k.fdiv (nG i j k)) → Q (.ref x) H'
theorem slope3 {i j k : Int} (h : slopeD (.tuple [.int i, .int j, .int k]) = true) : (-9 ≤ i ∧ i ≤ 9) ∧ (-3 ≤ j ∧ j ≤ 3) ∧ 1 ≤ k ∧ k ≤ 4 := by
  have h : (decide (-9 ≤ i) && decide (i ≤ 9) && (decide (-3 ≤ j) && decide (j ≤ 3)) && (decide (1 ≤ k) && decide (k ≤ 4))) = true := h
  simp only [Bool.and_eq_true, decide_eq_true_eq] at h
  exact ⟨h.1.1, h.1.2, h.2⟩
def spFar : Sp := fun vs H Q _ => ∃ (a c : Addr) (ns : List Int) (n : Int), vs = [.ref a, .int n] ∧ Bag a c ns H ∧ 0 < n ∧ n ≤ 40 ∧ ∀ f H', 0 ≤ f → f < 10 ^ 40 → Ext H H' → Bag a c ns H' → Q (.int f) H'
def spLFloor : Sp := fun vs H Q _ => ∃ (p : Addr) (d i j k z : Int), vs = [.int d, .ref p, .int z] ∧ H p = some (.tup [.int i, .int j, .int k]) ∧ d ∈ roots ∧ W 1000 i ∧ W 1000 j ∧ W 1000 z ∧ 0 < k ∧ W 1000 k ∧ ∀ m, IsMul d (j * z) m → Q (.int ((i * z + m) / k)) H
def spLRoot : Sp := fun vs H Q _ => ∃ (a c : Addr) (ns : List Int), vs = [.ref a] ∧ Bag a c ns H ∧ ∀ d H', d ∈ roots → Ext H H' → Bag a c ns H' → Q (.int d) H'
def spLSign : Sp := fun vs H Q _ => ∃ (d i j : Int), vs = [.int d, .int i, .int j] ∧ d ∈ roots ∧ W 3000 i ∧ W 3000 j ∧ Q (.int (sgn d i j)) H
theorem pow10_le {i : Nat} (h : i ≤ 40) : (10 : Int) ^ i ≤ 10 ^ 40 := by
  exact_mod_cast Nat.pow_le_pow_right (n := 10) (by decide) h
section laws
theorem W.mulF {n : Nat} {d f m : Int} (hd : d ∈ roots) (h : W n f) (hm : IsMul d f m) : W (n + n + 5) m := by
  have hw := (h.mul h).mul (root_W hd)
  by_cases z : 0 ≤ f
  · have := sqrt_le (hm.1 z)
    exact (hw.le (by omega)).mono (by omega)
  · have := sqrt_le (hm.2 (by omega))
    have hw2 : W (n + n + 4) (-m - 1) := hw.le (by omega)
    have e : W (n + n + 4) 1 := by
      unfold W
      exact Nat.one_lt_two_pow (by omega)
    exact (hw2.add e).le (by omega)
theorem W.ediv {n : Nat} {i k : Int} (h : W n i) (hk : 0 < k) : W n (i / k) := by
  have := h.fdiv k
  rw [Int.fdiv_eq_ediv_of_nonneg i (by omega)] at this
  exact this
theorem floor_ok {d i j k m : Int} (hd : d ∈ roots) (hk : 0 < k) (hm : IsMul d j m) : 0 ≤ sgn d (i - (i + m) / k * k) j ∧ sgn d (i - ((i + m) / k + 1) * k) j < 0 := by
  have e := Int.mul_ediv_add_emod (i + m) k
  have r0 := Int.emod_nonneg (i + m) (show k ≠ 0 by omega)
  have r1 := Int.emod_lt_of_pos (i + m) hk
  have j0 : j = 0 → m = 0 := fun z => by
    subst z
    have := hm.1 (by decide)
    have := this.uniq (s := 0) ⟨by decide, by rw [Int.zero_mul, Int.zero_mul]; decide, by rw [Int.zero_mul, Int.zero_mul]; decide⟩
    exact this
  generalize (i + m) / k = q at e
  rw [Int.mul_comm] at e
  rw [sgn_eq hd hm, sgn_eq hd hm]
  have e2 : (q + 1) * k = q * k + k := by rw [Int.add_mul, Int.one_mul]
  constructor
  · by_cases z : i - q * k = 0 ∧ j = 0
    · rw [if_pos z]
      exact Int.le_refl _
    · rw [if_neg z, if_pos]
      · decide
      · refine ⟨by omega, ?_⟩
        by_cases jz : j = 0
        · have := j0 jz
          refine .inr ?_
          omega
        · exact .inl jz
  · rw [if_neg, if_neg]
    · decide
    · rintro ⟨a, _⟩
      omega
    · rintro ⟨a, b⟩
      have := j0 b
      omega
variable {d i j k : Int}
theorem sign_law (hk : 0 < k) : sgn d (i.fdiv (nG i j k)) (j.fdiv (nG i j k)) = sgn d i j := by
  have e := sgn_scale (d := d) (i := i.fdiv (nG i j k)) (j := j.fdiv (nG i j k)) (nG_pos (i := i) (j := j) hk)
  rw [nG_i, nG_j] at e
  exact e.symm
theorem floor_law {m : Int} (hd : d ∈ roots) (hk : 0 < k) (hm : IsMul d (j.fdiv (nG i j k)) m) :
    0 ≤ sgn d (i - (i.fdiv (nG i j k) + m) / k.fdiv (nG i j k) * k) j ∧ sgn d (i - ((i.fdiv (nG i j k) + m) / k.fdiv (nG i j k) + 1) * k) j < 0 := by
  have hp := nG_pos (i := i) (j := j) hk
  have h := floor_ok (i := i.fdiv (nG i j k)) hd (nG_kp (i := i) (j := j) (show k ≠ 0 by omega)) hm
  generalize (i.fdiv (nG i j k) + m) / k.fdiv (nG i j k) = q at h
  rw [← sgn_scale (i := _ - q * _) hp, ← sgn_scale (i := _ - (q + 1) * _) hp, Int.mul_sub, Int.mul_sub, Int.mul_left_comm _ q, Int.mul_left_comm _ (q + 1), nG_i, nG_j, nG_k] at h
  exact h
theorem neg_part (hk : 0 < k) (x : Int) : (-x).fdiv (nG (-i) (-j) (-k)) = x.fdiv (nG i j k) := by
  rw [nG_neg hk]
  exact Int.neg_fdiv_neg ..
theorem cmp_law {c e m : Int} (hk : 0 < k) (hm : 0 < m) : sgn d (i.fdiv (nG i j k) * m.fdiv (nG c e m) - c.fdiv (nG c e m) * k.fdiv (nG i j k)) (j.fdiv (nG i j k) * m.fdiv (nG c e m) - e.fdiv (nG c e m) * k.fdiv (nG i j k)) = sgn d (i * m - c * k) (j * m - e * k) := by
  have h := sgn_scale (d := d) (i := i.fdiv (nG i j k) * m.fdiv (nG c e m) - c.fdiv (nG c e m) * k.fdiv (nG i j k)) (j := j.fdiv (nG i j k) * m.fdiv (nG c e m) - e.fdiv (nG c e m) * k.fdiv (nG i j k)) (Int.mul_pos (nG_pos (i := i) (j := j) hk) (nG_pos (i := c) (j := e) hm))
  rw [← h]
  have q : ∀ g h a b : Int, g * h * (a * b) = (g * a) * (h * b) := fun g h a b => by
    rw [Int.mul_assoc, Int.mul_assoc, Int.mul_left_comm h a b]
  have q2 : ∀ g h a b : Int, g * h * (a * b) = (h * a) * (g * b) := fun g h a b => by
    rw [Int.mul_comm g h]
    exact q h g a b
  rw [Int.mul_sub, Int.mul_sub, q _ _ (i.fdiv _), q2 _ _ (c.fdiv _), q _ _ (j.fdiv _), q2 _ _ (e.fdiv _), nG_i, nG_j, nG_k, nG_i, nG_j, nG_k]
theorem sgn_00 (d : Int) : sgn d 0 0 = 0 := by
  unfold sgn
  rw [if_pos (by decide), if_neg (by decide)]
end laws
theorem SurdAt.me {K : PySem.W.Frag} {n : Nat} {H : Hp} {x : Addr} {d i j k : Int} {m : Str} {sp : Sp} {dvs : List V} {E : XK} {t : TA} {σ : L2.St} {Q : VK} (S : SurdAt K n H x d i j k) (q : t σ H fun vs H2 => sp (.ref x :: (vs ++ dvs)) H2 Q E) (hl : ∀ u v : V, List.lookup m [(("own_root" : Str), u), (("own_parts" : Str), v)] = none := by intros; rfl) : MeB (He.ga K "Surd") m sp dvs E t σ (.ref x) H Q := by
  obtain ⟨dx, p, h1, _⟩ := S
  exact rd_meB h1 (hl _ _) q
theorem SurdAt.bin {K : PySem.W.Frag} {n n' : Nat} {H : Hp} {x y : Addr} {d i j k c e m d' : Int} {sp : Sp} {Q : VK} (S : SurdAt K n H x d i j k) (S' : SurdAt K n' H y d' c e m) (q : sp [.ref x, .ref y] H Q E0) : rBin (He.ga K "Surd") sp (.ref x) (.ref y) H Q := by
  obtain ⟨dx, p, h1, _⟩ := S
  obtain ⟨dy, p', g1, _⟩ := S'
  exact rd_bin h1 g1 q
theorem SurdAt.bo {K : PySem.W.Frag} {n : Nat} {H : Hp} {x : Addr} {d i j k : Int} {sp : Sp} {Q : VK} (S : SurdAt K n H x d i j k) (q : sp [.ref x] H (fun v H' => ∃ b, v = .bl b ∧ Q v H') E0) : rBoolO (He.ga K "Surd") sp [.ref x] H Q := by
  obtain ⟨dx, p, h1, _⟩ := S
  exact rd_boolO h1 q
theorem SurdAt.eqO {K : PySem.W.Frag} {n n' : Nat} {H : Hp} {x y : Addr} {d i j k c e m d' : Int} {sp : Sp} {Q : VK} (cl : Cls K (He.ga K "Surd")) (ki : IsiC K (He.ga K "Surd")) (S : SurdAt K n H x d i j k) (S' : SurdAt K n' H y d' c e m) (q : sp [.ref x, .ref y] H Q E0) : rEqO K (He.ga K "Surd") sp (.ref x) (.ref y) H Q := by
  obtain ⟨dx, p, h1, _⟩ := S
  obtain ⟨dy, p', g1, _⟩ := S'
  exact rd_eqO cl ki h1 g1 q
theorem SurdAt.sz {K : PySem.W.Frag} {n : Nat} {H : Hp} {x : Addr} {d i j k : Int} (S : SurdAt K n H x d i j k) : d ∈ roots ∧ 0 < k ∧ W n i ∧ W n j ∧ W n k := by
  obtain ⟨dx, p, _, _, h⟩ := S
  exact h
/-! ## fields, dict displays, walks of lists or tuples -/
section seqs
theorem rd_start {t : TS} {D : Ends} {σ σ' : L2.St} {H : Hp} (e : σ = σ') (h : t D σ' H) : t D σ H := by
  subst e
  exact h
def WkQ (K : PySem.W.Frag) (x : V) (H : Hp) (R : It → Hp → Prop) : Prop := ∃ a, x = .ref a ∧ (((∃ xs, SqL K H a xs) ∧ R (Itl K a) H) ∨ ((∃ xs, SqT K H a xs) ∧ R (Itt K a) H))
def iSeq (K : PySem.W.Frag) (tl : TE) : TI := fun σ H R => tl σ H fun x H1 => WkQ K x H1 R
theorem pi_seq {X : Cx} {tg l : Expr} {tl : TE} (hl : PE X l tl) : PI X tg l (iSeq X.K tl) := ⟨fun pins s σ H R I h => thn (hl.run pins s σ H _ I h) fun v s1 ⟨x, H1, I1, r1, a, e, q1⟩ => by
  have fp : ∀ b ∈ [s1.heap.objs.size], _ := fun b hb => by
    cases List.mem_singleton.mp hb
    exact I1.fpOk (Nat.le_refl _) (I1.hok.fresh (Nat.le_refl _))
  subst e
  cases r1
  rcases q1 with ⟨⟨xs, hq⟩, q⟩ | ⟨⟨xs, hq⟩, q⟩
  · obtain ⟨its, _, p, _⟩ := I1.list hq
    exact wpAny_pyIter_list p.isList ⟨_, [_], _, _, H1, rfl, I1.kept (t' := s1.toks) fun _ _ e => Heap.get?_push_of_some _ e, turn_list a _, ⟨_, Heap.get?_push_size _ rfl, rfl, rfl⟩, fp, q⟩
  · obtain ⟨its, _, p, _⟩ := I1.tuple hq
    exact wpAny_pyIter_tuple (show s1.heap.IsTuple a its.toArray from p) ⟨_, [_], _, _, H1, rfl, I1.kept (t' := s1.toks) fun _ _ e => Heap.get?_push_of_some _ e, turn_tuple a _, ⟨_, Heap.get?_push_size _ rfl, rfl, rfl⟩, fp, q⟩⟩
section
variable {K : PySem.W.Frag} {σ : L2.St} {H : Hp} {Q : VK} {tl td ty tk tv : TE}
theorem rd_iSeq {R : It → Hp → Prop} (h : tl σ H fun x H1 => WkQ K x H1 R) : iSeq K tl σ H R := h
/-- {} -/
theorem rd_dnew (q : ∀ p H2, H p = none → Same H H2 → H2 p = some (.dK []) → Q (.ref p) H2) : tDNewK σ H Q := fun p hp => q p _ hp (Same.new hp) upd_same
def DispB (p : Addr) (ps : List (V × V)) (H : Hp) (Q : VK) : Prop := H p = some (.dK []) ∧ ∃ kvs : List (Key × V), ps = kvs.map (fun kv => (kV kv.1, kv.2)) ∧ kvs.length ≤ 15 ∧ Q (.ref p) (upd H p (.dK (mergeK [] kvs)))
theorem rd_disp {trs : List (TE × TE)} (h : ∀ p H1, H p = none → Same H H1 → H1 p = some (.dK []) → tPairs trs σ H1 fun ps H2 => DispB p ps H2 Q) : tDisp trs σ H Q := fun p hp => h p _ hp (Same.new hp) upd_same
theorem rd_prs0 {R : List (V × V) → Hp → Prop} (q : R [] H) : tPairs [] σ H R := q
theorem rd_prs {r : List (TE × TE)} {R : List (V × V) → Hp → Prop} (h : tk σ H fun x H1 => tv σ H1 fun y H2 => tPairs r σ H2 fun ps H3 => R ((x, y) :: ps) H3) : tPairs ((tk, tv) :: r) σ H R := h
theorem rd_dispB {p : Addr} {ps : List (V × V)} (h : H p = some (.dK [])) (kvs : List (Key × V)) (hp : ps = kvs.map (fun kv => (kV kv.1, kv.2))) (hl : kvs.length ≤ 15) (q : ∀ H2, Chg p H H2 → H2 p = some (.dK (mergeK [] kvs)) → Q (.ref p) H2) : DispB p ps H Q := ⟨h, kvs, hp, hl, q _ Chg.of upd_same⟩
def DgB (x y : V) (H : Hp) (Q : VK) : Prop := ∃ a v, x = .ref a ∧ DGet H a y (some v) ∧ Q v H
theorem rd_dget (h : td σ H fun x H1 => ty σ H1 fun y H2 => DgB x y H2 Q) : tDGet td ty σ H Q := h
theorem rd_dgB {a : Addr} {kvs : List (Key × V)} {i : Int} {v : V} (h : H a = some (.dK kvs)) (hv : valV kvs (.inl i) = some v) (q : Q v H) : DgB (.ref a) (.int i) H Q := ⟨a, v, rfl, .inl ⟨kvs, .inl i, .inl h, rfl, hv.symm⟩, q⟩
end
theorem Same.chg {p : Addr} {H H1 H2 : Hp} (s : Same H H1) (n : H p = none) (c : Chg p H1 H2) : Same H H2 := fun b o h => by
  rw [c b (ne_of_none h n)]
  exact s b o h
/-- what is no dict stays when a dict is changed -/
theorem Chg.keepD {p b : Addr} {H H' : Hp} {o : HO} {kvs : List (Key × V)} (c : Chg p H H') (hp : H p = some (.dK kvs)) (h : H b = some o) (n : o ≠ .dK kvs) : H' b = some o := by
  rw [c b (ne_of h hp n)]
  exact h
end seqs
section comps2
theorem range_get (xs : List V) : (List.range xs.length).filterMap (fun i => xs[i]?) = xs := by
  induction xs with
  | nil => rfl
  | cons x xs ih =>
    rw [List.length_cons, List.range_succ_eq_map, List.filterMap_cons]
    show x :: _ = _
    rw [List.filterMap_map]
    congr 1
/-- a comprehension over the items of a list or tuple -/
theorem lc_map {J : It} {xs : List V} {G : Hp → Prop} (wk : Walk J xs.length G (YAt xs)) {g : TG} {tt : TT} {te : TE} {vs : List Nat} {σ : L2.St} {H : Hp} {Q : VK} (hG : ∀ H', Same H H' → G H') (f : V → Option V) (hn : xs.length ≤ 100000)
    (hs : ∀ x H2 (Q' : VK) (N' : Hp → Prop), x ∈ xs → Same H H2 → (∀ v H4, f x = some v → Same H2 H4 → Q' v H4) → (∀ H4, f x = none → Same H2 H4 → N' H4) →
      g x (wipe σ vs) H2 fun σ2 H4 => wipe σ2 vs = wipe σ vs ∧ tt σ2 H4 fun b H5 => if b = true then te σ2 H5 Q' else N' H5)
    (hd : ∀ D H', H D = none → Same H H' → H' D = some (.lst (xs.filterMap f)) → Q (.ref D) H') : LcB J g tt te vs σ H Q := by
  refine lc_pure wk hG (fun i => xs[i]?.bind f) hn (fun i x H2 H3 Q' N' hi s2 y q1 q2 => ?_) (fun D H' nD s1 h1 => hd D H' nD s1 ?_)
  · obtain ⟨rfl, hx⟩ := y
    refine hs x H3 Q' N' (List.mem_of_getElem? hx) s2 (fun v H4 e => q1 v H4 (by rw [hx]; exact e)) (fun H4 e => q2 H4 (by rw [hx]; exact e))
  · rw [h1]
    congr 2
    have e := congrArg (List.filterMap f) (range_get xs)
    rw [List.filterMap_filterMap] at e
    exact e
/-- a comprehension whose turns draw from the bag -/
theorem lc_bag {J : It} {n : Nat} {G : Hp → Prop} {Y : Nat → Hp → V → Hp → Prop} (wk : Walk J n G Y) {g : TG} {tt : TT} {te : TE} {vs : List Nat} {σ : L2.St} {H : Hp} {Q : VK} {a c : Addr} {ns : List Int} (hB : Bag a c ns H) (hG : ∀ H', Ext H H' → G H') (R : V → Prop) (hR : ∀ xs, (∀ x ∈ xs, R x) → isBag (.lst xs) = false) (hn : n ≤ 1000)
    (hs : ∀ i x H2 H3 (Q' : VK) (N' : Hp → Prop), i < n → Ext H H2 → Bag a c ns H2 → Y i H2 x H3 → (∀ v H4, R v → Ext H2 H4 → Bag a c ns H4 → Q' v H4) →
      g x (wipe σ vs) H3 fun σ2 H4 => wipe σ2 vs = wipe σ vs ∧ tt σ2 H4 fun b H5 => if b = true then te σ2 H5 Q' else N' H5)
    (hd : ∀ D H' xs, H D = none → Ext H H' → Bag a c ns H' → H' D = some (.lst xs) → xs.length = n → (∀ x ∈ xs, R x) → Q (.ref D) H') : LcB J g tt te vs σ H Q := by
  intro D hD
  obtain ⟨ha, hc⟩ := hB.free hD
  refine lc_it wk (Pv := fun i H2 => Ext H H2 ∧ Bag a c ns H2 ∧ ∃ xs, H2 D = some (.lst xs) ∧ xs.length = i ∧ ∀ x ∈ xs, R x) ⟨Ext.chg (.refl _) Chg.of hD, hB.chg Chg.of ha hc, [], upd_same, rfl, fun x h => by cases h⟩ (fun i H2 _ p => hG _ p.1) (fun i x H2 H3 hi p y => ?_) (fun H2 ⟨p1, p2, xs, p3, p4, p5⟩ => hd D H2 xs hD p1 p2 p3 p4 p5)
  obtain ⟨p1, p2, xs, p3, p4, p5⟩ := p
  refine hs i x H2 H3 _ _ hi p1 p2 y (fun v H4 hv e4 B4 => ⟨xs, e4 _ _ p3 (hR _ p5), ?_, (p1.trans e4).chg Chg.of hD, B4.chg Chg.of ha hc, xs ++ [v], upd_same, ?_, ?_⟩)
  · exact sz_smaller (by omega)
  · rw [List.length_append, p4] <;> rfl
  · intro x hx
    rcases List.mem_append.mp hx with hx | hx
    · exact p5 x hx
    · rw [List.mem_singleton.mp hx]
      exact hv
theorem bag_allint {xs : List V} (h : ∀ x ∈ xs, ∃ i, x = V.int i) : isBag (.lst xs) = false := by
  unfold isBag
  split
  · rename_i e
    cases e
    obtain ⟨a, e⟩ := h _ (List.mem_cons_self ..)
    cases e
  · rfl
theorem ints_of {xs : List V} {R : Int → Prop} (h : ∀ x ∈ xs, ∃ i, x = V.int i ∧ R i) : ∃ is : List Int, xs = is.map V.int ∧ ∀ i ∈ is, R i := by
  induction xs with
  | nil => exact ⟨[], rfl, fun i h => by cases h⟩
  | cons x xs ih =>
    obtain ⟨is, rfl, hs⟩ := ih fun y hy => h y (List.mem_cons_of_mem _ hy)
    obtain ⟨i, rfl, hi⟩ := h _ (List.mem_cons_self ..)
    refine ⟨i :: is, rfl, fun j hj => ?_⟩
    rcases List.mem_cons.mp hj with rfl | hj
    · exact hi
    · exact hs j hj
end comps2
section field
def per (d : Int) : List Int := if d = 2 then [2] else if d = 3 then [1, 2] else if d = 5 then [1] else if d = 6 then [2, 4] else [3]
def mxp (d : Int) : Int := if d = 2 then 2 else if d = 3 then 2 else if d = 5 then 1 else if d = 6 then 4 else 3
def tlT (d t : Int) : Int × Int × Int := if d = 2 then (1, 1, 1) else if d = 3 then (if t = 0 then (1, 1, 2) else (1, 1, 1)) else if d = 5 then (1, 1, 2) else if d = 6 then (if t = 0 then (2, 1, 2) else (2, 1, 1)) else (3, 1, 2)
theorem roots_cases {d : Int} (h : d ∈ roots) : d = 2 ∨ d = 3 ∨ d = 5 ∨ d = 6 ∨ d = 13 := by
  simpa [roots] using h
theorem per_len {d : Int} (h : d ∈ roots) : 0 < (per d).length ∧ (per d).length ≤ 2 := by
  rcases roots_cases h with rfl | rfl | rfl | rfl | rfl <;> decide
theorem per_max {d : Int} (h : d ∈ roots) : mxp d ∈ per d ∧ ∀ y ∈ per d, y ≤ mxp d := by
  rcases roots_cases h with rfl | rfl | rfl | rfl | rfl <;> decide
theorem mxp_le {d : Int} (h : d ∈ roots) : 1 ≤ mxp d ∧ mxp d ≤ 4 := by
  rcases roots_cases h with rfl | rfl | rfl | rfl | rfl <;> decide
theorem bs_facts {d : Int} (h : d ∈ roots) : ∃ i j k : Int, List.lookup d [((2 : Int), [-1, 1, 1]), (3, [-1, 1, 1]), (5, [-1, 1, 2]), (6, [-2, 1, 1]), (13, [-3, 1, 2])] = some [i, j, k] ∧ nG i j k = 1 ∧ 0 < k ∧ (i.natAbs ≤ 20 ∧ j.natAbs ≤ 20 ∧ k.natAbs ≤ 20) ∧
    i * i - d * j * j ≠ 0 ∧ ((i * k).natAbs ≤ 900 ∧ (-j * k).natAbs ≤ 900 ∧ (i * i - d * j * j).natAbs ≤ 900) ∧
    ((i * k).fdiv (nG (i * k) (-j * k) (i * i - d * j * j)), (-j * k).fdiv (nG (i * k) (-j * k) (i * i - d * j * j)), (i * i - d * j * j).fdiv (nG (i * k) (-j * k) (i * i - d * j * j))) = tlT d 0 := by
  rcases roots_cases h with rfl | rfl | rfl | rfl | rfl
  · exact ⟨-1, 1, 1, by decide +kernel⟩
  · exact ⟨-1, 1, 1, by decide +kernel⟩
  · exact ⟨-1, 1, 2, by decide +kernel⟩
  · exact ⟨-2, 1, 1, by decide +kernel⟩
  · exact ⟨-3, 1, 2, by decide +kernel⟩
theorem per_lookup {d : Int} (h : d ∈ roots) : List.lookup d [((2 : Int), [(2 : Int)]), (3, [1, 2]), (5, [1]), (6, [2, 4]), (13, [3])] = some (per d) := by
  rcases roots_cases h with rfl | rfl | rfl | rfl | rfl <;> decide
def nrm (i j k : Int) : Int × Int × Int := (i.fdiv (nG i j k), j.fdiv (nG i j k), k.fdiv (nG i j k))
theorem tl_facts {d t : Int} (h : d ∈ roots) : 0 < (tlT d t).2.2 ∧ (tlT d t).1.natAbs ≤ 20 ∧ (tlT d t).2.1.natAbs ≤ 20 ∧ (tlT d t).2.2.natAbs ≤ 20 := by
  by_cases z : t = 0
  · subst z
    rcases roots_cases h with rfl | rfl | rfl | rfl | rfl <;> decide
  · rcases roots_cases h with rfl | rfl | rfl | rfl | rfl <;> simp [tlT, z]
/-- the second tail of a field with two parts -/
theorem tl_step {d : Int} (h : d ∈ roots) (hl : 1 < (per d).length) : ∃ p i j k a b c : Int, atI ((per d).map V.int) 0 = some (V.int p) ∧ p.natAbs ≤ 20 ∧ tlT d 0 = (i, j, k) ∧ nrm p 0 1 = (p, 0, 1) ∧ nrm (i * 1 - p * k) (j * 1 - 0 * k) (k * 1) = (a, b, c) ∧
    (a.natAbs ≤ 20 ∧ b.natAbs ≤ 20 ∧ c.natAbs ≤ 20) ∧ a * a - d * b * b ≠ 0 ∧ ((a * c).natAbs ≤ 900 ∧ (-b * c).natAbs ≤ 900 ∧ (a * a - d * b * b).natAbs ≤ 900) ∧ nrm (a * c) (-b * c) (a * a - d * b * b) = tlT d 1 := by
  rcases roots_cases h with rfl | rfl | rfl | rfl | rfl
  · exact absurd hl (by decide)
  · exact ⟨1, 1, 1, 2, -1, 1, 2, rfl, by decide +kernel⟩
  · exact absurd hl (by decide)
  · exact ⟨2, 2, 1, 2, -2, 1, 2, rfl, by decide +kernel⟩
  · exact absurd hl (by decide)
/-- the field of root d at a -/
def FieldAt (K : PySem.W.Frag) (H : Hp) (a : Addr) (d : Int) : Prop := ∃ dx p q, H a = some (.ins (He.ga K "Field") dx [("own_root", .int d), ("own_period", .ref p), ("relations", .ref q)]) ∧ (∀ H, SqT K H p ((per d).map V.int)) ∧ d ∈ roots
theorem FieldAt.ext {K : PySem.W.Frag} {H H' : Hp} {a : Addr} {d : Int} (e : Ext H H') (h : FieldAt K H a d) : FieldAt K H' a d := by
  obtain ⟨dx, p, q, h1, h2⟩ := h
  exact ⟨dx, p, q, e _ _ h1 rfl, h2⟩
theorem FieldAt.same {K : PySem.W.Frag} {H H' : Hp} {a : Addr} {d : Int} (e : Same H H') (h : FieldAt K H a d) : FieldAt K H' a d := h.ext (.of e)
theorem FieldAt.rt {K : PySem.W.Frag} {H : Hp} {a : Addr} {d : Int} (h : FieldAt K H a d) : d ∈ roots := by
  obtain ⟨_, _, _, _, _, h⟩ := h
  exact h
def spFInit (K : PySem.W.Frag) : Sp := fun vs H Q _ => ∃ (x dx : Addr) (d : Int), vs = [.ref x, .int d] ∧ H x = some (.ins (He.ga K "Field") dx []) ∧ d ∈ roots ∧ ∀ H', Keep x H H' → FieldAt K H' x d → Q .non H'
def MkF (K : PySem.W.Frag) (d : Int) (H : Hp) (Q : VK) : Prop := d ∈ roots ∧ ∀ x H', Same H H' → FieldAt K H' x d → Q (.ref x) H'
theorem rd_mkF {K : PySem.W.Frag} {d : Int} {H : Hp} {Q : VK} (h : MkF K d H Q) : MkB0 (He.ga K "Field") (spFInit K) [] [.int d] H Q := by
  obtain ⟨h1, q⟩ := h
  refine fun x dx hx hd ne => ?_
  exact ⟨x, dx, d, rfl, upd_same, h1, fun H' kp sa => ⟨rfl, q x H' (mks_new hx hd kp) sa⟩⟩
theorem rd_mkS2 {K : PySem.W.Frag} {d i : Int} {H : Hp} {Q : VK} (h : MkS K d i 0 1 H Q) : MkB0 (He.ga K "Surd") (spInit K) [.int 0, .int 1] [.int d, .int i] H Q := by
  obtain ⟨n, h1, h2, h3, h4, h5, h6, h7, q⟩ := h
  refine fun x dx hx hd ne => ?_
  exact ⟨x, dx, d, i, 0, 1, n, rfl, upd_same, h1, h2, h3, h4, h5, h6, h7, fun H' kp sa => ⟨rfl, q x H' (mks_new hx hd kp) sa⟩⟩
section
variable {K : PySem.W.Frag} {H : Hp} {a : Addr} {d : Int} {m : Str} {sp : Sp} {dvs : List V} {E : XK} {t : TA} {σ : L2.St} {Q : VK}
theorem FieldAt.me (S : FieldAt K H a d) (q : t σ H fun vs H2 => sp (.ref a :: (vs ++ dvs)) H2 Q E) (hl : ∀ u v w : V, List.lookup m [(("own_root" : Str), u), (("own_period" : Str), v), (("relations" : Str), w)] = none := by intros; rfl) : MeB (He.ga K "Field") m sp dvs E t σ (.ref a) H Q := by
  obtain ⟨dx, p, q', h1, _⟩ := S
  exact rd_meB h1 (hl _ _ _) q
theorem FieldAt.meK {n : Nat} {gV : List V → List V → List V} (S : FieldAt K H a d) (q : t σ H fun zs H2 => zs.length = n ∧ sp (gV [.ref a] zs) H2 Q E0) (hl : ∀ u v w : V, List.lookup m [(("own_root" : Str), u), (("own_period" : Str), v), (("relations" : Str), w)] = none := by intros; rfl) : MeK (He.ga K "Field") m n sp gV t σ (.ref a) H Q := by
  obtain ⟨dx, p, q', h1, _⟩ := S
  exact rd_meK h1 (hl _ _ _) q
theorem FieldAt.pr (S : FieldAt K H a d) (q : sp (.ref a :: dvs) H Q E) : PrB (He.ga K "Field") sp dvs E (.ref a) H Q := by
  obtain ⟨dx, p, q', h1, _⟩ := S
  exact rd_prB h1 q
end
def spRootF (K : PySem.W.Frag) : Sp := fun vs H Q _ => ∃ (a : Addr) (d : Int), vs = [.ref a] ∧ FieldAt K H a d ∧ Q (.int d) H
def spPeriodF (K : PySem.W.Frag) : Sp := fun vs H Q _ => ∃ (a : Addr) (d : Int), vs = [.ref a] ∧ FieldAt K H a d ∧ ∀ p, (∀ H, SqT K H p ((per d).map V.int)) → Q (.ref p) H
def spTopF (K : PySem.W.Frag) : Sp := fun vs H Q _ => ∃ (a : Addr) (d : Int), vs = [.ref a] ∧ FieldAt K H a d ∧ Q (.int (mxp d)) H
def spBaseF (K : PySem.W.Frag) : Sp := fun vs H Q _ => ∃ (a : Addr) (d : Int), vs = [.ref a] ∧ FieldAt K H a d ∧ ∀ x i j k H', List.lookup d [((2 : Int), [-1, 1, 1]), (3, [-1, 1, 1]), (5, [-1, 1, 2]), (6, [-2, 1, 1]), (13, [-3, 1, 2])] = some [i, j, k] → Same H H' → SurdAt K 30 H' x d i j k → Q (.ref x) H'
def spTailF (K : PySem.W.Frag) : Sp := fun vs H Q _ => ∃ (a : Addr) (d t : Int), vs = [.ref a, .int t] ∧ FieldAt K H a d ∧ 0 ≤ t ∧ t < (per d).length ∧ ∀ x H', Same H H' → SurdAt K 30 H' x d (tlT d t).1 (tlT d t).2.1 (tlT d t).2.2 → Q (.ref x) H'
/-- u - v z is from -b to b, z = (i + j r) / k -/
def inB (d b u v : Int) (z : Int × Int × Int) : Bool := decide (0 ≤ sgn d (b * z.2.2 - u * z.2.2 + v * z.1) (v * z.2.1)) && decide (0 ≤ sgn d (b * z.2.2 + u * z.2.2 - v * z.1) (-v * z.2.1))
def tlAt (d pl : Int) : Int × Int × Int := tlT d (pl % (per d).length)
def sumAbs (fs : List Int) : Int := (fs.map fun f => ((f.natAbs : Nat) : Int)).sum
def bnd (d : Int) (fs : List Int) : Int := 3 * mxp d * sumAbs fs
def SqA (K : PySem.W.Frag) (H : Hp) (a : Addr) (xs : List V) : Prop := SqL K H a xs ∨ SqT K H a xs
theorem sq_t {K : PySem.W.Frag} {H H' : Hp} {a : Addr} {xs : List V} (e : Same H H') (h : SqT K H a xs) : SqT K H' a xs := SqT.same e h
theorem sq_l {K : PySem.W.Frag} {H H' : Hp} {a : Addr} {xs : List V} (e : Same H H') (h : SqL K H a xs) : SqL K H' a xs := by
  rcases h with (h | ⟨o, h⟩) | h
  · exact .inl (.inl (e _ _ h))
  · exact .inl (.inr ⟨o, e _ _ h⟩)
  · exact .inr h
theorem SqA.same {K : PySem.W.Frag} {H H' : Hp} {a : Addr} {xs : List V} (e : Same H H') (h : SqA K H a xs) : SqA K H' a xs := by
  rcases h with h | h
  · refine .inl ?_
    rcases h with (h | ⟨o, h⟩) | h
    · exact .inl (.inl (e _ _ h))
    · exact .inl (.inr ⟨o, e _ _ h⟩)
    · exact .inr h
  · exact .inr (SqT.same e h)
def spBound (K : PySem.W.Frag) : Sp := fun vs H Q _ => ∃ (a l : Addr) (d : Int) (fs : List Int), vs = [.ref a, .ref l] ∧ FieldAt K H a d ∧ SqA K H l (fs.map V.int) ∧ fs.length ≤ 1000 ∧ W 30 (sumAbs fs) ∧ ∀ H', Same H H' → Q (.int (bnd d fs)) H'
def spWithinF (K : PySem.W.Frag) : Sp := fun vs H Q _ => ∃ (a p : Addr) (d b u v pl : Int), vs = [.ref a, .int b, .ref p, .int pl] ∧ FieldAt K H a d ∧ H p = some (.tup [.int u, .int v]) ∧ 0 ≤ pl ∧ W 2500 b ∧ W 2500 u ∧ W 2500 v ∧ ∀ H', Same H H' → Q (.bl (inB d b u v (tlAt d pl))) H'
def spKept (K : PySem.W.Frag) : Sp := fun vs H Q _ => ∃ (a l p : Addr) (d : Int) (fs : List Int) (u v pl : Int), vs = [.ref a, .ref l, .ref p, .int pl] ∧ FieldAt K H a d ∧ SqA K H l (fs.map V.int) ∧ fs.length ≤ 1000 ∧ W 30 (sumAbs fs) ∧ H p = some (.tup [.int u, .int v]) ∧ 0 ≤ pl ∧ W 500 u ∧ W 500 v ∧
  ∀ H', Same H H' → Q (.bl (inB d (bnd d fs) u v (tlAt d pl))) H'
def absV : V → Option V := fun v => match v with | .int i => some (V.int ((i.natAbs : Nat) : Int)) | _ => none
theorem sum_abs (fs : List Int) : ((fs.map V.int).filterMap absV) = (fs.map fun f => ((f.natAbs : Nat) : Int)).map V.int := by
  induction fs with
  | nil => rfl
  | cons a l ih =>
    rw [List.map_cons, List.filterMap_cons, List.map_cons, List.map_cons, ← ih] <;> rfl
theorem bnd_W {d : Int} {fs : List Int} (hd : d ∈ roots) (h : W 30 (sumAbs fs)) : W 500 (bnd d fs) := by
  have mw : W 30 (mxp d) := W.small (by have := mxp_le hd; omega)
  exact (((show W 30 3 from W.small (by decide)).mul mw).mul h).mono (by decide)
end field
/-! ## the law's own field: promises -/
section lawfield
theorem c_lenK {X : Cx} {K : PySem.W.Frag} (h : X.K = K) : CallR X (.builtin "len") (rLenX K) := by
  subst h
  exact c_len
theorem ix_listK {X : Cx} {K : PySem.W.Frag} (h : X.K = K) : IxR X (rIxL K) := by
  subst h
  exact ix_list
theorem ix_tupK {X : Cx} {K : PySem.W.Frag} (h : X.K = K) : IxR X (rIxT K) := by
  subst h
  exact ix_tup
theorem pi_listK {X : Cx} {K : PySem.W.Frag} {tg l : Expr} {tl : TE} (h : X.K = K) (hl : PE X l tl) : PI X tg l (iList K tl) := by
  subst h
  exact pi_list hl
theorem op_neDK {X : Cx} {K : PySem.W.Frag} (h : X.K = K) (hu : X.A.units + 64 < cLine) : OpR X (compareOp .NotEq) (rNeD K) := by
  subst h
  exact op_neD hu
theorem op_eqDK {X : Cx} {K : PySem.W.Frag} (h : X.K = K) (hu : X.A.units + 64 < cLine) : OpR X (compareOp .Eq) (rEqD K) := by
  subst h
  exact op_eqD hu
theorem pe_tupleOfK {X : Cx} {K : PySem.W.Frag} {a : Expr} {ta : TE} {p pos : Pos} (h : X.K = K) (hg : Gl X "tuple") (hm : X.mg "tuple" = none) (ha : PE X a ta) (na : starEach [a] X.env = (false, eval a X.env) :: starEach [] X.env := by rfl) : PE X (.Call (.Name "tuple" p) [a] [] pos) (tThen ta (kTup K)) := by
  subst h
  exact pe_tupleOf hg hm ha na
theorem none_back {H H' : Hp} {p : Addr} (s : Same H H') (n : H' p = none) : H p = none := by
  cases e : H p with
  | none => rfl
  | some o =>
    rw [s _ _ e] at n
    cases n
/-- floor (j r) against an integer -/
theorem floor_lt {d j m o : Int} (hd : d ∈ roots) (hm : IsMul d j m) : (m < o + (if j = 0 then 1 else 0)) ↔ 0 ≤ sgn d o (-j) := by
  have e : sgn d o (-j) = -sgn d (-o) j := by
    rw [← sgn_neg hd, Int.neg_neg]
  rw [e, sgn_eq hd hm]
  by_cases z : j = 0
  · subst z
    have m0 : m = 0 := by
      have := hm.1 (by decide)
      exact this.uniq (s := 0) ⟨by decide, by rw [Int.zero_mul, Int.zero_mul]; decide, by rw [Int.zero_mul, Int.zero_mul]; decide⟩
    subst m0
    rw [if_pos rfl]
    split
    · omega
    · split
      · omega
      · omega
  · rw [if_neg z, if_neg (fun h => z h.2)]
    split
    · omega
    · rename_i h
      have : ¬ 0 ≤ -o + m := fun c => h ⟨c, .inl z⟩
      omega
def atMost (d i j k b : Int) : Bool := decide (0 ≤ sgn d (b * k - i) (-j)) && decide (0 ≤ sgn d (b * k + i) j)
def spAtMost : Sp := fun vs H Q _ => ∃ d i j k b : Int, vs = [.int d, .int i, .int j, .int k, .int b] ∧ d ∈ roots ∧ W 1000 i ∧ W 1000 j ∧ W 1000 k ∧ W 1000 b ∧ ∀ H', Same H H' → Q (.bl (atMost d i j k b)) H'
def spLPeriod : Sp := fun vs H Q _ => ∃ d : Int, vs = [.int d] ∧ d ∈ roots ∧ ∀ l H', H l = none → Same H H' → H' l = some (.lst ((per d).map V.int)) → Q (.ref l) H'
def spLTail : Sp := fun vs H Q _ => ∃ d pl : Int, vs = [.int d, .int pl] ∧ d ∈ roots ∧ 0 ≤ pl ∧ ∀ l i j k H', Same H H' → tlAt d pl = (i, j, k) → H' l = some (.tup [.int i, .int j, .int k]) → Q (.ref l) H'
def spLBound (K : PySem.W.Frag) : Sp := fun vs H Q _ => ∃ (l : Addr) (d : Int) (fs : List Int), vs = [.int d, .ref l] ∧ d ∈ roots ∧ SqL K H l (fs.map V.int) ∧ fs.length ≤ 1000 ∧ W 30 (sumAbs fs) ∧ ∀ H', Same H H' → Q (.int (bnd d fs)) H'
def spLKept (K : PySem.W.Frag) : Sp := fun vs H Q _ => ∃ (l : Addr) (d : Int) (fs : List Int) (u v pl : Int), vs = [.int d, .ref l, .int u, .int v, .int pl] ∧ d ∈ roots ∧ SqL K H l (fs.map V.int) ∧ isBag (.lst (fs.map V.int)) = false ∧ fs.length ≤ 1000 ∧ W 30 (sumAbs fs) ∧ 0 ≤ pl ∧ W 960 u ∧ W 960 v ∧
  ∀ H', Same H H' → Q (.bl (inB d (bnd d fs) u v (tlAt d pl))) H'
theorem kept_law {d b u v i j k : Int} : atMost d (u * k - v * i) (-v * j) k b = inB d b u v (i, j, k) := by
  unfold atMost inB
  dsimp only
  rw [show b * k - (u * k - v * i) = b * k - u * k + v * i by omega, show b * k + (u * k - v * i) = b * k + u * k - v * i by omega, show -(-v * j) = v * j by rw [Int.neg_mul, Int.neg_neg]]
/-- the factors that the law draws -/
def fac (x : Int) : Prop := x.natAbs ≤ 5
theorem fac_sum {fs : List Int} (h : ∀ x ∈ fs, fac x) : 0 ≤ sumAbs fs ∧ sumAbs fs ≤ 5 * fs.length := by
  induction fs with
  | nil => exact ⟨by decide, by decide⟩
  | cons a l ih =>
    obtain ⟨i1, i2⟩ := ih fun x hx => h x (List.mem_cons_of_mem _ hx)
    have := h a (List.mem_cons_self ..)
    unfold fac at this
    have e : sumAbs (a :: l) = (a.natAbs : Int) + sumAbs l := by
      unfold sumAbs
      rw [List.map_cons, List.sum_cons]
    rw [e, List.length_cons]
    omega
theorem fac_W {fs : List Int} (h : ∀ x ∈ fs, fac x) (hl : fs.length ≤ 1000) : W 30 (sumAbs fs) := by
  have := fac_sum h
  exact W.small (by omega)
def spLFactors (K : PySem.W.Frag) : Sp := fun vs H Q _ => ∃ (a c : Addr) (ns : List Int) (n : Int), vs = [.ref a, .int n] ∧ Bag a c ns H ∧ 0 ≤ n ∧ n ≤ 10 ∧ ∀ (l : Addr) (fs : List Int) H', Ext H H' → Bag a c ns H' → H' l = some (.lst (fs.map V.int)) → fs.length = n.toNat → (∀ x ∈ fs, fac x) → Q (.ref l) H'
end lawfield
section revK
theorem pe_revLK {X : Cx} {K : PySem.W.Frag} (h : X.K = K) {e : Expr} {te : TE} {k : Nat} {p1 p2 p3 pos : Pos} (he : PE X e te) : PE X (.Subscript e (.Slice none none (some (.UnaryOp .USub (.Constant (.int 1) k p1) p2)) p3) pos) (tRevL K te) := by
  subst h
  exact pe_revL he
theorem sl_listK {X : Cx} {K : PySem.W.Frag} (h : X.K = K) : SlR X (rSlL K) := by
  subst h
  exact sl_list
end revK
/-! ## lists: +, *, [::-1], pop; comprehensions that draw data -/
section lists2
variable {K : PySem.W.Frag} {σ : L2.St} {H : Hp} {Q : VK} {te : TE}
def RevB (K : PySem.W.Frag) (x : V) (H : Hp) (Q : VK) : Prop := ∃ a xs, x = .ref a ∧ SqL K H a xs ∧ ∀ p, H p = none → Q (.ref p) (upd H p (.lst xs.reverse))
theorem rd_revL (h : te σ H fun x H1 => RevB K x H1 Q) : tRevL K te σ H Q := h
theorem rd_revB {a : Addr} {xs : List V} (h : SqL K H a xs) (q : ∀ p H2, H p = none → Same H H2 → H2 p = some (.lst xs.reverse) → Q (.ref p) H2) : RevB K (.ref a) H Q := ⟨a, xs, rfl, h, fun p hp => q p _ hp (Same.new hp) upd_same⟩
theorem rd_cat {l b : Addr} {xs zs : List V} (h1 : H l = some (.lst xs)) (h2 : H b = some (.lst zs)) (hl : xs.length + zs.length ≤ sizeLine) (q : ∀ p H2, H p = none → Same H H2 → H2 p = some (.lst (xs ++ zs)) → Q (.ref p) H2) : rCat (.ref l) (.ref b) H Q := ⟨l, b, xs, zs, rfl, rfl, h1, h2, hl, fun p hp => q p _ hp (Same.new hp) upd_same⟩
theorem rd_repQ {l : Addr} {k : Int} {xs : List V} (h : H l = some (.lst xs)) (k0 : 0 ≤ k) (k1 : k ≤ 1000) (hl : xs.length ≤ 1000) (q : ∀ p H2, H p = none → Same H H2 → H2 p = some (.lst (List.replicate k.toNat xs).flatten) → Q (.ref p) H2) : rRep (.ref l) (.int k) H Q := by
  refine ⟨l, k, xs, rfl, rfl, h, by omega, by omega, ?_, fun p hp => q p _ hp (Same.new hp) upd_same⟩
  have h1 : xs.length * k.toNat ≤ 1000 * 1000 := Nat.mul_le_mul hl (by omega)
  exact Nat.le_trans h1 (by decide)
end lists2
section drawnQ
/-- a comprehension whose turns draw data from the bag; al: turns may give nothing -/
theorem lc_bagD {J : It} {n : Nat} {G : Hp → Prop} {Y : Nat → Hp → V → Hp → Prop} (wk : Walk J n G Y) {g : TG} {tt : TT} {te : TE} {vs : List Nat} {σ : L2.St} {H : Hp} {Q : VK} {a c : Addr} {ns : List Int} (hB : Bag a c ns H) (hG : ∀ H', Ext H H' → G H') (R : Hp → V → Prop) (hR : ∀ H xs, (∀ x ∈ xs, R H x) → isBag (.lst xs) = false) (hT : ∀ H H' x, Tps H H' → R H x → R H' x) (al : Prop) (hn : n ≤ 1000)
    (hs : ∀ i x H2 H3 (Q' : VK) (N' : Hp → Prop), i < n → Ext H H2 → Bag a c ns H2 → Y i H2 x H3 → (∀ v H4, R H4 v → Ext H2 H4 → Bag a c ns H4 → Q' v H4) → (∀ H4, al → Ext H2 H4 → Bag a c ns H4 → N' H4) →
      g x (wipe σ vs) H3 fun σ2 H4 => wipe σ2 vs = wipe σ vs ∧ tt σ2 H4 fun b H5 => if b = true then te σ2 H5 Q' else N' H5)
    (hd : ∀ D H' xs, H D = none → Ext H H' → Bag a c ns H' → H' D = some (.lst xs) → xs.length ≤ n → (¬ al → xs.length = n) → (∀ x ∈ xs, R H' x) → Q (.ref D) H') : LcB J g tt te vs σ H Q := by
  intro D hD
  obtain ⟨ha, hc⟩ := hB.free hD
  refine lc_it wk (Pv := fun i H2 => Ext H H2 ∧ Bag a c ns H2 ∧ ∃ xs, H2 D = some (.lst xs) ∧ xs.length ≤ i ∧ (¬ al → xs.length = i) ∧ ∀ x ∈ xs, R H2 x) ⟨Ext.chg (.refl _) Chg.of hD, hB.chg Chg.of ha hc, [], upd_same, Nat.le_refl _, fun _ => rfl, fun x h => by cases h⟩ (fun i H2 _ p => hG _ p.1) (fun i x H2 H3 hi p y => ?_) (fun H2 ⟨p1, p2, xs, p3, p4, p5, p6⟩ => hd D H2 xs hD p1 p2 p3 p4 p5 p6)
  obtain ⟨p1, p2, xs, p3, p4, p5, p6⟩ := p
  refine hs i x H2 H3 _ _ hi p1 p2 y (fun v H4 hv e4 B4 => ⟨xs, e4 _ _ p3 (hR _ _ p6), ?_, (p1.trans e4).chg Chg.of hD, B4.chg Chg.of ha hc, xs ++ [v], upd_same, ?_, ?_, ?_⟩) (fun H4 h e4 B4 => ⟨p1.trans e4, B4, xs, e4 _ _ p3 (hR _ _ p6), Nat.le_succ_of_le p4, fun z => absurd h z, fun x hx => hT _ _ _ (Tps.of e4) (p6 x hx)⟩)
  · exact sz_smaller (by omega)
  · rw [List.length_append]; exact Nat.succ_le_succ p4
  · intro z
    rw [List.length_append, p5 z] <;> rfl
  · have t4 : Tps H4 (upd H4 D (.lst (xs ++ [v]))) := Tps.chg Chg.of (e4 _ _ p3 (hR _ _ p6))
    intro x hx
    rcases List.mem_append.mp hx with hx | hx
    · exact hT _ _ _ t4 (hT _ _ _ (Tps.of e4) (p6 x hx))
    · rw [List.mem_singleton.mp hx]
      exact hT _ _ _ t4 hv
/-- things that stand for data -/
def DG (m : Nat) (G : PyData → Prop) (H : Hp) (x : V) : Prop := ∃ d, Dt m H x d ∧ G d
theorem DG.tps {m : Nat} {G : PyData → Prop} (H H' : Hp) (x : V) (t : Tps H H') (h : DG m G H x) : DG m G H' x := by
  obtain ⟨d, h1, h2⟩ := h
  exact ⟨d, h1.keep t, h2⟩
theorem DG.list {m : Nat} {G : PyData → Prop} {H : Hp} : ∀ {xs : List V}, (∀ x ∈ xs, DG m G H x) → ∃ ds, Paired (Dt m H) xs ds ∧ ∀ d ∈ ds, G d
  | [], _ => ⟨[], .nil, fun d h => by cases h⟩
  | x :: xs, h => by
    obtain ⟨d, h1, h2⟩ := h x (List.mem_cons_self ..)
    obtain ⟨ds, p, q⟩ := DG.list fun y hy => h y (List.mem_cons_of_mem _ hy)
    refine ⟨d :: ds, .cons h1 p, fun e he => ?_⟩
    rcases List.mem_cons.mp he with rfl | he
    · exact h2
    · exact q e he
theorem bag_nint {xs : List V} (h : ∀ x ∈ xs, ∀ i, x ≠ V.int i) : isBag (.lst xs) = false := by
  unfold isBag
  split
  · rename_i e
    cases e
    exact absurd rfl (h _ (List.mem_cons_of_mem _ (List.mem_cons_self ..)) _)
  · rfl
theorem bag_tups {m : Nat} {G : PyData → Prop} (hG : ∀ d, G d → ∃ es, d = .tuple es) (H : Hp) (xs : List V) (h : ∀ x ∈ xs, DG m G H x) : isBag (.lst xs) = false := by
  refine bag_allref fun x hx => ?_
  obtain ⟨d, h1, h2⟩ := h x hx
  obtain ⟨es, rfl⟩ := hG d h2
  obtain ⟨_, p, _, _, e, _⟩ := h1.of_tuple
  exact ⟨p, e⟩
end drawnQ
section pops
variable {K : PySem.W.Frag} {σ : L2.St} {H : Hp} {Q : VK} {to : TE}
def Bm0 (K : PySem.W.Frag) (T : String) (r : V → List V → Hp → VK → Prop) (x : V) (H : Hp) (Q : VK) : Prop := tyV K T x H ∧ r x [] H Q
theorem rd_bm0 {T : String} {r : V → List V → Hp → VK → Prop} (h : to σ H fun x H1 => Bm0 K T r x H1 Q) : tBM0 K T r to σ H Q := h
theorem rd_pop {l : Addr} {xs : List V} {y : V} (h : H l = some (.lst (xs ++ [y]))) (q : ∀ H2, Chg l H H2 → H2 l = some (.lst xs) → Q y H2) : Bm0 K "list" rPop (.ref l) H Q := by
  refine ⟨.inl ⟨rfl, _, sqL_of h⟩, l, xs ++ [y], y, rfl, rfl, h, by simp, ?_⟩
  rw [List.dropLast_concat]
  exact q _ Chg.of upd_same
end pops
section pairedQ
theorem paired_rev {α β : Type} {F : α → β → Prop} {xs : List α} {ys : List β} (h : Paired F xs ys) : Paired F xs.reverse ys.reverse := by
  induction h with
  | nil => exact .nil
  | cons a _ ih =>
    rw [List.reverse_cons, List.reverse_cons]
    exact ih.snoc a
theorem paired_app {α β : Type} {F : α → β → Prop} {xs xs' : List α} {ys ys' : List β} (h : Paired F xs ys) (h' : Paired F xs' ys') : Paired F (xs ++ xs') (ys ++ ys') := by
  induction h with
  | nil => exact h'
  | cons a _ ih => exact .cons a ih
theorem paired_last {α β : Type} {F : α → β → Prop} {xs : List α} {ys : List β} (h : Paired F xs ys) (hn : ys ≠ []) : ∃ xs' x ys' y, xs = xs' ++ [x] ∧ ys = ys' ++ [y] ∧ Paired F xs' ys' ∧ F x y := by
  have hr := paired_rev h
  cases e : ys.reverse with
  | nil => exact absurd (List.reverse_eq_nil_iff.mp e) hn
  | cons y r =>
    rw [e] at hr
    cases e2 : xs.reverse with
    | nil => rw [e2] at hr; cases hr
    | cons x r2 =>
      rw [e2] at hr
      cases hr with
      | cons a p =>
        refine ⟨r2.reverse, x, r.reverse, y, ?_, ?_, paired_rev p, a⟩
        · rw [← List.reverse_cons, ← e2, List.reverse_reverse]
        · rw [← List.reverse_cons, ← e, List.reverse_reverse]
end pairedQ
theorem wd_ne {a b : Str} (h : a ≠ b) : decide (V.str a = V.str b) = false := decide_eq_false fun e => h (by injection e)
theorem wd_eq (a : Str) : decide (V.str a = V.str a) = true := decide_eq_true rfl
/-! ## tuple * int, from one on -/
section rept
open PySem PySem.Spec PyProof.Rows
theorem tuple_mulW1 (l : Addr) (items : Array Value) (n : Nat) (dd : Option Addr) (sl : Array (Option Value)) (u : Tok) (hi : items.isEmpty = false) :
    Meets (Builtin.«tuple.__mul__» ⟨[.ref l, .int 1 u], []⟩) (fun _ R s => s.heap.get? l = some { cls := .type "tuple", dict := dd, data := .seq items n, slots := sl } ∧ R (.ok (.ret (.ref l))) s) :=
  .of_wp fun prog w A R s h => by
    obtain ⟨hp, g, d, tk, os⟩ := s
    obtain ⟨hl, h⟩ := h
    have f1 := AutoSeq1.idx_int
    wp_walk using wpAny_loadPart' hl
    exact ⟨_, rfl, h⟩
def rRepTn (K : PySem.W.Frag) : L2.R2 := fun x y H Q => ∃ l k xs, x = .ref l ∧ y = .int k ∧ L2.SqT K H l xs ∧ xs ≠ [] ∧ 1 ≤ k ∧ k ≤ 1000 ∧ xs.length ≤ 1000 ∧ (k = 1 → Q (.ref l) H) ∧ ∀ p, H p = none → Q (.ref p) (upd H p (.tup (List.replicate k.toNat xs).flatten))
theorem op_repTn {X : Cx} : L2.OpR X (binaryOp .Mult) (rRepTn X.K) := by
  intro pins s σ H x y v u Q I rx ry h
  obtain ⟨l, k, xs, rfl, rfl, hT, hne, h1, h2, hz, q1, q⟩ := h
  by_cases k1 : k = 1
  · subst k1
    cases rx
    obtain ⟨t, rfl⟩ := ry
    obtain ⟨its, r, ⟨⟨cls, dd, data, sl⟩, ho, hc, n, hd⟩, hs⟩ := I.tuple hT
    simp only at hc hd
    subst hc hd
    have hi : its.toArray.isEmpty = false := by
      cases its with
      | nil =>
        cases xs with
        | nil => exact absurd rfl hne
        | cons a b => cases r
      | cons a b => rfl
    exact wpAny_binaryOp_repeat_ref (T := "tuple") (U := "int") (by decide) ⟨_, ho, rfl⟩ (fun s' => typeIs_int s' 1 t) L2.noFill_tuple_mul F.fills_int_mul F.slot_int_rmul L2.repeat_tuple F.slot_int_index.lookup
      (call_meets F.slot_int_rmul (typeIs_int s 1 t) F.entry_int_rmul (F.args_int_rmul_2 _ _) (L2.int_rmul_tuple 1 t l its.toArray n dd sl)
        ⟨ho, rfl, ⟨_, ho, rfl⟩, call_meets F.slot_tuple_mul ⟨_, ho, rfl⟩ F.entry_tuple_mul (F.args_tuple_mul_2 _ _) (tuple_mulW1 l its.toArray n dd sl t hi) ⟨ho, .ref l, _, I, rfl, q1 rfl⟩⟩)
  · exact L2.op_repT pins s σ H (.ref l) (.int k) v u Q I rx ry ⟨l, k, xs, rfl, rfl, hT, hne, by omega, h2, hz, q⟩
theorem rd_repTn {K : PySem.W.Frag} {l : Addr} {k : Int} {xs : List V} {H : Hp} {Q : VK} (h : L2.SqT K H l xs) (hne : xs ≠ []) (k1 : 1 ≤ k) (k2 : k ≤ 1000) (hl : xs.length ≤ 1000) (q : ∀ p H2, Same H H2 → L2.SqT K H2 p (List.replicate k.toNat xs).flatten → Q (.ref p) H2) : rRepTn K (.ref l) (.int k) H Q :=
  ⟨l, k, xs, rfl, rfl, h, hne, k1, k2, hl, fun e => q l H (.refl _) (by subst e; show L2.SqT K H l (List.replicate 1 xs).flatten; rw [List.replicate_one, List.flatten_singleton]; exact h), fun p hp => q p _ (Same.new hp) (sqT_of upd_same)⟩
end rept
theorem call_isiK {X : Cx} {K : PySem.W.Frag} (h : X.K = K) : L2.CallR X (.builtin "isinstance") (L2.rIsi K) := by
  subst h
  exact L2.call_isi
/-! ## range over numbers of any size -/
section longr
open PyProof.Rows
theorem turn_long {P : Program} {w : World} {K : PySem.W.Frag} {tg : Expr} (it : Addr) (lo : Int) (n : Nat) : L2.Turn P w K tg (Itr lo n) [it] it (fun i h => IsLongIter h it (lo + (i : Nat) * 1) ((n : Int) - (i : Nat)) 1) where
  mem := by simp
  obj := fun i h st b hb => by
    have e : b = it := by simpa using hb
    subst e
    exact ⟨_, st, fun v z => by
      have z' : Data.fields _ = Data.cell v := z
      cases z'⟩
  keep := fun i h h' st k => k it (by simp) _ st
  item := by
    intro X hP hw hK hc i pins s σ H E I hf st hg
    subst hP hw hK
    obtain ⟨f0, f1, f2, f3, f4, f5⟩ := hf it (by simp)
    have W := Walks.longrange (prog := X.prog) (w := X.w) (I.ok.hd hc) it lo 1 n
    refine W.item i s _ _ hg st fun v h' tk hv st' kk => ?_
    obtain ⟨t, rfl⟩ := hv
    have I1 : Inv X pins σ H { s with heap := h', toks := tk } := I.turned (fun b o hb e => kk b o (by simpa using hb) e) f0 f1 f3 f4 f5
    refine ⟨_, rfl, L2.go_of (s := { s with heap := h', toks := tk }) (n := "longrange_iterator") st' rfl rfl (by decide) ⟨.int (lo + i), H, I1, ⟨t, ?_⟩, ⟨rfl, rfl⟩, st', fun b hb => (hf b hb).1⟩⟩
    rw [Int.mul_one]
  done := by
    intro X hP hw hK hc i pins s σ H E I hf st hg
    subst hP hw hK
    obtain ⟨f0, f1, f2, f3, f4, f5⟩ := hf it (by simp)
    exact wpAny_pyNext_long_end (I.ok.hd hc) st (by have : n ≤ i := hg; omega) fun h' eb => ⟨rfl, I.turned (t' := s.toks) (fun b o hb e => eb b o hb e) f0 f1 f3 f4 f5⟩
  self := fun _ _ _ _ _ st h => wpAny_pyIter_longiter st h
theorem long_it {X : Cx} {tg : Expr} {pins : List (Addr × Obj)} {σ : L2.St} {H : Hp} {s : Shared} {R : It → Hp → Prop} {E : Value → Shared → Prop} {lo hi : Int} {t u v : Tok} {tk : Nat} (I : Inv X pins σ H s) (hb : Builtin.Range.small lo hi 1 = false)
    (q : R (Itr lo (hi - lo).toNat) H) : wpAny (model X.prog X.w) X.A (pyIter (.ref s.heap.objs.size)) (L2.PIE X pins σ tg R) E { s with heap := s.heap.push { cls := .type "range", data := .fields #[.int lo t, .int hi u, .int 1 v] }, toks := tk } := by
  refine wpAny_pyIter_longrange (IsRange.new ..) hb ?_
  have I1 : Inv X pins σ H { s with heap := s.heap.push { cls := .type "range", data := .fields #[.int lo t, .int hi u, .int 1 v] }, toks := tk } := I.kept fun b o e => Heap.get?_push_of_some _ e
  refine ⟨(s.heap.push { cls := .type "range", data := .fields #[.int lo t, .int hi u, .int 1 v] }).objs.size, [(s.heap.push { cls := .type "range", data := .fields #[.int lo t, .int hi u, .int 1 v] }).objs.size], _, _, H, rfl,
    I1.kept (t' := tk) fun b o e => Heap.get?_push_of_some _ e, turn_long _ lo (hi - lo).toNat, ?_, fun b hb => ?_, q⟩
  · have e1 : lo + ((0 : Nat) : Int) * 1 = lo := by simp
    have e2 : (((hi - lo).toNat : Nat) : Int) - ((0 : Nat) : Int) = Builtin.Range.rangeSize lo hi 1 := by rw [rangeSize_one]; split <;> omega
    show IsLongIter _ _ (lo + ((0 : Nat) : Int) * 1) ((((hi - lo).toNat : Nat) : Int) - ((0 : Nat) : Int)) 1
    rw [e1, e2]
    exact Heap.get?_push_size _ rfl
  · have e : b = (s.heap.push { cls := .type "range", data := .fields #[.int lo t, .int hi u, .int 1 v] }).objs.size := by simpa using hb
    subst e
    exact I1.fpOk (Nat.le_refl _) (I1.hok.fresh (Nat.le_refl _))
theorem short_it {X : Cx} {tg : Expr} {pins : List (Addr × Obj)} {σ : L2.St} {H : Hp} {s : Shared} {R : It → Hp → Prop} {E : Value → Shared → Prop} {lo hi : Int} {t u v : Tok} {tk : Nat} (I : Inv X pins σ H s) (hb : Builtin.Range.small lo hi 1 = true)
    (q : R (Itr lo (hi - lo).toNat) H) : wpAny (model X.prog X.w) X.A (pyIter (.ref s.heap.objs.size)) (L2.PIE X pins σ tg R) E { s with heap := s.heap.push { cls := .type "range", data := .fields #[.int lo t, .int hi u, .int 1 v] }, toks := tk } := by
  refine wpAny_pyIter_range (IsRange.new ..) hb ?_
  have I1 : Inv X pins σ H { s with heap := s.heap.push { cls := .type "range", data := .fields #[.int lo t, .int hi u, .int 1 v] }, toks := tk } := I.kept fun b o e => Heap.get?_push_of_some _ e
  refine ⟨(s.heap.push { cls := .type "range", data := .fields #[.int lo t, .int hi u, .int 1 v] }).objs.size, [(s.heap.push { cls := .type "range", data := .fields #[.int lo t, .int hi u, .int 1 v] }).objs.size], _, _, H, rfl,
    I1.kept (t' := tk) fun b o e => Heap.get?_push_of_some _ e, L2.turn_range _ lo (hi - lo).toNat, ?_, fun b hb => ?_, q⟩
  · have e1 : lo + ((0 : Nat) : Int) * 1 = lo := by simp
    have e2 : (((hi - lo).toNat : Nat) : Int) - ((0 : Nat) : Int) = Builtin.Range.rangeSize lo hi 1 := by rw [rangeSize_one]; split <;> omega
    show IsRangeIter _ _ (lo + ((0 : Nat) : Int) * 1) ((((hi - lo).toNat : Nat) : Int) - ((0 : Nat) : Int)) 1
    rw [e1, e2]
    exact Heap.get?_push_size _ rfl
  · have e : b = (s.heap.push { cls := .type "range", data := .fields #[.int lo t, .int hi u, .int 1 v] }).objs.size := by simpa using hb
    subst e
    exact I1.fpOk (Nat.le_refl _) (I1.hok.fresh (Nat.le_refl _))
/-- range(i, j), i and j of any size -/
def iRng2L (ta : TA) : TI := fun σ H R => ta σ H fun vs H1 => ∃ i j : Int, vs = [.int i, .int j] ∧ R (Itr i (j - i).toNat) H1
theorem pi_range2L {X : Cx} {tg : Expr} {a b : Expr} {ta : TA} {p pos : Pos} (hg : Gl X "range") (hm : X.mg "range" = none) (ha : PA X [a, b] ta) (hs : starEach [a, b] X.env = [(false, eval a X.env), (false, eval b X.env)] := by rfl) (hs2 : starEach [b] X.env = [(false, eval b X.env)] := by rfl) :
    PI X tg (.Call (.Name "range" p) [a, b] [] pos) (iRng2L ta) := by
  refine ⟨fun pins s σ H R I h => ?_⟩
  refine Call_ (ld_blt I hg hm boot_range (PyProof.Rows.callWith_type1 (thn (ha.run pos pins s σ H _ I h) fun us s1 ⟨vs, H1, I1, r1, q1⟩ => ?_) (by rw [hs, hs2]) (by rw [hs2]; rfl)))
  obtain ⟨i, j, e, q⟩ := q1
  subst e
  cases r1 with
  | cons r rr =>
    cases rr with
    | cons r' rr =>
      cases rr
      obtain ⟨t, rfl⟩ := r
      obtain ⟨t', rfl⟩ := r'
      cases hb : Builtin.Range.small i j 1 with
      | true => exact call_range_2 (short_it I1 hb q)
      | false => exact call_range_2 (long_it I1 hb q)
theorem rd_rng2L {ta : TA} {σ : L2.St} {H : Hp} {R : It → Hp → Prop} (h : ta σ H fun vs H1 => ∃ i j : Int, vs = [.int i, .int j] ∧ R (Itr i (j - i).toNat) H1) : iRng2L ta σ H R := h
end longr
/-! ## zip of lists and tuples, mixed -/
section zipm
variable {prog : Program} {w : World} {A : Around} {E : Value → Shared → Prop} {s : Shared} {K : PySem.W.Frag}
def SqB (K : PySem.W.Frag) (H : Hp) (b : Bool) (a : Addr) (xs : List V) : Prop := if b = true then SqT K H a xs else SqL K H a xs
def HpIt (b : Bool) (h : Heap) (it l : Addr) (i : Nat) : Prop := if b = true then h.IsTupleIter it l i else h.IsListIter it l i
def HpSq (b : Bool) (h : Heap) (l : Addr) (xs : Array Value) : Prop := if b = true then h.IsTuple l xs else h.IsList l xs
def itN (b : Bool) : String := if b = true then "tuple_iterator" else "list_iterator"
def itO (b : Bool) (l : Addr) : Obj := { cls := .type (itN b), data := .fields #[.ref l, .int 0 0] }
theorem HpIt.obj {b : Bool} {h : Heap} {it l : Addr} {i : Nat} (q : HpIt b h it l i) : ∃ o vs, h.get? it = some o ∧ o.data = .fields vs := by
  cases b <;> (obtain ⟨o, e1, _, e2⟩ := q; exact ⟨o, _, e1, e2⟩)
theorem HpIt.move {b : Bool} {h h' : Heap} {it l : Addr} {i : Nat} (q : HpIt b h it l i) (k : ∀ o, h.get? it = some o → h'.get? it = some o) : HpIt b h' it l i := by
  cases b
  · exact Heap.IsListIter.at q k
  · exact Heap.IsTupleIter.at q k
theorem HpIt.new {b : Bool} {h : Heap} {it l : Addr} (e : h.get? it = some (itO b l)) : HpIt b h it l 0 := by
  cases b <;> exact ⟨_, e, rfl, rfl⟩
theorem HpSq.push {b : Bool} {h : Heap} {l : Addr} {xs : Array Value} (q : HpSq b h l xs) (o : Obj) : HpSq b (h.push o) l xs := by
  cases b
  · exact Heap.IsList.push q o
  · exact Heap.IsTuple.push q o
theorem drawB {it l : Addr} (b : Bool) (hh : A.handled = none) (hne : l ≠ it) (items : Array Value) : Draws prog w A it [it, l] items.size (fun i v => items[i]? = some v) (fun i h => HpIt b h it l i ∧ HpSq b h l items) := by
  cases b
  · exact Draws.list hh it l hne items
  · exact Draws.tuple hh it l hne items
theorem iterB {b : Bool} {l : Addr} {xs : Array Value} {Q : Value → Shared → Prop} (h : HpSq b s.heap l xs) (hQ : Q (.ref s.heap.objs.size) { s with heap := s.heap.push (itO b l) }) : wpAny (model prog w) A (pyIter (.ref l)) Q E s := by
  cases b
  · exact wpAny_pyIter_list h hQ
  · exact wpAny_pyIter_tuple h hQ
theorem inv_sq {X : Cx} {pins : List (Addr × Obj)} {σ : L2.St} {H : Hp} {b : Bool} {a : Addr} {xs : List V} (I : Inv X pins σ H s) (h : SqB X.K H b a xs) : ∃ its, Vals xs its ∧ HpSq b s.heap a its.toArray ∧ a < s.heap.objs.size := by
  cases b
  · obtain ⟨its, rv, p, _⟩ := I.list h
    exact ⟨its, rv, p.isList, p.lt⟩
  · obtain ⟨its, rv, p, _⟩ := I.tuple h
    obtain ⟨o, e, _⟩ := id p
    exact ⟨its, rv, p, Heap.lt_size e⟩
theorem sq_inj {X : Cx} {pins : List (Addr × Obj)} {σ : L2.St} {H : Hp} {b : Bool} {a : Addr} {xs ys : List V} (I : Inv X pins σ H s) (h : SqB X.K H b a xs) (g : SqB X.K H b a ys) : xs = ys := by
  cases b
  · exact I.list_inj h g
  · exact I.tuple_inj h g
def ItzM (K : PySem.W.Frag) (b1 b2 : Bool) (a b : Addr) : It where
  go := fun i H => ∃ (xs ys : List V) (x y : V), SqB K H b1 a xs ∧ SqB K H b2 b ys ∧ xs[i]? = some x ∧ ys[i]? = some y
  yld := fun i H v H' => ∃ T x y, v = .ref T ∧ H T = none ∧ H' = upd H T (.tup [x, y]) ∧ (∀ xs, SqB K H b1 a xs → xs[i]? = some x) ∧ ∀ ys, SqB K H b2 b ys → ys[i]? = some y
  stop := fun i H => ∃ xs ys : List V, SqB K H b1 a xs ∧ SqB K H b2 b ys ∧ i ≤ xs.length ∧ i ≤ ys.length ∧ (i = xs.length ∨ i = ys.length)
theorem five {c z TI TO i1 i2 : Addr} (h : c ∈ [z, TI, TO, i1, i2]) : c = z ∨ c = TI ∨ c = TO ∨ c = i1 ∨ c = i2 := by
  simpa using h
theorem not5 {c z TI TO i1 i2 : Addr} (h : c ∉ [z, TI, TO, i1, i2]) : c ≠ z ∧ c ≠ TI ∧ c ≠ TO ∧ c ≠ i1 ∧ c ≠ i2 := by
  simpa using h
theorem sep_of {z TI TO i1 i2 a b : Addr} (D : ZipApart z TI TO i1 i2 a b) : ZipSep2 z TI TO i1 i2 [i1, a] [i2, b] where
  TIz := D.TIz
  TOz := D.TOz
  TITO := D.TITO
  TIi1 := D.TIi1
  mem1 := List.mem_cons_self ..
  zf1 := by simp [D.i1z.symm, D.l1z.symm]
  Tf1 := by simp [D.TOi1, D.l1TO.symm]
  TIi2 := D.TIi2
  mem2 := List.mem_cons_self ..
  zf2 := by simp [D.i2z.symm, D.l2z.symm]
  Tf2 := by simp [D.TOi2, D.l2TO.symm]
  sep1_2 := by simp [D.i12, D.l2i1.symm]
  sep2_1 := by simp [D.i12.symm, D.l1i2.symm]
theorem turn_zipM {P : Program} {elts : List Expr} {kk : Nat} {tpos : Pos} {b1 b2 : Bool} {a b z TI TO i1 i2 : Addr} (D : ZipApart z TI TO i1 i2 a b) :
    Turn P w K (.Tuple elts kk tpos) (ItzM K b1 b2 a b) [z, TI, TO, i1, i2] z (fun i h => PySem.IsZip h z TI TO .none ∧ IsTupOf2 h TI (.ref i1) (.ref i2) ∧ (∃ x y, IsTupOf2 h TO x y) ∧ HpIt b1 h i1 a i ∧ HpIt b2 h i2 b i) where
  mem := List.mem_cons_self ..
  obj := fun i h ⟨hz, hI, ⟨x, y, hO⟩, h1, h2⟩ c hc => by
    obtain ⟨o1, v1, e1, d1⟩ := h1.obj
    obtain ⟨o2, v2, e2, d2⟩ := h2.obj
    rcases five hc with rfl | rfl | rfl | rfl | rfl
    · exact ⟨_, hz, fun v q => by cases q⟩
    · exact ⟨_, hI, fun v q => by cases q⟩
    · exact ⟨_, hO, fun v q => by cases q⟩
    · exact ⟨o1, e1, fun v q => by rw [d1] at q; cases q⟩
    · exact ⟨o2, e2, fun v q => by rw [d2] at q; cases q⟩
  keep := fun i h h' ⟨hz, hI, ⟨x, y, hO⟩, h1, h2⟩ k => ⟨k _ (by simp) _ hz, k _ (by simp) _ hI, ⟨x, y, k _ (by simp) _ hO⟩, h1.move (k _ (by simp)), h2.move (k _ (by simp))⟩
  item := by
    rintro X rfl rfl rfl hc i pins s σ H E I hf ⟨hz, hI, ⟨x0, y0, hO⟩, h1, h2⟩ ⟨xs, ys, x, y, qx, qy, hx, hy⟩
    obtain ⟨is, rv, p, _⟩ := inv_sq I qx
    obtain ⟨js, rw', p', _⟩ := inv_sq I qy
    obtain ⟨u, hu, ru⟩ := rv.get hx
    obtain ⟨v, hv, rv'⟩ := rw'.get hy
    have zl := Heap.lt_size hz
    have ht : X.A.handled = none := I.ok.hd hc
    have sz1 : i < is.toArray.size := by
      have := (List.getElem?_eq_some_iff.mp hu).1
      simpa using this
    have sz2 : i < js.toArray.size := by
      have := (List.getElem?_eq_some_iff.mp hv).1
      simpa using this
    refine wpAny_pyNext_zipD2_item (sep_of D) (drawB (A := X.A.in1) b1 ht D.l1i1 is.toArray) (drawB (A := X.A.in1) b2 ht D.l2i2 js.toArray) hz hI hO ⟨h1, p⟩ ⟨h2, p'⟩ sz1 sz2 fun u' v' h' tk e1 e2 z' O' ⟨h1', _⟩ ⟨h2', _⟩ hT hsz hk => ?_
    obtain rfl : u' = u := by
      rw [List.getElem?_toArray, hu] at e1
      cases e1
      rfl
    obtain rfl : v' = v := by
      rw [List.getElem?_toArray, hv] at e2
      cases e2
      rfl
    refine ⟨_, rfl, wpAny_letOwnedTupleGo_zip (s := { s with heap := h', toks := tk }) z' fun h2 z2 sb => ?_⟩
    have up : ∀ c o, c ≠ z → h'.get? c = some o → h2.get? c = some o := fun c o n e => (sb.2 c n).trans e
    have nT : ObjOk X.prog X.w (upd H s.heap.objs.size (.tup [x, y])) h2 s.heap.objs.size (.tup [x, y]) := ⟨by show 2 ≤ sizeLine; decide, [u', v'], .cons ru (.cons rv' .nil), ⟨_, up _ _ (Nat.ne_of_gt zl) hT, rfl, _, rfl⟩⟩
    have I1 := I.turnedNew (t' := tk) (ch := [z, TI, TO, i1, i2]) (fun c o hb q => up c o (not5 hb).1 (hk c o (not5 hb).1 (not5 hb).2.2.1 (not5 hb).2.2.2.1 (not5 hb).2.2.2.2 q)) hf (Nat.le_refl _) nT
    refine ⟨.ref s.heap.objs.size, _, I1, rfl, ⟨_, x, y, rfl, I.hok.fresh (Nat.le_refl _), rfl, fun l hl => ?_, fun l hl => ?_⟩, ⟨z2, up _ _ D.TIz (hk _ _ D.TIz D.TITO D.TIi1 D.TIi2 hI), ⟨_, _, up _ _ D.TOz O'⟩, h1'.move fun o => up _ o D.i1z, h2'.move fun o => up _ o D.i2z⟩, fun c hcm => ?_⟩
    · rw [sq_inj I hl qx]
      exact hx
    · rw [sq_inj I hl qy]
      exact hy
    · obtain ⟨o1, _, e1, _⟩ := h1.obj
      obtain ⟨o2, _, e2, _⟩ := ‹HpIt b2 s.heap i2 b i›.obj
      have lt : c < s.heap.objs.size := by
        rcases five hcm with rfl | rfl | rfl | rfl | rfl
        · exact zl
        · exact Heap.lt_size hI
        · exact Heap.lt_size hO
        · exact Heap.lt_size e1
        · exact Heap.lt_size e2
      rw [upd_ne (Nat.ne_of_lt lt)]
      exact (hf c hcm).1
  done := by
    rintro X rfl rfl rfl hc i pins s σ H E I hf ⟨hz, hI, ⟨x0, y0, hO⟩, h1, h2⟩ ⟨xs, ys, qx, qy, l1, l2, hend⟩
    obtain ⟨is, rv, p, _⟩ := inv_sq I qx
    obtain ⟨js, rw', p', _⟩ := inv_sq I qy
    have ht : X.A.handled = none := I.ok.hd hc
    have n1 : is.toArray.size = xs.length := by rw [List.size_toArray, rv.length]
    have n2 : js.toArray.size = ys.length := by rw [List.size_toArray, rw'.length]
    exact wpAny_pyNext_zipD2_end (sep_of D) (drawB (A := X.A.in1) b1 ht D.l1i1 is.toArray) (drawB (A := X.A.in1) b2 ht D.l2i2 js.toArray) hz hI hO ⟨h1, p⟩ ⟨h2, p'⟩ (by omega) (by omega) (by omega) fun h' tk hk => ⟨rfl, I.turnedL (t' := tk) (ch := [z, TI, TO, i1, i2]) (fun c o hb q => hk c o (not5 hb).1 (not5 hb).2.2.1 (not5 hb).2.2.2.1 (not5 hb).2.2.2.2 q) hf⟩
  self := fun A i s Q E st h => wpAny_pyIter_zip st.1 h
/-- the heap behind zip(l1, l2) -/
def zipM (b1 b2 : Bool) (h : Heap) (l1 l2 : Addr) : Heap := ((((h.push (itO b1 l1)).push (itO b2 l2)).push { cls := .type "tuple", data := .seq #[.ref h.objs.size, .ref (h.push (itO b1 l1)).objs.size] }).push { cls := .type "tuple", data := .seq #[.none, .none] }).push
  { cls := .type "zip", data := .fields #[.none, .bool false, .bool false, .ref ((h.push (itO b1 l1)).push (itO b2 l2)).objs.size, .ref (((h.push (itO b1 l1)).push (itO b2 l2)).push { cls := .type "tuple", data := .seq #[.ref h.objs.size, .ref (h.push (itO b1 l1)).objs.size] }).objs.size] }
def zipA (b1 b2 : Bool) (h : Heap) (l1 l2 : Addr) : Addr := ((((h.push (itO b1 l1)).push (itO b2 l2)).push { cls := .type "tuple", data := .seq #[.ref h.objs.size, .ref (h.push (itO b1 l1)).objs.size] }).push { cls := .type "tuple", data := .seq #[.none, .none] }).objs.size
theorem new_zipM (b1 b2 : Bool) (l1 l2 : Addr) (xs ys : Array Value) : Meets (Builtin.«zip.__new__» ⟨[.type "zip", .ref l1, .ref l2], []⟩) (fun _ R s => HpSq b1 s.heap l1 xs ∧ HpSq b2 s.heap l2 ys ∧ R (.ok (.ret (.ref (zipA b1 b2 s.heap l1 l2)))) { s with heap := zipM b1 b2 s.heap l1 l2 }) :=
  .of_wp fun prog w A R s h => by
    obtain ⟨hp, g, d, tk, os⟩ := s
    obtain ⟨q1, q2, h⟩ := h
    have hsub := PySem.sub_zip
    have L1 : HpSq b1 (Shared.heap ⟨hp, g, d, tk, os⟩) l1 xs := q1
    have L2 : HpSq b2 (Shared.heap ⟨hp.push (itO b1 l1), g, d, tk, os⟩) l2 ys := q2.push _
    wp_walk using iterB L1, iterB L2
    exact ⟨_, rfl, h⟩
theorem call_zipM {b1 b2 : Bool} {l1 l2 : Addr} {xs ys : Array Value} {Q : Value → Shared → Prop} (q1 : HpSq b1 s.heap l1 xs) (q2 : HpSq b2 s.heap l2 ys)
    (h : ∀ h', PySem.IsZip h' (s.heap.objs.size + 4) (s.heap.objs.size + 2) (s.heap.objs.size + 3) .none → IsTupOf2 h' (s.heap.objs.size + 2) (.ref s.heap.objs.size) (.ref (s.heap.objs.size + 1)) → IsTupOf2 h' (s.heap.objs.size + 3) .none .none →
      HpIt b1 h' s.heap.objs.size l1 0 → HpIt b2 h' (s.heap.objs.size + 1) l2 0 → (∀ c o, s.heap.get? c = some o → h'.get? c = some o) → Q (.ref (s.heap.objs.size + 4)) { s with heap := h' }) :
    wpAny (model prog w) A (call (.type "zip") [.ref l1, .ref l2]) Q E s := by
  refine callType_new PySem.F.called_zip (by decide) (PySem.F.typeCall_zip_2 _ _) (PySem.F.newCall_zip_2 _ _) (fun obj => PySem.F.args_object_init_3 obj _ _) PySem.F.entry_zip_new (new_zipM b1 b2 l1 l2 xs ys) ⟨q1, q2, ?_⟩
  have ea : zipA b1 b2 s.heap l1 l2 = s.heap.objs.size + 4 := by
    unfold zipA
    rw [Heap.size_push, Heap.size_push, Heap.size_push, Heap.size_push]
  have eb : ∀ o1 o2 : Obj, ((s.heap.push o1).push o2).objs.size = s.heap.objs.size + 2 := fun o1 o2 => by rw [Heap.size_push, Heap.size_push]
  have ec : ∀ o1 o2 o3 : Obj, (((s.heap.push o1).push o2).push o3).objs.size = s.heap.objs.size + 3 := fun o1 o2 o3 => by rw [Heap.size_push, Heap.size_push, Heap.size_push]
  have ed : ∀ o1 : Obj, (s.heap.push o1).objs.size = s.heap.objs.size + 1 := fun o1 => by rw [Heap.size_push]
  have up : ∀ {hp : Heap} {c : Addr} {o o' : Obj}, hp.get? c = some o → (hp.push o').get? c = some o := fun e => Heap.get?_push_of_some _ e
  have top : ∀ {hp : Heap} {n : Addr} {o : Obj}, hp.objs.size = n → o.isFreed = false → (hp.push o).get? n = some o := fun e f => by
    subst e
    exact Heap.get?_push_size _ f
  show _ ∧ _
  rw [ea]
  have fz : (zipM b1 b2 s.heap l1 l2).get? (s.heap.objs.size + 4) = some { cls := .type "zip", data := .fields #[.none, .bool false, .bool false, .ref (s.heap.objs.size + 2), .ref (s.heap.objs.size + 3)] } := by
    unfold zipM
    rw [eb, ec, ed]
    exact top (by rw [Heap.size_push, ec]) rfl
  have f2 : (zipM b1 b2 s.heap l1 l2).get? (s.heap.objs.size + 2) = some { cls := .type "tuple", data := .seq #[.ref s.heap.objs.size, .ref (s.heap.objs.size + 1)] } := by
    unfold zipM
    rw [ed]
    exact up (up (top (eb _ _) rfl))
  have f3 : (zipM b1 b2 s.heap l1 l2).get? (s.heap.objs.size + 3) = some { cls := .type "tuple", data := .seq #[.none, .none] } := up (top (ec _ _ _) rfl)
  refine ⟨⟨_, fz, rfl⟩, h _ fz f2 f3 (.new (up (up (up (up (top rfl rfl)))))) (.new (up (up (up (top (ed _) rfl))))) fun c o e => up (up (up (up (up e))))⟩
def WkM (K : PySem.W.Frag) (vs : List V) (H : Hp) (R : It → Hp → Prop) : Prop := ∃ b1 b2 a b xs ys, vs = [.ref a, .ref b] ∧ SqB K H b1 a xs ∧ SqB K H b2 b ys ∧ R (ItzM K b1 b2 a b) H
def iZipM (K : PySem.W.Frag) (ta : TA) : TI := fun σ H R => ta σ H fun vs H1 => WkM K vs H1 R
theorem pi_zipM {X : Cx} {e e2 : Expr} {ta : TA} {p pos tpos : Pos} {elts : List Expr} {kk : Nat} (hg : Gl X "zip") (hm : X.mg "zip" = none) (ha : PA X [e, e2] ta)
    (hs : starEach [e, e2] X.env = (false, eval e X.env) :: starEach [e2] X.env := by rfl) (hpl : (backTo pos (starEach [e2] X.env)).any (·.1) = false := by rfl) : PI X (.Tuple elts kk tpos) (.Call (.Name "zip" p) [e, e2] [] pos) (iZipM X.K ta) := by
  refine ⟨fun pins s σ H R I h => Call_ (ld_blt I hg hm PyProof.Rows.boot_zip (PyProof.Rows.callWith_type1 (thn (ha.run pos pins s σ H _ I h) fun us s1 ⟨vs, H1, I1, r1, q1⟩ => ?_) hs hpl))⟩
  obtain ⟨b1, b2, a, b, xs, ys, rfl, q1, q2, q⟩ := q1
  rcases r1 with _ | ⟨r, _ | ⟨r', _ | _⟩⟩
  cases r
  cases r'
  obtain ⟨is, _, p1, t1⟩ := inv_sq I1 q1
  obtain ⟨js, _, p2, t2⟩ := inv_sq I1 q2
  refine call_zipM p1 p2 fun h' hz hI hO h1 h2 hk => wpAny_pyIter_zip hz ⟨s1.heap.objs.size + 4, [s1.heap.objs.size + 4, s1.heap.objs.size + 2, s1.heap.objs.size + 3, s1.heap.objs.size, s1.heap.objs.size + 1], _, _, H1, rfl, I1.kept (t' := s1.toks) hk, turn_zipM (PySem.W.ktu_apart s1.heap.objs.size a b t1 t2), ⟨hz, hI, ⟨_, _, hO⟩, h1, h2⟩, fun c hc => ?_, q⟩
  have le : s1.heap.objs.size ≤ c := by
    rcases five hc with rfl | rfl | rfl | rfl | rfl
    · exact Nat.le_add_right ..
    · exact Nat.le_add_right ..
    · exact Nat.le_add_right ..
    · exact Nat.le_refl _
    · exact Nat.le_add_right ..
  exact I1.fpOk le (I1.hok.fresh le)
section
variable {σ : L2.St} {H : Hp}
theorem rd_iZipM {ta : TA} {R : It → Hp → Prop} (h : ta σ H fun vs H1 => WkM K vs H1 R) : iZipM K ta σ H R := h
theorem walk_zipM {b1 b2 : Bool} {a b : Addr} {xs ys : List V} {n : Nat} (hn : n = min xs.length ys.length) : Walk (ItzM K b1 b2 a b) n (fun H => SqB K H b1 a xs ∧ SqB K H b2 b ys) (YPair (fun i => xs[i]?) (fun i => ys[i]?)) := by
  subst hn
  refine ⟨fun i H hi q => ?_, fun H q => ⟨xs, ys, q.1, q.2, by omega, by omega, by omega⟩, fun i H v H' _ q y => ?_⟩
  · have l1 : i < xs.length := by omega
    have l2 : i < ys.length := by omega
    exact ⟨xs, ys, _, _, q.1, q.2, List.getElem?_eq_getElem l1, List.getElem?_eq_getElem l2⟩
  · obtain ⟨T, x, z, e1, e2, e3, e4, e5⟩ := y
    exact ⟨T, x, z, e1, e2, e3, e4 xs q.1, e5 ys q.2⟩
theorem rd_wkM {b1 b2 : Bool} {a b : Addr} {xs ys : List V} {R : It → Hp → Prop} (h1 : SqB K H b1 a xs) (h2 : SqB K H b2 b ys) (r : R (ItzM K b1 b2 a b) H) : WkM K [.ref a, .ref b] H R := ⟨b1, b2, a, b, xs, ys, rfl, h1, h2, r⟩
end
/-! enumerate of a list or a tuple -/
def ItEM (K : PySem.W.Frag) (b : Bool) (a : Addr) : It where
  go := fun i H => ∃ (xs : List V) (x : V), SqB K H b a xs ∧ xs[i]? = some x
  yld := fun i H v H' => ∃ T x, v = .ref T ∧ H T = none ∧ H' = upd H T (.tup [.int (i : Nat), x]) ∧ ∀ xs, SqB K H b a xs → xs[i]? = some x
  stop := fun i H => ∃ xs : List V, SqB K H b a xs ∧ i = xs.length
theorem turn_enumM {P : Program} {elts : List Expr} {kk : Nat} {tpos : Pos} {b : Bool} {a e it : Addr} (hne : e ≠ it) (hae : a ≠ e) (hai : a ≠ it) :
    Turn P w K (.Tuple elts kk tpos) (ItEM K b a) [e, it] e (fun i h => (∃ old, IsEnum h e it ((i : Nat) : Int) old) ∧ HpIt b h it a i) where
  mem := List.mem_cons_self ..
  obj := fun i h ⟨⟨old, he⟩, h1⟩ c hc => by
    obtain ⟨o1, v1, e1, d1⟩ := h1.obj
    have hc : c = e ∨ c = it := by simpa using hc
    rcases hc with rfl | rfl
    · exact ⟨_, he, fun v q => by cases q⟩
    · exact ⟨o1, e1, fun v q => by rw [d1] at q; cases q⟩
  keep := fun i h h' ⟨⟨old, he⟩, h1⟩ k => ⟨⟨old, k _ (by simp) _ he⟩, h1.move (k _ (by simp))⟩
  item := by
    rintro X rfl rfl rfl hc i pins s σ H E I hf ⟨⟨old, he⟩, h1⟩ ⟨xs, x, qx, hx⟩
    obtain ⟨is, rv, p, _⟩ := inv_sq I qx
    obtain ⟨u, hu, ru⟩ := rv.get hx
    have el := Heap.lt_size he
    obtain ⟨o1, _, e1, _⟩ := h1.obj
    have il := Heap.lt_size e1
    have ht : X.A.handled = none := I.ok.hd hc
    have sz1 : i < is.toArray.size := by
      have := (List.getElem?_eq_some_iff.mp hu).1
      simpa using this
    refine wpAny_pyNext_enum_itemD (drawB (A := X.A.in1) b ht hai is.toArray) he ⟨h1, p⟩ sz1 hne (by simp [hne, hae.symm]) fun u' h' tk e1 z' ⟨h1', _⟩ hT hsz hk => ?_
    obtain rfl : u' = u := by
      rw [List.getElem?_toArray, hu] at e1
      cases e1
      rfl
    refine ⟨_, rfl, wpAny_letOwnedTupleGo_enum (s := { s with heap := h', toks := tk + 1 }) z' fun h2 z2 sb => ?_⟩
    have up : ∀ c o, c ≠ e → h'.get? c = some o → h2.get? c = some o := fun c o n q => (sb.2 c n).trans q
    have nT : ObjOk X.prog X.w (upd H s.heap.objs.size (.tup [.int (i : Nat), x])) h2 s.heap.objs.size (.tup [.int (i : Nat), x]) := ⟨by show 2 ≤ sizeLine; decide, [.int i tk, u'], .cons ⟨_, rfl⟩ (.cons ru .nil), ⟨_, up _ _ (Nat.ne_of_gt el) hT, rfl, _, rfl⟩⟩
    have no2 : ∀ {c : Addr}, c ∉ [e, it] → c ≠ e ∧ c ≠ it := fun h => by simpa using h
    have I1 := I.turnedNew (t' := tk + 1) (ch := [e, it]) (fun c o hb q => up c o (no2 hb).1 (hk c o (no2 hb).1 (no2 hb).2 q)) hf (Nat.le_refl _) nT
    refine ⟨.ref s.heap.objs.size, _, I1, rfl, ⟨_, x, rfl, I.hok.fresh (Nat.le_refl _), rfl, fun l hl => ?_⟩, ⟨⟨u', ?_⟩, h1'.move fun o => up _ o hne.symm⟩, fun c hcm => ?_⟩
    · rw [sq_inj I hl qx]
      exact hx
    · rw [show ((i + 1 : Nat) : Int) = (i : Int) + 1 by omega]
      exact z2
    · have lt : c < s.heap.objs.size := by
        have hc : c = e ∨ c = it := by simpa using hcm
        rcases hc with rfl | rfl
        · exact el
        · exact il
      rw [upd_ne (Nat.ne_of_lt lt)]
      exact (hf c hcm).1
  done := by
    rintro X rfl rfl rfl hc i pins s σ H E I hf ⟨⟨old, he⟩, h1⟩ ⟨xs, qx, hend⟩
    obtain ⟨is, rv, p, _⟩ := inv_sq I qx
    have ht : X.A.handled = none := I.ok.hd hc
    have n1 : i = is.toArray.size := by rw [List.size_toArray, ← rv.length, hend]
    subst n1
    obtain ⟨f0, f1, f2, f3, f4, f5⟩ := hf it (by simp)
    exact wpAny_pyNext_enum_endD (drawB (A := X.A.in1) b ht hai is.toArray) he ⟨h1, p⟩ fun h' eb => ⟨rfl, I.turned (t' := s.toks) (fun b o hb q => eb b o hb q) f0 f1 f3 f4 f5⟩
  self := fun A i s Q E ⟨⟨_, he⟩, _⟩ h => wpAny_pyIter_enum he h
def enumO (it : Addr) : Obj := { cls := .type "enumerate", data := .fields #[.none, .bool false, .ref it, rawInt 0, .none, .none] }
theorem new_enumM (b : Bool) (l : Addr) (xs : Array Value) : Meets (Builtin.«enumerate.__new__» ⟨[.type "enumerate", .ref l], []⟩) (fun _ R s => HpSq b s.heap l xs ∧ R (.ok (.ret (.ref (s.heap.push (itO b l)).objs.size))) { s with heap := (s.heap.push (itO b l)).push (enumO s.heap.objs.size) }) :=
  .of_wp fun prog w A R s h => by
    obtain ⟨hp, g, d, tk, os⟩ := s
    obtain ⟨q1, h⟩ := h
    have hsub := PySem.sub_enumerate
    have L1 : HpSq b (Shared.heap ⟨hp, g, d, tk, os⟩) l xs := q1
    wp_walk using iterB L1
    refine wpAny_stack_any fun st => wpAny_pure ?_
    split
    · rename_i c _ _ _ _ _
      cases (c == Value.type "enumerate") <;> (wp_walk using iterB L1) <;> exact ⟨_, rfl, h⟩
    · (wp_walk using iterB L1); exact ⟨_, rfl, h⟩
theorem call_enumM {b : Bool} {l : Addr} {xs : Array Value} {Q : Value → Shared → Prop} (q1 : HpSq b s.heap l xs)
    (h : ∀ h', IsEnum h' (s.heap.objs.size + 1) s.heap.objs.size 0 .none → HpIt b h' s.heap.objs.size l 0 → (∀ c o, s.heap.get? c = some o → h'.get? c = some o) → Q (.ref (s.heap.objs.size + 1)) { s with heap := h' }) :
    wpAny (model prog w) A (call (.type "enumerate") [.ref l]) Q E s := by
  refine callType_new PySem.F.called_enumerate (by decide) (PySem.F.typeCall_enumerate_1 _) (PySem.F.newCall_enumerate_1 _) (fun obj => PySem.F.args_object_init_2 obj _) PySem.F.entry_enumerate_new (new_enumM b l xs) ⟨q1, ?_⟩
  have ed : (s.heap.push (itO b l)).objs.size = s.heap.objs.size + 1 := by rw [Heap.size_push]
  show _ ∧ _
  rw [ed]
  have fz : ((s.heap.push (itO b l)).push (enumO s.heap.objs.size)).get? (s.heap.objs.size + 1) = some (enumO s.heap.objs.size) := by
    rw [← ed]
    exact Heap.get?_push_size _ rfl
  exact ⟨⟨_, fz, rfl⟩, h _ fz (.new (Heap.get?_push_of_some _ (Heap.get?_push_size _ rfl))) fun c o e => Heap.get?_push_of_some _ (Heap.get?_push_of_some _ e)⟩
def WkE (K : PySem.W.Frag) (vs : List V) (H : Hp) (R : It → Hp → Prop) : Prop := ∃ b a xs, vs = [.ref a] ∧ SqB K H b a xs ∧ R (ItEM K b a) H
def iEnumM (K : PySem.W.Frag) (ta : TA) : TI := fun σ H R => ta σ H fun vs H1 => WkE K vs H1 R
theorem pi_enumM {X : Cx} {e : Expr} {ta : TA} {p pos tpos : Pos} {elts : List Expr} {kk : Nat} (hg : Gl X "enumerate") (hm : X.mg "enumerate" = none) (ha : PA X [e] ta) (hs : starEach [e] X.env = [(false, eval e X.env)] := by rfl) : PI X (.Tuple elts kk tpos) (.Call (.Name "enumerate" p) [e] [] pos) (iEnumM X.K ta) := by
  refine ⟨fun pins s σ H R I h => Call_ (ld_blt I hg hm boot_enumerate (PyProof.Rows.callWith_type1 (thn (ha.run pos pins s σ H _ I h) fun us s1 ⟨vs, H1, I1, r1, q1⟩ => ?_) hs rfl))⟩
  obtain ⟨b, a, xs, rfl, q1, q⟩ := q1
  rcases r1 with _ | ⟨r, _ | _⟩
  cases r
  obtain ⟨is, _, p1, t1⟩ := inv_sq I1 q1
  refine call_enumM p1 fun h' he h1 hk => wpAny_pyIter_enum he ⟨s1.heap.objs.size + 1, [s1.heap.objs.size + 1, s1.heap.objs.size], _, _, H1, rfl, I1.kept (t' := s1.toks) hk, turn_enumM (a := a) (Nat.succ_ne_self _) (Nat.ne_of_lt (Nat.lt_succ_of_lt t1)) (Nat.ne_of_lt t1), ⟨⟨.none, he⟩, h1⟩, fun c hc => ?_, q⟩
  have hc : c = s1.heap.objs.size + 1 ∨ c = s1.heap.objs.size := by simpa using hc
  have le : s1.heap.objs.size ≤ c := by
    rcases hc with rfl | rfl
    · exact Nat.le_add_right ..
    · exact Nat.le_refl _
  exact I1.fpOk le (I1.hok.fresh le)
section
variable {σ : L2.St} {H : Hp}
theorem rd_iEnumM {ta : TA} {R : It → Hp → Prop} (h : ta σ H fun vs H1 => WkE K vs H1 R) : iEnumM K ta σ H R := h
theorem walk_enumM {b : Bool} {a : Addr} {xs : List V} : Walk (ItEM K b a) xs.length (fun H => SqB K H b a xs) (YPair (fun i => some (.int (i : Nat))) (fun i => xs[i]?)) := by
  refine ⟨fun i _ hi q => ⟨xs, xs[i], q, List.getElem?_eq_getElem hi⟩, fun _ q => ⟨xs, q, rfl⟩, fun i H v H' _ q y => ?_⟩
  obtain ⟨T, x, e1, e2, e3, e4⟩ := y
  exact ⟨T, .int (i : Nat), x, e1, e2, e3, rfl, e4 xs q⟩
theorem rd_wkE {b : Bool} {a : Addr} {xs : List V} {R : It → Hp → Prop} (h1 : SqB K H b a xs) (r : R (ItEM K b a) H) : WkE K [.ref a] H R := ⟨b, a, xs, rfl, h1, r⟩
end
end zipm
/-! ## digits of Ostrowski, carried pairs: plain mathematics -/
section ost
/-- i + j r > 0 -/
def PosS (d i j : Int) : Prop := (0 ≤ i ∧ 0 ≤ j ∧ (0 < i ∨ 0 < j)) ∨ (0 < i ∧ j < 0 ∧ j * j * d < i * i) ∨ (i < 0 ∧ 0 < j ∧ i * i < j * j * d)
theorem sgn_pos {d i j : Int} (h : PosS d i j) : sgn d i j = 1 := by
  unfold sgn
  rcases h with ⟨a, b, c⟩ | ⟨a, b, c⟩ | ⟨a, b, c⟩
  · rw [if_pos ⟨a, b⟩, if_pos c]
  · rw [if_neg (by omega), if_neg (by omega), if_pos a, if_pos c]
  · rw [if_neg (by omega), if_neg (by omega), if_neg (by omega), if_pos c]
theorem sgn_tri {d i j : Int} (hd : d ∈ roots) (h1 : ¬ PosS d i j) (h2 : ¬ PosS d (-i) (-j)) : i = 0 ∧ j = 0 := by
  obtain ⟨m, hm⟩ := isMul_ex (d := d) (f := j) hd
  have e := sgn_eq (i := i) hd hm
  have p : sgn d i j ≠ 1 ∧ sgn d i j ≠ -1 := by
    have n1 : PosS d i j ∨ sgn d i j ≠ 1 := by
      by_cases z : sgn d i j = 1
      · refine .inl ?_
        unfold sgn at z
        unfold PosS
        split at z
        · rename_i q
          split at z
          · exact .inl ⟨q.1, q.2, ‹_›⟩
          · cases z
        · split at z
          · cases z
          · split at z
            · split at z
              · exact .inr (.inl ⟨by omega, by omega, ‹_›⟩)
              · cases z
            · split at z
              · exact .inr (.inr ⟨by omega, by omega, ‹_›⟩)
              · cases z
      · exact .inr z
    have n2 : PosS d (-i) (-j) ∨ sgn d i j ≠ -1 := by
      by_cases z : sgn d (-i) (-j) = 1
      · refine .inl ?_
        unfold sgn at z
        unfold PosS
        split at z
        · rename_i q
          split at z
          · exact .inl ⟨q.1, q.2, ‹_›⟩
          · cases z
        · split at z
          · cases z
          · split at z
            · split at z
              · exact .inr (.inl ⟨by omega, by omega, ‹_›⟩)
              · cases z
            · split at z
              · exact .inr (.inr ⟨by omega, by omega, ‹_›⟩)
              · cases z
      · refine .inr fun y => z ?_
        rw [sgn_neg hd, y]
        rfl
    exact ⟨n1.resolve_left h1, n2.resolve_left h2⟩
  rw [e] at p
  by_cases z : i = 0 ∧ j = 0
  · exact z
  · rw [if_neg z] at p
    split at p
    · exact absurd rfl p.1
    · exact absurd rfl p.2
theorem sq_lt2 {a b : Int} (ha : 0 ≤ a) (h : a < b) : a * a < b * b := by
  have h1 := Int.mul_le_mul_of_nonneg_left (Int.le_of_lt h) ha
  have h2 := Int.mul_lt_mul_of_pos_right h (show 0 < b by omega)
  omega
theorem posS_mul {d n a b : Int} (hn : 0 < n) (hd : n * n < d) (h : PosS d a b) : PosS d (-n * a + d * b) (a - n * b) := by
  obtain ⟨P, hP⟩ : ∃ P, -n * a + d * b = P := ⟨_, rfl⟩
  obtain ⟨R, hR⟩ : ∃ R, a - n * b = R := ⟨_, rfl⟩
  rw [hP, hR]
  have k1 : P * P - R * R * d = (d - n * n) * (d * (b * b) - a * a) := by grind
  have N0 : 0 < d - n * n := by omega
  rcases h with ⟨ha, hb, hc⟩ | ⟨ha, hb, hc⟩ | ⟨ha, hb, hc⟩
  · by_cases r0 : 0 ≤ R
    · by_cases p0 : 0 ≤ P
      · refine .inl ⟨p0, r0, ?_⟩
        by_cases z : P = 0 ∧ R = 0
        · obtain ⟨z1, z2⟩ := z
          have e1 : (d - n * n) * b = 0 := by grind
          have e2 : (d - n * n) * a = 0 := by grind
          have e1' := (Int.mul_eq_zero.mp e1).resolve_left (by omega)
          have e2' := (Int.mul_eq_zero.mp e2).resolve_left (by omega)
          omega
        · omega
      · refine .inr (.inr ⟨by omega, ?_, ?_⟩)
        · have e1 : n * R = -P + (d - n * n) * b := by grind
          have e2 := Int.mul_nonneg (Int.le_of_lt N0) hb
          refine Int.lt_of_not_ge fun c => ?_
          have := Int.mul_nonpos_of_nonneg_of_nonpos (Int.le_of_lt hn) c
          omega
        · -- d b < n a
          have e0 : d * b < n * a := by grind
          have db : 0 ≤ d * b := Int.mul_nonneg (by have := Int.mul_pos hn hn; omega) hb
          have e1 : (d * b) * (d * b) < (n * a) * (n * a) := sq_lt2 db e0
          have aa : 0 ≤ a * a := Int.mul_nonneg ha ha
          have e2 : (n * n) * (a * a) ≤ d * (a * a) := Int.mul_le_mul_of_nonneg_right (Int.le_of_lt hd) aa
          have e3 : d * (d * (b * b)) < d * (a * a) := by
            have e4 : (d * b) * (d * b) = d * (d * (b * b)) := by grind
            have e5 : (n * a) * (n * a) = (n * n) * (a * a) := by grind
            omega
          have e6 : d * (b * b) < a * a := Int.lt_of_mul_lt_mul_left e3 (by have := Int.mul_pos hn hn; omega)
          have e7 : 0 < (d - n * n) * (a * a - d * (b * b)) := Int.mul_pos N0 (by omega)
          have e8 : (d - n * n) * (a * a - d * (b * b)) = -((d - n * n) * (d * (b * b) - a * a)) := by grind
          omega
    · have e0 : a < n * b := by omega
      have b0 : 0 < b := by
        refine Int.lt_of_not_ge fun c => ?_
        have := Int.mul_nonpos_of_nonneg_of_nonpos (Int.le_of_lt hn) c
        omega
      refine .inr (.inl ⟨?_, by omega, ?_⟩)
      · have e1 : n * a ≤ n * (n * b) := Int.mul_le_mul_of_nonneg_left (Int.le_of_lt e0) (Int.le_of_lt hn)
        have e2 := Int.mul_pos N0 b0
        have e3 : P = (d - n * n) * b + (n * (n * b) - n * a) := by grind
        omega
      · have e1 : a * a < (n * b) * (n * b) := sq_lt2 ha e0
        have e2 : (n * n) * (b * b) < d * (b * b) := Int.mul_lt_mul_of_pos_right hd (Int.mul_pos b0 b0)
        have e3 : (n * b) * (n * b) = (n * n) * (b * b) := by grind
        have e7 : 0 < (d - n * n) * (d * (b * b) - a * a) := Int.mul_pos N0 (by omega)
        omega
  · refine .inr (.inr ⟨?_, ?_, ?_⟩)
    · have e1 := Int.mul_pos hn ha
      have e2 : d * b < 0 := Int.mul_neg_of_pos_of_neg (by have := Int.mul_pos hn hn; omega) hb
      grind
    · have e2 : n * b < 0 := Int.mul_neg_of_pos_of_neg hn hb
      omega
    · have e7 : 0 < (d - n * n) * (a * a - d * (b * b)) := Int.mul_pos N0 (by grind)
      have e8 : (d - n * n) * (a * a - d * (b * b)) = -((d - n * n) * (d * (b * b) - a * a)) := by grind
      omega
  · refine .inr (.inl ⟨?_, ?_, ?_⟩)
    · have e1 : n * a < 0 := Int.mul_neg_of_pos_of_neg hn ha
      have e2 : 0 < d * b := Int.mul_pos (by have := Int.mul_pos hn hn; omega) hb
      grind
    · have e2 := Int.mul_pos hn hb
      omega
    · have e7 : 0 < (d - n * n) * (d * (b * b) - a * a) := Int.mul_pos N0 (by grind)
      omega
theorem sgn_mul {d n a b : Int} (hd : d ∈ roots) (hn : 0 < n) (h : n * n < d) : sgn d (-n * a + d * b) (a - n * b) = sgn d a b := by
  by_cases h1 : PosS d a b
  · rw [sgn_pos h1, sgn_pos (posS_mul hn h h1)]
  · by_cases h2 : PosS d (-a) (-b)
    · have e1 := sgn_pos h2
      have e2 := sgn_pos (posS_mul hn h h2)
      have e3 : -n * -a + d * -b = -(-n * a + d * b) := by grind
      have e4 : -a - n * -b = -(a - n * b) := by grind
      rw [sgn_neg hd] at e1
      rw [e3, e4, sgn_neg hd] at e2
      omega
    · obtain ⟨rfl, rfl⟩ := sgn_tri hd h1 h2
      rw [Int.mul_zero, Int.mul_zero, Int.mul_zero, Int.sub_zero, Int.add_zero]
/-- i + j r is not below 0, by the floor of j r -/
theorem sgn_ge {d o j m : Int} (hd : d ∈ roots) (hm : IsMul d j m) : 0 ≤ sgn d o j ↔ -o ≤ m := by
  rw [sgn_eq hd hm]
  have m0 : j = 0 → m = 0 := fun z => by
    subst z
    have := hm.1 (by decide)
    exact this.uniq (s := 0) ⟨by decide, by rw [Int.zero_mul, Int.zero_mul]; decide, by rw [Int.zero_mul, Int.zero_mul]; decide⟩
  by_cases z : o = 0 ∧ j = 0
  · rw [if_pos z]
    have := m0 z.2
    omega
  · rw [if_neg z]
    by_cases y : 0 ≤ o + m ∧ (j ≠ 0 ∨ 0 < o)
    · rw [if_pos y]
      omega
    · rw [if_neg y]
      by_cases jz : j = 0
      · have := m0 jz
        omega
      · have : ¬ 0 ≤ o + m := fun c => y ⟨c, .inl jz⟩
        omega
/-- the bases: (n, bottom) of b = (r - n) / bottom -/
def bsN (d : Int) : Int × Int := if d = 2 then (1, 1) else if d = 3 then (1, 1) else if d = 5 then (1, 2) else if d = 6 then (2, 1) else (3, 2)
theorem bs_eq {d i j k : Int} (hd : d ∈ roots) (h : List.lookup d [((2 : Int), [-1, 1, 1]), (3, [-1, 1, 1]), (5, [-1, 1, 2]), (6, [-2, 1, 1]), (13, [-3, 1, 2])] = some [i, j, k]) : i = -(bsN d).1 ∧ j = 1 ∧ k = (bsN d).2 := by
  rcases roots_cases hd with rfl | rfl | rfl | rfl | rfl <;> (cases h; decide)
theorem bsN_ok {d : Int} (hd : d ∈ roots) : 0 < (bsN d).1 ∧ (bsN d).1 * (bsN d).1 < d ∧ 0 < (bsN d).2 ∧ (tlT d 0).1 = (bsN d).1 ∧ (tlT d 0).2.1 = 1 ∧ 0 < (tlT d 0).2.2 ∧ d - (bsN d).1 * (bsN d).1 = (tlT d 0).2.2 * (bsN d).2 ∧ (bsN d).1 ≤ 3 ∧ (bsN d).2 ≤ 2 := by
  rcases roots_cases hd with rfl | rfl | rfl | rfl | rfl <;> decide
/-- y z is at most x: y is at most the floor of x b -/
theorem first_key {d x y m : Int} (hd : d ∈ roots) (hm : IsMul d x m) : 0 ≤ sgn d (x * (tlT d 0).2.2 - y * (tlT d 0).1) (-y) ↔ y ≤ (-(bsN d).1 * x + m) / (bsN d).2 := by
  obtain ⟨n0, n1, b0, t1, t2, k0, nk, _, _⟩ := bsN_ok hd
  rw [Int.le_ediv_iff_mul_le b0]
  obtain ⟨n, hn⟩ : ∃ n, (bsN d).1 = n := ⟨_, rfl⟩
  obtain ⟨q, hq⟩ : ∃ q, (bsN d).2 = q := ⟨_, rfl⟩
  obtain ⟨k, hk⟩ : ∃ k, (tlT d 0).2.2 = k := ⟨_, rfl⟩
  rw [t1, hk, hn, hq]
  rw [hn] at n0 n1
  rw [hk] at k0
  rw [hn, hq, hk] at nk
  clear t1 t2
  have e := sgn_mul (a := x * k - y * n) (b := -y) hd n0 n1
  have e1 : -n * (x * k - y * n) + d * -y = k * (-n * x - y * q) := by grind
  have e2 : x * k - y * n - n * -y = k * x := by grind
  rw [e1, e2, sgn_scale k0] at e
  rw [← e, sgn_ge hd hm]
  omega
/-! ### steps and digits -/
def pt (d : Int) (i : Nat) : Int := (per d).getD (i % (per d).length) 0
theorem pt_ok {d : Int} {i : Nat} (hd : d ∈ roots) : 1 ≤ pt d i ∧ pt d i ≤ 4 := by
  obtain ⟨h0, _⟩ := per_len hd
  have hl : i % (per d).length < (per d).length := Nat.mod_lt _ h0
  have hm : pt d i ∈ per d := by
    unfold pt
    rw [List.getD_eq_getElem?_getD, List.getElem?_eq_getElem hl]
    exact List.getElem_mem hl
  have : ∀ y ∈ per d, 1 ≤ y ∧ y ≤ 4 := by
    rcases roots_cases hd with rfl | rfl | rfl | rfl | rfl <;> decide
  exact this _ hm
def qq (d : Int) : Nat → Int × Int
  | 0 => (0, 1)
  | n + 1 => ((qq d n).2, pt d n * (qq d n).2 + (qq d n).1)
def qs (d : Int) (n : Nat) : Int := (qq d n).2
def ql (d : Int) (n : Nat) : Int := (qq d n).1
theorem qs_succ (d : Int) (n : Nat) : qs d (n + 1) = pt d n * qs d n + ql d n := rfl
theorem ql_succ (d : Int) (n : Nat) : ql d (n + 1) = qs d n := rfl
theorem qs_ok {d : Int} (hd : d ∈ roots) : ∀ n, 1 ≤ qs d n ∧ 0 ≤ ql d n ∧ ql d n ≤ qs d n
  | 0 => ⟨Int.le_refl 1, Int.le_refl 0, show (0 : Int) ≤ 1 by decide⟩
  | n + 1 => by
    obtain ⟨h1, h2, h3⟩ := qs_ok hd n
    obtain ⟨p1, _⟩ := pt_ok (i := n) hd
    rw [qs_succ, ql_succ]
    have := Int.mul_le_mul_of_nonneg_right p1 (show 0 ≤ qs d n by omega)
    omega
theorem qs_W {d : Int} (hd : d ∈ roots) : ∀ n, W (3 * n + 1) (qs d n)
  | 0 => by
    show (1 : Int).natAbs < 2 ^ 1
    decide
  | n + 1 => by
    obtain ⟨h1, h2, h3⟩ := qs_ok hd n
    obtain ⟨p1, p2⟩ := pt_ok (i := n) hd
    have ih := qs_W hd n
    unfold W at *
    have e : 2 ^ (3 * (n + 1) + 1) = 2 ^ (3 * n + 1) * 8 := by
      rw [show 3 * (n + 1) + 1 = (3 * n + 1) + 3 by omega, Nat.pow_add]
    rw [e, qs_succ]
    have := Int.mul_le_mul_of_nonneg_right p2 (show 0 ≤ qs d n by omega)
    have := Int.mul_le_mul_of_nonneg_right p1 (show 0 ≤ qs d n by omega)
    omega
/-- digits that can stand -/
def Adm (d : Int) (ds : List Int) : Prop := ∀ (i : Nat) (x : Int), ds[i]? = some x → 0 ≤ x ∧ x ≤ pt d i ∧ (x = pt d i → ∃ j, i = j + 1 ∧ ds[j]? = some 0)
def vl (d : Int) : Nat → List Int → Int
  | _, [] => 0
  | i, x :: xs => x * qs d i + vl d (i + 1) xs
theorem vl_snoc (d : Int) (y : Int) : ∀ (xs : List Int) (i : Nat), vl d i (xs ++ [y]) = vl d i xs + y * qs d (i + xs.length)
  | [], i => by
    show y * qs d i + 0 = 0 + y * qs d i
    omega
  | x :: xs, i => by
    show x * qs d i + vl d (i + 1) (xs ++ [y]) = x * qs d i + vl d (i + 1) xs + _
    rw [vl_snoc d y xs (i + 1), List.length_cons, show i + 1 + xs.length = i + (xs.length + 1) by omega]
    omega
/-- the digits by the greatest step, n places -/
def gr (d : Int) : Nat → Int → List Int
  | 0, _ => []
  | n + 1, r => gr d n (r % qs d n) ++ [r / qs d n]
theorem gr_len (d : Int) : ∀ (n : Nat) (r : Int), (gr d n r).length = n
  | 0, _ => rfl
  | n + 1, r => by
    show (gr d n _ ++ [_]).length = _
    rw [List.length_append, gr_len d n] <;> rfl
theorem gr_val {d : Int} (hd : d ∈ roots) : ∀ (n : Nat) (r : Int), 0 ≤ r → r < qs d n → vl d 0 (gr d n r) = r
  | 0, r, h0, h1 => by
    have : qs d 0 = 1 := rfl
    show (0 : Int) = r
    omega
  | n + 1, r, h0, h1 => by
    show vl d 0 (gr d n _ ++ [_]) = r
    rw [vl_snoc, gr_len, Nat.zero_add]
    obtain ⟨z, _, _⟩ := qs_ok hd n
    rw [gr_val hd n (r % qs d n) (Int.emod_nonneg _ (by omega)) (Int.emod_lt_of_pos _ (by omega))]
    have := Int.emod_add_mul_ediv r (qs d n)
    rw [Int.mul_comm] at this
    exact this
theorem adm_pre {d : Int} {xs ys : List Int} (h : Adm d (xs ++ ys)) : Adm d xs := by
  intro i x hx
  have hi : i < xs.length := (List.getElem?_eq_some_iff.mp hx).1
  obtain ⟨a, b, c⟩ := h i x (by rw [List.getElem?_append_left hi]; exact hx)
  refine ⟨a, b, fun e => ?_⟩
  obtain ⟨j, e1, e2⟩ := c e
  refine ⟨j, e1, ?_⟩
  rw [List.getElem?_append_left (by omega)] at e2
  exact e2
theorem gr_adm {d : Int} (hd : d ∈ roots) : ∀ (n : Nat) (r : Int), 0 ≤ r → r < qs d n → Adm d (gr d n r)
  | 0, r, h0, h1 => by
    intro i x hx
    simp [gr] at hx
  | n + 1, r, h0, h1 => by
    obtain ⟨q1, q2, q3⟩ := qs_ok hd n
    have m0 := Int.emod_nonneg r (show qs d n ≠ 0 by omega)
    have m1 := Int.emod_lt_of_pos r (show 0 < qs d n by omega)
    have em := Int.emod_add_mul_ediv r (qs d n)
    have x0 : 0 ≤ r / qs d n := Int.ediv_nonneg h0 (by omega)
    have ih := gr_adm hd n (r % qs d n) m0 m1
    rw [qs_succ] at h1
    have x1 : r / qs d n ≤ pt d n := by
      refine Int.le_of_not_gt fun c => ?_
      have := Int.mul_le_mul_of_nonneg_left (show pt d n + 1 ≤ r / qs d n by omega) (show 0 ≤ qs d n by omega)
      rw [Int.mul_add, Int.mul_one, Int.mul_comm (qs d n) (pt d n)] at this
      omega
    intro i x hx
    show _ ∧ _ ∧ (_ → ∃ j, _ ∧ (gr d n (r % qs d n) ++ [r / qs d n])[j]? = some 0)
    have hx : (gr d n (r % qs d n) ++ [r / qs d n])[i]? = some x := hx
    by_cases hi : i < n
    · rw [List.getElem?_append_left (by rw [gr_len]; exact hi)] at hx
      obtain ⟨a, b, c⟩ := ih i x hx
      refine ⟨a, b, fun e => ?_⟩
      obtain ⟨j, e1, e2⟩ := c e
      exact ⟨j, e1, by rw [List.getElem?_append_left (by rw [gr_len]; omega)]; exact e2⟩
    · have hl := (List.getElem?_eq_some_iff.mp hx).1
      rw [List.length_append, gr_len] at hl
      obtain rfl : i = n := by
        have : ([r / qs d n] : List Int).length = 1 := rfl
        omega
      rw [List.getElem?_append_right (by rw [gr_len]; omega), gr_len, Nat.sub_self] at hx
      obtain rfl : r / qs d i = x := by
        injection hx
      refine ⟨x0, x1, fun e => ?_⟩
      rw [e, Int.mul_comm] at em
      cases i with
      | zero =>
        have : ql d 0 = 0 := rfl
        omega
      | succ m =>
        refine ⟨m, rfl, ?_⟩
        rw [ql_succ] at h1
        have z : r % qs d (m + 1) / qs d m = 0 := Int.ediv_eq_zero_of_lt m0 (by omega)
        rw [List.getElem?_append_left (by rw [gr_len]; omega)]
        show (gr d m _ ++ [_])[m]? = some 0
        rw [List.getElem?_append_right (by rw [gr_len]; omega), gr_len, Nat.sub_self, z]
        rfl
/-! ### carried pairs -/
def nextP (part total : Int) (p : Int × Int) : Int × Int := (p.2, p.1 - part * p.2 - total)
def dotI (fs l : List Int) : Int := (List.zipWith (· * ·) fs l).sum
def IsSrt (ps qs : List (Int × Int)) : Prop := SrtO.Srtd SrtO.lexB qs ∧ SrtO.Stb SrtO.lexB qs ps
theorem lex_swo : SrtO.Swo SrtO.lexB := by
  refine ⟨fun x y h => ?_, fun x y z h1 h2 => ?_⟩
  · have a := SrtO.lexB_iff.mp h
    refine SrtO.lexB_no.mpr ?_
    omega
  · have a := SrtO.lexB_no.mp h1
    have b := SrtO.lexB_no.mp h2
    refine SrtO.lexB_no.mpr ?_
    omega
theorem IsSrt.uniq {ps qs rs : List (Int × Int)} (h : IsSrt ps qs) (g : IsSrt ps rs) : qs = rs := SrtO.stb_uniq lex_swo h.1 g.1 ⟨h.2.perm.trans g.2.perm.symm, fun x => (h.2.cls x).trans (g.2.cls x).symm⟩
theorem IsSrt.refl {ps : List (Int × Int)} (h : SrtO.Srtd SrtO.lexB ps) : IsSrt ps ps := ⟨h, .refl _, fun _ => rfl⟩
theorem IsSrt.mem {ps qs : List (Int × Int)} (h : IsSrt ps qs) (x : Int × Int) : x ∈ qs ↔ x ∈ ps := h.2.perm.mem_iff
def stepC (d b : Int) (fs : List Int) (i : Nat) (l : List Int) (qs : List (Int × Int)) : List (Int × Int) := (qs.map (nextP (pt d i) (dotI fs l))).filter fun p => inB d b p.1 p.2 (tlAt d (i + 1))
def CarR (d b : Int) (fs : List Int) (L : List (List Int)) (f0 : List (Int × Int)) : Nat → List (Int × Int) → Prop
  | 0, ps => ps = f0
  | i + 1, ps => ∃ qs, CarR d b fs L f0 i qs ∧ IsSrt (stepC d b fs i (L.getD i []) qs) ps
theorem CarR.uniq {d b : Int} {fs : List Int} {L : List (List Int)} {f0 : List (Int × Int)} : ∀ {i : Nat} {ps qs : List (Int × Int)}, CarR d b fs L f0 i ps → CarR d b fs L f0 i qs → ps = qs
  | 0, _, _, h, g => h.trans g.symm
  | i + 1, ps, qs, ⟨a, h1, h2⟩, ⟨b, g1, g2⟩ => by
    cases CarR.uniq h1 g1
    exact h2.uniq g2
theorem CarR.len {d b : Int} {fs : List Int} {L : List (List Int)} {f0 : List (Int × Int)} : ∀ {i : Nat} {ps : List (Int × Int)}, CarR d b fs L f0 i ps → ps.length ≤ f0.length
  | 0, _, h => by rw [h]; exact Nat.le_refl _
  | i + 1, ps, ⟨a, h1, h2⟩ => by
    rw [h2.2.len]
    refine Nat.le_trans (List.length_filter_le ..) ?_
    rw [List.length_map]
    exact h1.len
/-- lists in ascending order with the same members are one -/
theorem asc_ext : ∀ {l m : List Int}, l.Pairwise (· < ·) → m.Pairwise (· < ·) → (∀ x, x ∈ l ↔ x ∈ m) → l = m
  | [], [], _, _, _ => rfl
  | [], y :: m, _, _, h => absurd ((h y).mpr (List.mem_cons_self ..)) (by simp)
  | x :: l, [], _, _, h => absurd ((h x).mp (List.mem_cons_self ..)) (by simp)
  | x :: l, y :: m, hl, hm, h => by
    obtain ⟨l1, l2⟩ := List.pairwise_cons.mp hl
    obtain ⟨m1, m2⟩ := List.pairwise_cons.mp hm
    have e : x = y := by
      rcases List.mem_cons.mp ((h x).mp (List.mem_cons_self ..)) with e | e
      · exact e
      · rcases List.mem_cons.mp ((h y).mpr (List.mem_cons_self ..)) with e' | e'
        · exact e'.symm
        · have := m1 _ e
          have := l1 _ e'
          omega
    subst e
    rw [asc_ext l2 m2 fun z => ?_]
    constructor
    · intro hz
      rcases List.mem_cons.mp ((h z).mp (List.mem_cons_of_mem _ hz)) with e | e
      · have := l1 _ hz
        omega
      · exact e
    · intro hz
      rcases List.mem_cons.mp ((h z).mpr (List.mem_cons_of_mem _ hz)) with e | e
      · have := m1 _ hz
        omega
      · exact e
/-- the ints from lo on, n of them -/
def fromI (lo : Int) (n : Nat) : List Int := (List.range n).map fun i : Nat => lo + i
theorem fromI_asc (lo : Int) (n : Nat) : (fromI lo n).Pairwise (· < ·) := by
  unfold fromI
  rw [List.pairwise_map]
  exact List.pairwise_lt_range.imp fun h => by omega
theorem mem_fromI {lo x : Int} {n : Nat} : x ∈ fromI lo n ↔ lo ≤ x ∧ x < lo + n := by
  unfold fromI
  rw [List.mem_map]
  constructor
  · rintro ⟨i, hi, rfl⟩
    rw [List.mem_range] at hi
    omega
  · rintro ⟨h1, h2⟩
    exact ⟨(x - lo).toNat, List.mem_range.mpr (by omega), by omega⟩
theorem filter_fromI {lo hi a : Int} {n : Nat} {p : Int → Bool} (hp : ∀ v, p v = true ↔ lo ≤ v ∧ v ≤ hi) (h1 : ∀ v, lo ≤ v → v ≤ hi → a ≤ v ∧ v < a + n) : (fromI a n).filter p = fromI lo (hi + 1 - lo).toNat := by
  refine asc_ext ((fromI_asc a n).sublist List.filter_sublist) (fromI_asc _ _) fun x => ?_
  rw [List.mem_filter, mem_fromI, mem_fromI, hp]
  constructor
  · rintro ⟨_, q1, q2⟩
    omega
  · rintro ⟨q1, q2⟩
    have q3 : x ≤ hi := by omega
    exact ⟨h1 x q1 q3, q1, q3⟩
/-- the floor of x b -/
def IsFl (d x f : Int) : Prop := ∃ m, IsMul d x m ∧ f = (-(bsN d).1 * x + m) / (bsN d).2
/-- the first pairs: those that are kept -/
theorem first_law {d b c f g : Int} (hd : d ∈ roots) (hf : IsFl d (b + c) f) (hg : IsFl d (b - c) g) (v : Int) : inB d b (-c) v (tlAt d 0) = true ↔ -f ≤ v ∧ v ≤ g := by
  obtain ⟨m1, h1, rfl⟩ := hf
  obtain ⟨m2, h2, rfl⟩ := hg
  have e1 := first_key (y := -v) hd h1
  have e2 := first_key (y := v) hd h2
  have t0 : tlAt d 0 = tlT d 0 := by
    unfold tlAt
    rw [Int.zero_emod]
  obtain ⟨_, _, _, _, t2, _⟩ := bsN_ok hd
  unfold inB
  rw [t0, t2, Bool.and_eq_true, decide_eq_true_eq, decide_eq_true_eq]
  rw [show b * (tlT d 0).2.2 - -c * (tlT d 0).2.2 + v * (tlT d 0).1 = (b + c) * (tlT d 0).2.2 - -v * (tlT d 0).1 by grind, show v * 1 = - -v by omega, e1]
  rw [show b * (tlT d 0).2.2 + -c * (tlT d 0).2.2 - v * (tlT d 0).1 = (b - c) * (tlT d 0).2.2 - v * (tlT d 0).1 by grind, show -v * 1 = -v by omega, e2]
  omega
/-- the floor of x b is at most |x| -/
theorem fl_le {d x f : Int} (hd : d ∈ roots) (h : IsFl d x f) : f ≤ (x.natAbs : Int) := by
  obtain ⟨m, hm, rfl⟩ := h
  have e := (first_key (y := (-(bsN d).1 * x + m) / (bsN d).2) hd hm).mpr (Int.le_refl _)
  obtain ⟨n0, n1, b0, t1, t2, k0, nk, _, _⟩ := bsN_ok hd
  have kn : (tlT d 0).2.2 ≤ (bsN d).1 + 1 := by
    rcases roots_cases hd with rfl | rfl | rfl | rfl | rfl <;> decide
  rw [t1] at e
  generalize (-(bsN d).1 * x + m) / (bsN d).2 = f at *
  generalize (tlT d 0).2.2 = k at *
  generalize (bsN d).1 = n at *
  refine Int.le_of_not_gt fun c => ?_
  have f0 : 0 < f := by omega
  have ps : PosS d (f * n - x * k) f := by
    by_cases z : 0 ≤ f * n - x * k
    · exact .inl ⟨z, by omega, .inr f0⟩
    · refine .inr (.inr ⟨by omega, f0, ?_⟩)
      have x0 : 0 < x := by
        refine Int.lt_of_not_ge fun y => ?_
        have := Int.mul_nonpos_of_nonpos_of_nonneg y (Int.le_of_lt k0)
        have := Int.mul_pos f0 n0
        omega
      have e1 := Int.mul_le_mul_of_nonneg_left kn (Int.le_of_lt x0)
      have e2 := Int.mul_lt_mul_of_pos_right (show x < f by omega) (show 0 < n + 1 by omega)
      have e3 : f * (n + 1) = f * n + f := by grind
      have e4 := sq_lt2 (a := x * k - f * n) (b := f) (by omega) (by omega)
      have e5 : (f * n - x * k) * (f * n - x * k) = (x * k - f * n) * (x * k - f * n) := by grind
      have e6 := Int.mul_le_mul_of_nonneg_left (show 1 ≤ d by have := Int.mul_pos n0 n0; omega) (Int.le_of_lt (Int.mul_pos f0 f0))
      omega
  have e7 := sgn_pos ps
  have e8 : sgn d (x * k - f * n) (-f) = -sgn d (f * n - x * k) f := by
    rw [← sgn_neg hd]
    congr 1
    omega
  omega
theorem first_list {d b c f g : Int} (hd : d ∈ roots) (b0 : 0 ≤ b) (hf : IsFl d (b + c) f) (hg : IsFl d (b - c) g) :
    (fromI (-(b + (c.natAbs : Int) + 1)) (2 * (b + (c.natAbs : Int) + 1) + 1).toNat).filter (fun v => inB d b (-c) v (tlAt d 0)) = fromI (-f) (g + 1 - -f).toNat := by
  have l1 := fl_le hd hf
  have l2 := fl_le hd hg
  refine filter_fromI (fun v => first_law hd hf hg v) fun v h1 h2 => ?_
  omega
end ost
/-! ## i + j r at least 0: sums; the pairs of an equation that holds are kept -/
section nn
def NN (d i j : Int) : Prop := 0 ≤ sgn d i j
theorem nn_int {d i j s : Int} (hd : d ∈ roots) (hs : 0 ≤ s) (h : NN d i j) : NN d (i + s) j := by
  obtain ⟨m, hm⟩ := isMul_ex (d := d) (f := j) hd
  have h1 := (sgn_ge (o := i) hd hm).mp h
  exact (sgn_ge (o := i + s) hd hm).mpr (by omega)
theorem nn_scale {d i j g : Int} (hg : 0 ≤ g) (h : NN d i j) : NN d (g * i) (g * j) := by
  by_cases z : g = 0
  · subst z
    rw [Int.zero_mul, Int.zero_mul]
    unfold NN
    rw [sgn_00]
    exact Int.le_refl 0
  · unfold NN
    rw [sgn_scale (by omega)]
    exact h
theorem nn_un {d i j g : Int} (hg : 0 < g) (h : NN d (g * i) (g * j)) : NN d i j := by
  unfold NN at *
  rw [sgn_scale hg] at h
  exact h
theorem nn_neg {d i j : Int} (hj : j < 0) (h : NN d i j) : 0 < i ∧ j * j * d < i * i := by
  unfold NN sgn at h
  rw [if_neg (by omega)] at h
  split at h
  · exact absurd h (by decide)
  · split at h
    · split at h
      · exact ⟨by omega, by assumption⟩
      · exact absurd h (by decide)
    · omega
theorem nn_pos {d i j : Int} (hj : 0 < j) (h : NN d i j) : 0 ≤ i ∨ (i < 0 ∧ i * i < j * j * d) := by
  by_cases z : 0 ≤ i
  · exact .inl z
  · refine .inr ⟨by omega, ?_⟩
    unfold NN sgn at h
    rw [if_neg (by omega), if_neg (by omega), if_neg (by omega)] at h
    split at h
    · assumption
    · exact absurd h (by decide)
theorem nn_zero {d i : Int} (h : NN d i 0) : 0 ≤ i := by
  unfold NN sgn at h
  split at h
  · omega
  · rw [if_pos (by omega)] at h
    exact absurd h (by decide)
theorem le_of_sq2 {a b : Int} (hb : 0 ≤ b) (h : a * a ≤ b * b) : a ≤ b := by
  refine Int.le_of_not_gt fun c => ?_
  have := sq_lt2 hb c
  omega
theorem nn_det {d i1 j1 i2 j2 : Int} (hd : 0 < d) (h1 : j1 < 0) (h2 : 0 < j2) (n1 : NN d i1 j1) (n2 : NN d i2 j2) : 0 ≤ -j1 * i2 + j2 * i1 := by
  obtain ⟨a1, a2⟩ := nn_neg h1 n1
  rcases nn_pos h2 n2 with b1 | ⟨b1, b2⟩
  · have e1 := Int.mul_nonneg (show 0 ≤ -j1 by omega) b1
    have e2 := Int.mul_pos h2 a1
    omega
  · have e1 : (-j1 * -i2) * (-j1 * -i2) ≤ (j2 * i1) * (j2 * i1) := by
      have f1 : (j1 * j1) * (i2 * i2) ≤ (j1 * j1) * (j2 * j2 * d) := Int.mul_le_mul_of_nonneg_left (Int.le_of_lt b2) (by have := Int.mul_pos_of_neg_of_neg h1 h1; omega)
      have f2 : (j2 * j2) * (j1 * j1 * d) ≤ (j2 * j2) * (i1 * i1) := Int.mul_le_mul_of_nonneg_left (Int.le_of_lt a2) (by have := Int.mul_pos h2 h2; omega)
      have f3 : (-j1 * -i2) * (-j1 * -i2) = (j1 * j1) * (i2 * i2) := by grind
      have f4 : (j2 * i1) * (j2 * i1) = (j2 * j2) * (i1 * i1) := by grind
      have f5 : (j1 * j1) * (j2 * j2 * d) = (j2 * j2) * (j1 * j1 * d) := by grind
      omega
    have e2 := le_of_sq2 (Int.le_of_lt (Int.mul_pos h2 a1)) e1
    have e3 : -j1 * -i2 = -(-j1 * i2) := by grind
    omega
theorem nn_mix {d i1 j1 i2 j2 : Int} (hr : d ∈ roots) (hd : 0 < d) (h1 : j1 < 0) (h2 : 0 < j2) (n1 : NN d i1 j1) (n2 : NN d i2 j2) : NN d (i1 + i2) (j1 + j2) := by
  have D := nn_det hd h1 h2 n1 n2
  by_cases z : j2 ≤ -j1
  · have e := nn_int hr D (nn_scale (show 0 ≤ -j1 - j2 by omega) n1)
    refine nn_un (g := -j1) (by omega) ?_
    have e1 : (-j1 - j2) * i1 + (-j1 * i2 + j2 * i1) = -j1 * (i1 + i2) := by grind
    have e2 : (-j1 - j2) * j1 = -j1 * (j1 + j2) := by grind
    rw [e1, e2] at e
    exact e
  · have e := nn_int hr D (nn_scale (show 0 ≤ j2 + j1 by omega) n2)
    refine nn_un (g := j2) h2 ?_
    have e1 : (j2 + j1) * i2 + (-j1 * i2 + j2 * i1) = j2 * (i1 + i2) := by grind
    have e2 : (j2 + j1) * j2 = j2 * (j1 + j2) := by grind
    rw [e1, e2] at e
    exact e
theorem nn_add {d i1 j1 i2 j2 : Int} (hr : d ∈ roots) (n1 : NN d i1 j1) (n2 : NN d i2 j2) : NN d (i1 + i2) (j1 + j2) := by
  have hd : 0 < d := by
    rcases roots_cases hr with rfl | rfl | rfl | rfl | rfl <;> decide
  rcases Int.lt_trichotomy j1 0 with a | a | a
  · rcases Int.lt_trichotomy j2 0 with b | b | b
    · -- both below 0
      by_cases z : 0 ≤ j1 * i2 - j2 * i1
      · have e := nn_int hr z (nn_scale (show 0 ≤ -j1 + -j2 by omega) n2)
        refine nn_un (g := -j2) (by omega) ?_
        have e1 : (-j1 + -j2) * i2 + (j1 * i2 - j2 * i1) = -j2 * (i1 + i2) := by grind
        have e2 : (-j1 + -j2) * j2 = -j2 * (j1 + j2) := by grind
        rw [e1, e2] at e
        exact e
      · have e := nn_int hr (show 0 ≤ -(j1 * i2 - j2 * i1) by omega) (nn_scale (show 0 ≤ -j1 + -j2 by omega) n1)
        refine nn_un (g := -j1) (by omega) ?_
        have e1 : (-j1 + -j2) * i1 + -(j1 * i2 - j2 * i1) = -j1 * (i1 + i2) := by grind
        have e2 : (-j1 + -j2) * j1 = -j1 * (j1 + j2) := by grind
        rw [e1, e2] at e
        exact e
    · subst b
      have := nn_zero n2
      rw [Int.add_zero]
      exact nn_int hr this n1
    · exact nn_mix hr hd a b n1 n2
  · subst a
    have := nn_zero n1
    rw [Int.zero_add, Int.add_comm]
    exact nn_int hr this n2
  · rcases Int.lt_trichotomy j2 0 with b | b | b
    · rw [Int.add_comm i1, Int.add_comm j1]
      exact nn_mix hr hd b a n2 n1
    · subst b
      have := nn_zero n2
      rw [Int.add_zero]
      exact nn_int hr this n1
    · by_cases z : 0 ≤ j2 * i1 - j1 * i2
      · have e := nn_int hr z (nn_scale (show 0 ≤ j1 + j2 by omega) n2)
        refine nn_un (g := j2) (by omega) ?_
        have e1 : (j1 + j2) * i2 + (j2 * i1 - j1 * i2) = j2 * (i1 + i2) := by grind
        have e2 : (j1 + j2) * j2 = j2 * (j1 + j2) := by grind
        rw [e1, e2] at e
        exact e
      · have e := nn_int hr (show 0 ≤ -(j2 * i1 - j1 * i2) by omega) (nn_scale (show 0 ≤ j1 + j2 by omega) n1)
        refine nn_un (g := j1) (by omega) ?_
        have e1 : (j1 + j2) * i1 + -(j2 * i1 - j1 * i2) = j1 * (i1 + i2) := by grind
        have e2 : (j1 + j2) * j1 = j1 * (j1 + j2) := by grind
        rw [e1, e2] at e
        exact e
theorem nn_mul {d n i j : Int} (hr : d ∈ roots) (h0 : 0 < n) (h1 : n * n < d) (h : NN d i j) : NN d (-n * i + d * j) (i - n * j) := by
  unfold NN
  rw [sgn_mul hr h0 h1]
  exact h
theorem fg_le {d b c f g : Int} (hd : d ∈ roots) (b0 : 0 ≤ b) (hf : IsFl d (b + c) f) (hg : IsFl d (b - c) g) : f + g ≤ 2 * b := by
  obtain ⟨m1, h1, e1⟩ := hf
  obtain ⟨m2, h2, e2⟩ := hg
  have k1 := (first_key (y := f) hd h1).mpr (by omega)
  have k2 := (first_key (y := g) hd h2).mpr (by omega)
  have k3 := nn_add hd k1 k2
  obtain ⟨m3, h3⟩ := isMul_ex (d := d) (f := 2 * b) hd
  have e3 : (b + c) * (tlT d 0).2.2 - f * (tlT d 0).1 + ((b - c) * (tlT d 0).2.2 - g * (tlT d 0).1) = 2 * b * (tlT d 0).2.2 - (f + g) * (tlT d 0).1 := by grind
  have e4 : -f + -g = -(f + g) := by omega
  rw [e3, e4] at k3
  have k4 := (first_key (y := f + g) hd h3).mp k3
  have k5 := fl_le hd ⟨m3, h3, rfl⟩
  omega
/-- the tails of two neighbouring places -/
structure TlRel (d a : Int) (z z' : Int × Int × Int) : Prop where
  j : z.2.1 = 1
  k : 0 < z.2.2
  k' : 0 < z'.2.2
  i' : 0 < z'.1
  sq : z'.1 * z'.1 < d
  s : z.1 + z'.1 = a * z.2.2
  p : d - z'.1 * z'.1 = z.2.2 * z'.2.2
theorem tl_two {d : Int} (hd : d ∈ roots) (n : Nat) : TlRel d (pt d n) (tlAt d n) (tlAt d (n + 1)) := by
  have h2 := Nat.mod_two_eq_zero_or_one n
  have c1 : ((n : Int) % (1 : Nat)) = 0 := Int.emod_one _
  have c2 : (((n : Int) + 1) % (1 : Nat)) = 0 := Int.emod_one _
  have n1 : n % 1 = 0 := Nat.mod_one n
  rcases roots_cases hd with rfl | rfl | rfl | rfl | rfl
  · have e1 : tlAt 2 n = (1, 1, 1) := rfl
    have e2 : tlAt 2 (n + 1) = (1, 1, 1) := rfl
    have e3 : pt 2 n = 2 := by
      show ([2] : List Int).getD (n % 1) 0 = 2
      rw [n1]
      rfl
    rw [e1, e2, e3]
    constructor <;> decide
  · have e0 : ∀ m : Nat, tlAt 3 (m : Int) = if m % 2 = 0 then (1, 1, 2) else (1, 1, 1) := fun m => by
      show (if ((m : Int) % (2 : Nat)) = 0 then _ else _) = _
      rcases Nat.mod_two_eq_zero_or_one m with h | h
      · rw [if_pos (by omega), if_pos h]
      · rw [if_neg (by omega), if_neg (by omega)]
    have e3 : pt 3 n = if n % 2 = 0 then 1 else 2 := by
      show ([1, 2] : List Int).getD (n % 2) 0 = _
      rcases h2 with h | h <;> rw [h] <;> rfl
    have e4 := e0 (n + 1)
    rw [show ((n + 1 : Nat) : Int) = (n : Int) + 1 by omega] at e4
    rcases h2 with h | h
    · have f1 : tlAt 3 n = (1, 1, 2) := by rw [e0 n, if_pos h]
      have f2 : tlAt 3 (n + 1) = (1, 1, 1) := by rw [e4, if_neg (by omega)]
      have f3 : pt 3 n = 1 := by rw [e3, if_pos h]
      rw [f1, f2, f3]
      constructor <;> decide
    · have f1 : tlAt 3 n = (1, 1, 1) := by rw [e0 n, if_neg (by omega)]
      have f2 : tlAt 3 (n + 1) = (1, 1, 2) := by rw [e4, if_pos (by omega)]
      have f3 : pt 3 n = 2 := by rw [e3, if_neg (by omega)]
      rw [f1, f2, f3]
      constructor <;> decide
  · have e1 : tlAt 5 n = (1, 1, 2) := rfl
    have e2 : tlAt 5 (n + 1) = (1, 1, 2) := rfl
    have e3 : pt 5 n = 1 := by
      show ([1] : List Int).getD (n % 1) 0 = 1
      rw [n1]
      rfl
    rw [e1, e2, e3]
    constructor <;> decide
  · have e0 : ∀ m : Nat, tlAt 6 (m : Int) = if m % 2 = 0 then (2, 1, 2) else (2, 1, 1) := fun m => by
      show (if ((m : Int) % (2 : Nat)) = 0 then _ else _) = _
      rcases Nat.mod_two_eq_zero_or_one m with h | h
      · rw [if_pos (by omega), if_pos h]
      · rw [if_neg (by omega), if_neg (by omega)]
    have e3 : pt 6 n = if n % 2 = 0 then 2 else 4 := by
      show ([2, 4] : List Int).getD (n % 2) 0 = _
      rcases h2 with h | h <;> rw [h] <;> rfl
    have e4 := e0 (n + 1)
    rw [show ((n + 1 : Nat) : Int) = (n : Int) + 1 by omega] at e4
    rcases h2 with h | h
    · have f1 : tlAt 6 n = (2, 1, 2) := by rw [e0 n, if_pos h]
      have f2 : tlAt 6 (n + 1) = (2, 1, 1) := by rw [e4, if_neg (by omega)]
      have f3 : pt 6 n = 2 := by rw [e3, if_pos h]
      rw [f1, f2, f3]
      constructor <;> decide
    · have f1 : tlAt 6 n = (2, 1, 1) := by rw [e0 n, if_neg (by omega)]
      have f2 : tlAt 6 (n + 1) = (2, 1, 2) := by rw [e4, if_pos (by omega)]
      have f3 : pt 6 n = 4 := by rw [e3, if_neg (by omega)]
      rw [f1, f2, f3]
      constructor <;> decide
  · have e1 : tlAt 13 n = (3, 1, 2) := rfl
    have e2 : tlAt 13 (n + 1) = (3, 1, 2) := rfl
    have e3 : pt 13 n = 3 := by
      show ([3] : List Int).getD (n % 1) 0 = 3
      rw [n1]
      rfl
    rw [e1, e2, e3]
    constructor <;> decide
/-- u - v z is from -(z + 1) S to (z + 1) S -/
def KW (d S u v : Int) (z : Int × Int × Int) : Prop := NN d ((z.1 + z.2.2) * S + (u * z.2.2 - v * z.1)) (S - v) ∧ NN d ((z.1 + z.2.2) * S - (u * z.2.2 - v * z.1)) (S + v)
theorem KW.zero {d S : Int} {z : Int × Int × Int} (hi : 0 ≤ z.1) (hk : 0 < z.2.2) (hS : 0 ≤ S) : KW d S 0 0 z := by
  have : NN d ((z.1 + z.2.2) * S) S := by
    unfold NN sgn
    rw [if_pos ⟨Int.mul_nonneg (by omega) hS, hS⟩]
    split <;> decide
  constructor
  · rw [Int.zero_mul, Int.zero_mul, Int.sub_self, Int.add_zero, Int.sub_zero]
    exact this
  · rw [Int.zero_mul, Int.zero_mul, Int.sub_self, Int.sub_zero, Int.add_zero]
    exact this
theorem KW.back {d a S t u' v' : Int} {z z' : Int × Int × Int} (hd : d ∈ roots) (R : TlRel d a z z') (h1 : -(a * S) ≤ t) (h2 : t ≤ a * S) (h : KW d S u' v' z') : KW d S (v' + a * u' + t) u' z := by
  obtain ⟨hp, hm⟩ := h
  obtain ⟨_, k0, k0', i0', sq, s, p⟩ := R
  obtain ⟨i, j, k⟩ := z
  obtain ⟨i', j', k'⟩ := z'
  dsimp only at *
  have kk := Int.mul_nonneg (Int.le_of_lt k0) (Int.le_of_lt k0')
  constructor
  · have e := nn_int hd (Int.mul_nonneg kk (show 0 ≤ a * S + t by omega)) (nn_mul hd i0' sq hm)
    refine nn_un (g := k') k0' ?_
    have e1 : -i' * ((i' + k') * S - (u' * k' - v' * i')) + d * (S + v') + k * k' * (a * S + t) = k' * ((i + k) * S + ((v' + a * u' + t) * k - u' * i)) := by grind
    have e2 : (i' + k') * S - (u' * k' - v' * i') - i' * (S + v') = k' * (S - u') := by grind
    rw [e1, e2] at e
    exact e
  · have e := nn_int hd (Int.mul_nonneg kk (show 0 ≤ a * S - t by omega)) (nn_mul hd i0' sq hp)
    refine nn_un (g := k') k0' ?_
    have e1 : -i' * ((i' + k') * S + (u' * k' - v' * i')) + d * (S - v') + k * k' * (a * S - t) = k' * ((i + k) * S - ((v' + a * u' + t) * k - u' * i)) := by grind
    have e2 : (i' + k') * S + (u' * k' - v' * i') - i' * (S - v') = k' * (S + u') := by grind
    rw [e1, e2] at e
    exact e
theorem tl_far {d : Int} (hd : d ∈ roots) (n : Nat) : NN d (3 * mxp d * (tlAt d n).2.2 - (tlAt d n).1 - (tlAt d n).2.2) (-1) := by
  have key : ∀ t : Int, t = 0 ∨ t = 1 → NN d (3 * mxp d * (tlT d t).2.2 - (tlT d t).1 - (tlT d t).2.2) (-1) := by
    intro t ht
    unfold NN
    rcases ht with rfl | rfl <;> (rcases roots_cases hd with rfl | rfl | rfl | rfl | rfl <;> decide)
  obtain ⟨l0, l2⟩ := per_len hd
  have h0 := Int.emod_nonneg (n : Int) (show ((per d).length : Int) ≠ 0 by omega)
  have h1 := Int.emod_lt_of_pos (n : Int) (show (0 : Int) < ((per d).length : Int) by omega)
  exact key _ (by omega)
theorem KW.kept {d S u v : Int} {n : Nat} (hd : d ∈ roots) (hS : 0 ≤ S) (hj : (tlAt d n).2.1 = 1) (h : KW d S u v (tlAt d n)) : inB d (3 * mxp d * S) u v (tlAt d n) = true := by
  obtain ⟨hp, hm⟩ := h
  have far := nn_scale hS (tl_far hd n)
  have a1 := nn_add hd hm far
  have a2 := nn_add hd hp far
  unfold inB
  generalize tlAt d n = z at *
  obtain ⟨i, j, k⟩ := z
  dsimp only at *
  subst hj
  generalize mxp d = M at *
  rw [Bool.and_eq_true, decide_eq_true_eq, decide_eq_true_eq]
  have e1 : (i + k) * S - (u * k - v * i) + S * (3 * M * k - i - k) = 3 * M * S * k - u * k + v * i := by grind
  have e2 : S + v + S * -1 = v * 1 := by grind
  have e3 : (i + k) * S + (u * k - v * i) + S * (3 * M * k - i - k) = 3 * M * S * k + u * k - v * i := by grind
  have e4 : S - v + S * -1 = -v * 1 := by grind
  rw [e1, e2] at a1
  rw [e3, e4] at a2
  exact ⟨a1, a2⟩
end nn
/-! ## lists of pairs and of rows; comprehensions with new things; sorted -/
section pairs
def PrV (H : Hp) (x : V) (p : Int × Int) : Prop := ∃ t, x = V.ref t ∧ H t = some (.tup [.int p.1, .int p.2])
def PrL (H : Hp) (xs : List V) (ps : List (Int × Int)) : Prop := Paired (PrV H) xs ps
def RwV (H : Hp) (x : V) (l : List Int) : Prop := ∃ t, x = V.ref t ∧ H t = some (.tup (l.map V.int))
def LsV (H : Hp) (x : V) (l : List Int) : Prop := ∃ t, x = V.ref t ∧ H t = some (.lst (l.map V.int))
theorem PrV.same {H H' : Hp} {x : V} {p : Int × Int} (s : Same H H') (h : PrV H x p) : PrV H' x p := by
  obtain ⟨t, e, h⟩ := h
  exact ⟨t, e, s _ _ h⟩
theorem PrV.ext {H H' : Hp} {x : V} {p : Int × Int} (s : Ext H H') (h : PrV H x p) : PrV H' x p := by
  obtain ⟨t, e, h⟩ := h
  exact ⟨t, e, s _ _ h rfl⟩
theorem RwV.same {H H' : Hp} {x : V} {p : List Int} (s : Same H H') (h : RwV H x p) : RwV H' x p := by
  obtain ⟨t, e, h⟩ := h
  exact ⟨t, e, s _ _ h⟩
theorem RwV.ext {H H' : Hp} {x : V} {p : List Int} (s : Ext H H') (h : RwV H x p) : RwV H' x p := by
  obtain ⟨t, e, h⟩ := h
  exact ⟨t, e, s _ _ h rfl⟩
theorem LsV.same {H H' : Hp} {x : V} {p : List Int} (s : Same H H') (h : LsV H x p) : LsV H' x p := by
  obtain ⟨t, e, h⟩ := h
  exact ⟨t, e, s _ _ h⟩
theorem PrL.same {H H' : Hp} {xs : List V} {ps : List (Int × Int)} (s : Same H H') (h : PrL H xs ps) : PrL H' xs ps := pimp h fun _ _ q => q.same s
theorem PrL.ext {H H' : Hp} {xs : List V} {ps : List (Int × Int)} (s : Ext H H') (h : PrL H xs ps) : PrL H' xs ps := pimp h fun _ _ q => q.ext s
theorem paired_get {α β : Type} {R : α → β → Prop} {xs : List α} {ys : List β} (h : Paired R xs ys) : ∀ {i : Nat} {x : α}, xs[i]? = some x → ∃ y, ys[i]? = some y ∧ R x y := by
  induction h with
  | nil => intro i x hx; simp at hx
  | cons a _ ih =>
    intro i x hx
    cases i with
    | zero =>
      cases hx
      exact ⟨_, rfl, a⟩
    | succ i => exact ih hx
theorem paired_mem {α β : Type} {R : α → β → Prop} {xs : List α} {ys : List β} (h : Paired R xs ys) {x : α} (hx : x ∈ xs) : ∃ y ∈ ys, R x y := by
  obtain ⟨i, hi⟩ := List.getElem?_of_mem hx
  obtain ⟨y, e, r⟩ := paired_get h hi
  exact ⟨y, List.mem_of_getElem? e, r⟩
theorem PrL.refs {H : Hp} {xs : List V} {ps : List (Int × Int)} (h : PrL H xs ps) : ∀ x ∈ xs, ∃ a, x = V.ref a := fun x hx => by
  obtain ⟨_, _, t, e, _⟩ := paired_mem h hx
  exact ⟨t, e⟩
theorem PrL.bag {H : Hp} {xs : List V} {ps : List (Int × Int)} (h : PrL H xs ps) : isBag (.lst xs) = false := bag_allref h.refs
def kOf (H : Hp) (x : V) : Int × Int := match x with
  | .ref t => match H t with
    | some (.tup [.int i, .int j]) => (i, j)
    | _ => (0, 0)
  | _ => (0, 0)
theorem PrV.k {H : Hp} {x : V} {p : Int × Int} (h : PrV H x p) : kOf H x = p := by
  obtain ⟨t, rfl, e⟩ := h
  unfold kOf
  dsimp only
  rw [e]
theorem PrL.map {H : Hp} {xs : List V} {ps : List (Int × Int)} (h : PrL H xs ps) : xs.map (kOf H) = ps := by
  unfold PrL at h
  induction h with
  | nil => rfl
  | cons a _ ih => rw [List.map_cons, ih, a.k]
theorem PrL.of {H : Hp} {ys xs : List V} {ps : List (Int × Int)} (h : PrL H xs ps) (hs : ∀ y ∈ ys, y ∈ xs) : PrL H ys (ys.map (kOf H)) := by
  induction ys with
  | nil => exact .nil
  | cons y ys ih =>
    refine .cons ?_ (ih fun z hz => hs z (List.mem_cons_of_mem _ hz))
    obtain ⟨p, _, r⟩ := paired_mem h (hs y (List.mem_cons_self ..))
    rw [r.k]
    exact r
theorem rd_sortP {K : PySem.W.Frag} {H : Hp} {Q : VK} {a : Addr} {xs : List V} {ps : List (Int × Int)} (h : SqL K H a xs) (hp : PrL H xs ps) (q : ∀ p ys qs H2, H p = none → Same H H2 → H2 p = some (.lst ys) → PrL H2 ys qs → IsSrt ps qs → Q (.ref p) H2) : rSortedPO K [.ref a] H Q := by
  refine ⟨a, xs, kOf H, rfl, h, fun x hx => ?_, fun ys p h1 h2 hn => q p ys (ys.map (kOf H)) _ hn (Same.new hn) upd_same ?_ ?_⟩
  · obtain ⟨p, _, r⟩ := paired_mem hp hx
    rw [r.k]
    exact r
  · exact PrL.same (Same.new hn) (PrL.of hp fun y hy => h2.perm.mem_iff.mp hy)
  · rw [← hp.map]
    exact ⟨SrtO.srtd_map h1, SrtO.Stb.map lex_swo (kOf H) h2⟩
/-- a comprehension that makes new things: turn i gives a thing that stands for F i, or nothing -/
theorem lc_rel {β : Type} {J : It} {n : Nat} {G : Hp → Prop} {Y : Nat → Hp → V → Hp → Prop} (wk : Walk J n G Y) {g : TG} {tt : TT} {te : TE} {vs : List Nat} {σ : L2.St} {H : Hp} {Q : VK} (hG : ∀ H', Same H H' → G H') (F : Nat → Option β) (R : Hp → V → β → Prop)
    (hR : ∀ D H H' v b, Keep D H H' → v ≠ .ref D → R H v b → R H' v b) (hn : n ≤ 100000)
    (hs : ∀ i x H2 H3 D (Q' : VK) (N' : Hp → Prop), i < n → Same H H2 → (∃ acc, H2 D = some (.lst acc)) → Y i H2 x H3 → (∀ v H4 b, F i = some b → Same H2 H4 → R H4 v b → v ≠ .ref D → Q' v H4) → (∀ H4, F i = none → Same H2 H4 → N' H4) →
      g x (wipe σ vs) H3 fun σ2 H4 => wipe σ2 vs = wipe σ vs ∧ tt σ2 H4 fun b H5 => if b = true then te σ2 H5 Q' else N' H5)
    (hd : ∀ D H' ys, H D = none → Same H H' → H' D = some (.lst ys) → Paired (R H') ys ((List.range n).filterMap F) → Q (.ref D) H') : LcB J g tt te vs σ H Q := by
  intro D hD
  have stay : ∀ {H2 : Hp} {o : HO}, Same H H2 → Same H (upd H2 D o) := fun {H2 o} s b u e => by
    rw [upd_ne (ne_of_none e hD)]
    exact s b u e
  refine lc_it wk (Pv := fun i H2 => Same H H2 ∧ ∃ ys, H2 D = some (.lst ys) ∧ (∀ y ∈ ys, y ≠ V.ref D) ∧ Paired (R H2) ys ((List.range i).filterMap F)) ⟨Same.new hD, [], upd_same, (fun y h => by cases h), .nil⟩ (fun i H2 _ p => hG _ p.1) (fun i x H2 H3 hi p y => ?_) (fun H2 p => ?_)
  · obtain ⟨p1, ys, p2, p3, p4⟩ := p
    have ln : ys.length ≤ i := by
      rw [p4.length]
      exact Nat.le_trans (List.length_filterMap_le _ _) (by rw [List.length_range]; exact Nat.le_refl _)
    refine hs i x H2 H3 D _ _ hi p1 ⟨_, p2⟩ y (fun v H4 b hf s4 r nv => ?_) (fun H4 hf s4 => ?_)
    · refine ⟨ys, s4 _ _ p2, sz_smaller (by omega), stay (p1.trans s4), ys ++ [v], upd_same, fun y hy => ?_, ?_⟩
      · rcases List.mem_append.mp hy with hy | hy
        · exact p3 y hy
        · rw [List.mem_singleton.mp hy]
          exact nv
      · rw [List.range_succ, List.filterMap_append, show List.filterMap F [i] = [b] by simp [hf]]
        have k4 : Keep D H4 (upd H4 D (.lst (ys ++ [v]))) := .chg Chg.of
        refine Paired.snoc ?_ (hR D _ _ _ _ k4 nv r)
        have k2 : Keep D H2 (upd H4 D (.lst (ys ++ [v]))) := (Keep.same s4).trans k4
        clear r k4 hf s4 hd hs ln
        generalize (List.range i).filterMap F = bs at p4
        clear p2
        revert k2
        generalize upd H4 D (.lst (ys ++ [v])) = H5
        intro k2
        induction p4 with
        | nil => exact .nil
        | cons a _ ih => exact .cons (hR D _ _ _ _ k2 (p3 _ (List.mem_cons_self ..)) a) (ih fun y hy => p3 y (List.mem_cons_of_mem _ hy))
    · refine ⟨p1.trans s4, ys, s4 _ _ p2, p3, ?_⟩
      rw [List.range_succ, List.filterMap_append, show List.filterMap F [i] = [] by simp [hf], List.append_nil]
      clear hf hd hs ln p2
      generalize (List.range i).filterMap F = bs at p4
      induction p4 with
      | nil => exact .nil
      | cons a _ ih => exact .cons (hR D _ _ _ _ (Keep.same s4) (p3 _ (List.mem_cons_self ..)) a) (ih fun y hy => p3 y (List.mem_cons_of_mem _ hy))
  · obtain ⟨p1, ys, p2, _, p4⟩ := p
    exact hd D H2 ys hD p1 p2 p4
theorem PrV.keep (D : Addr) (H H' : Hp) (v : V) (b : Int × Int) (k : Keep D H H') (n : v ≠ .ref D) (h : PrV H v b) : PrV H' v b := by
  obtain ⟨t, rfl, e⟩ := h
  exact ⟨t, rfl, k _ _ (fun z => n (by rw [z])) e⟩
theorem RwV.keep (D : Addr) (H H' : Hp) (v : V) (b : List Int) (k : Keep D H H') (n : v ≠ .ref D) (h : RwV H v b) : RwV H' v b := by
  obtain ⟨t, rfl, e⟩ := h
  exact ⟨t, rfl, k _ _ (fun z => n (by rw [z])) e⟩
theorem LsV.keep (D : Addr) (H H' : Hp) (v : V) (b : List Int) (k : Keep D H H') (n : v ≠ .ref D) (h : LsV H v b) : LsV H' v b := by
  obtain ⟨t, rfl, e⟩ := h
  exact ⟨t, rfl, k _ _ (fun z => n (by rw [z])) e⟩
theorem range_opt {α β : Type} (xs : List α) (f : α → Option β) : (List.range xs.length).filterMap (fun i => xs[i]?.bind f) = xs.filterMap f := by
  induction xs with
  | nil => rfl
  | cons x xs ih =>
    rw [List.length_cons, List.range_succ_eq_map, List.filterMap_cons, List.filterMap_map]
    have e : List.filterMap ((fun i => (x :: xs)[i]?.bind f) ∘ Nat.succ) (List.range xs.length) = xs.filterMap f := by
      rw [← ih]
      rfl
    rw [e]
    show (match (some x).bind f with | none => _ | some b => _) = _
    rw [List.filterMap_cons]
    rfl
/-- a comprehension over zip of two rows of ints -/
theorem zip_range (f : Int → Int → V) : ∀ (xs ys : List Int), (List.range (min xs.length ys.length)).filterMap (fun i => xs[i]?.bind fun x => ys[i]?.map fun y => f x y) = List.zipWith f xs ys
  | [], ys => by simp
  | x :: xs, [] => by simp
  | x :: xs, y :: ys => by
    rw [List.length_cons, List.length_cons, Nat.add_min_add_right, List.range_succ_eq_map, List.filterMap_cons, List.filterMap_map]
    have e : List.filterMap ((fun i => (x :: xs)[i]?.bind fun a => (y :: ys)[i]?.map fun b => f a b) ∘ Nat.succ) (List.range (min xs.length ys.length)) = List.zipWith f xs ys := by
      rw [← zip_range f xs ys]
      rfl
    rw [e]
    rfl
theorem lc_zipI {J : It} {n : Nat} {G : Hp → Prop} {xs ys : List Int} (wk : Walk J n G (YPair (fun i => (xs.map V.int)[i]?) (fun i => (ys.map V.int)[i]?))) (hn : n = min xs.length ys.length) {g : TG} {tt : TT} {te : TE} {vs : List Nat} {σ : L2.St} {H : Hp} {Q : VK} (hG : ∀ H', Same H H' → G H') (f : Int → Int → V) (hl : n ≤ 100000)
    (hs : ∀ x y T H2 H3 (Q' : VK) (N' : Hp → Prop), x ∈ xs → y ∈ ys → Same H H2 → Same H2 H3 → H3 T = some (.tup [.int x, .int y]) → (∀ H4, Same H3 H4 → Q' (f x y) H4) →
      g (.ref T) (wipe σ vs) H3 fun σ2 H4 => wipe σ2 vs = wipe σ vs ∧ tt σ2 H4 fun b H5 => if b = true then te σ2 H5 Q' else N' H5)
    (hd : ∀ D H', H D = none → Same H H' → H' D = some (.lst (List.zipWith f xs ys)) → Q (.ref D) H') : LcB J g tt te vs σ H Q := by
  subst hn
  refine lc_pure wk hG (fun i => xs[i]?.bind fun x => ys[i]?.map fun y => f x y) hl (fun i v H2 H3 Q' N' hi s2 y q1 q2 => ?_) (fun D H' nD s1 h1 => hd D H' nD s1 (by rw [h1, zip_range]))
  obtain ⟨T, x, z, rfl, nT, rfl, hx, hz⟩ := y
  dsimp only at hx hz
  rw [List.getElem?_map] at hx hz
  obtain ⟨x', ex, rfl⟩ := Option.map_eq_some_iff.mp hx
  obtain ⟨z', ez, rfl⟩ := Option.map_eq_some_iff.mp hz
  exact hs x' z' T H2 _ Q' N' (List.mem_of_getElem? ex) (List.mem_of_getElem? ez) s2 (Same.new nT) upd_same fun H4 s4 => q1 _ H4 (by rw [ex, ez]; rfl) ((Same.new nT).trans s4)
section
variable {K : PySem.W.Frag} {σ : L2.St} {H : Hp} {Q : VK} {te : TE}
theorem rd_dnewT (q : ∀ p H2, H p = none → Same H H2 → H2 p = some (.dT []) → Q (.ref p) H2) : tDNewT σ H Q := fun p hp => q p _ hp (Same.new hp) upd_same
theorem rd_setD {a b : Addr} {kvs : List (List Key × V)} {k : List Key} {v : V} {N : Hp → Prop} (h : H a = some (.dT kvs)) (hb : H b = some (.tup (k.map kV))) (hl : kvs.length < sizeLine) (hv : valV kvs k = none) (q : ∀ H2, Chg a H H2 → H2 a = some (.dT (kvs ++ [(k, v)])) → N H2) : rSetD (.ref a) (.ref b) v H N :=
  ⟨a, _, rfl, DPut.t h hb hl, q _ Chg.of (by rw [upd_same, putK_new _ hv])⟩
def WkR2 (vs : List V) (H : Hp) (R : It → Hp → Prop) : Prop := ∃ i j : Int, vs = [.int i, .int j] ∧ (-(2 ^ 62) ≤ i ∧ i < 2 ^ 62 ∧ -(2 ^ 62) ≤ j ∧ j < 2 ^ 62) ∧ R (Itr i (j - i).toNat) H
theorem rd_iRng2 {ta : TA} {R : It → Hp → Prop} (h : ta σ H fun vs H1 => WkR2 vs H1 R) : iRng2 ta σ H R := h
theorem rd_wkR2 {i j : Int} {R : It → Hp → Prop} (h1 : W 61 i) (h2 : W 61 j) (r : R (Itr i (j - i).toNat) H) : WkR2 [.int i, .int j] H R := by
  unfold W at h1 h2
  exact ⟨i, j, rfl, ⟨by omega, by omega, by omega, by omega⟩, r⟩
end
theorem dn_pairs {H : Hp} {l : Addr} {xs : List V} {ps : List (Int × Int)} (h : H l = some (.lst xs)) (hp : PrL H xs ps) (hl : ps.length ≤ 100000) : Dn 2 H (.ref l) (.list (ps.map fun p => .tuple [.int p.1, .int p.2])) := by
  refine Dn.lst (n := 1) h hp.bag ?_ (by rw [List.length_map]; exact hl)
  clear h hl
  unfold PrL at hp
  induction hp with
  | nil => exact .nil
  | cons a _ ih =>
    obtain ⟨t, rfl, e⟩ := a
    exact .cons (Dn.tup (n := 0) e (.cons (Dn.int _) (.cons (Dn.int _) .nil)) (by simp)) ih
end pairs
/-! ## promises of the carrying -/
section carry
theorem pt_at {d pl : Int} (hd : d ∈ roots) (h : 0 ≤ pl) : atI ((per d).map V.int) (pl % ((per d).length : Int)) = some (.int (pt d pl.toNat)) := by
  obtain ⟨h0, _⟩ := per_len hd
  have hl : pl.toNat % (per d).length < (per d).length := Nat.mod_lt _ h0
  have e : pl % ((per d).length : Int) = ((pl.toNat % (per d).length : Nat) : Int) := by
    rw [Int.natCast_emod, Int.toNat_of_nonneg h]
  rw [e]
  refine atI_nat ?_
  unfold pt
  rw [List.getElem?_map, List.getElem?_eq_getElem hl, List.getD_eq_getElem?_getD, List.getElem?_eq_getElem hl]
  rfl
def spStand (K : PySem.W.Frag) : Sp := fun vs H Q _ => ∃ (p : Addr) (d pl x y : Int), vs = [.ref p, .int pl, .int x, .int y] ∧ (∀ H, SqT K H p ((per d).map V.int)) ∧ d ∈ roots ∧ 0 ≤ pl ∧ x ≤ pt d pl.toNat ∧ (x = pt d pl.toNat → pl ≠ 0 ∧ y = 0) ∧ Q (.bl true) H
def spNext : Sp := fun vs H Q _ => ∃ (t : Addr) (u v part total : Int), vs = [.ref t, .int part, .int total] ∧ H t = some (.tup [.int u, .int v]) ∧ W 3000 v ∧ W 30 part ∧ ∀ p H', H p = none → Same H H' → H' p = some (.tup [.int (nextP part total (u, v)).1, .int (nextP part total (u, v)).2]) → Q (.ref p) H'
def firstP (d b c : Int) : List (Int × Int) := ((fromI (-(b + (c.natAbs : Int) + 1)) (2 * (b + (c.natAbs : Int) + 1) + 1).toNat).filter (fun v => inB d b (-c) v (tlAt d 0))).map fun v => (-c, v)
def spFirst (K : PySem.W.Frag) : Sp := fun vs H Q _ => ∃ (a l : Addr) (d b c : Int), vs = [.ref a, .int b, .ref l] ∧ FieldAt K H a d ∧ H l = some (.lst [.int c]) ∧ 0 ≤ b ∧ b ≤ 10000 ∧ c.natAbs ≤ 2000000 ∧ ∀ p ys H', H p = none → Same H H' → H' p = some (.tup ys) → PrL H' ys (firstP d b c) → Q (.ref p) H'
theorem fromI_succ (lo : Int) (n : Nat) : fromI lo (n + 1) = fromI lo n ++ [lo + n] := by
  unfold fromI
  rw [List.range_succ, List.map_append]
  rfl
def kvF (c lo : Int) (n : Nat) : List (List Key × V) := (fromI lo n).map fun v => ([.inl (-c), .inl v], V.bl true)
theorem kvF_new (c lo : Int) (n : Nat) : valV (kvF c lo n) [.inl (-c), .inl (lo + n)] = none := by
  unfold valV kvF
  rw [List.find?_eq_none.mpr]
  · rfl
  · intro x hx
    obtain ⟨v, hv, rfl⟩ := List.mem_map.mp hx
    rw [mem_fromI] at hv
    simp
    omega
theorem kvF_succ (c lo : Int) (n : Nat) : kvF c lo (n + 1) = kvF c lo n ++ [([.inl (-c), .inl (lo + n)], V.bl true)] := by
  unfold kvF
  rw [fromI_succ, List.map_append]
  rfl
theorem kvF_len (c lo : Int) (n : Nat) : (kvF c lo n).length = n := by
  unfold kvF fromI
  rw [List.length_map, List.length_map, List.length_range]
theorem keys_pr {H : Hp} {c lo : Int} {n : Nat} {bs : List Addr} (h : IsKeys H (kvF c lo n) bs) : PrL H (bs.map V.ref) ((fromI lo n).map fun v => (-c, v)) := by
  unfold kvF at h
  generalize fromI lo n = l at h
  unfold IsKeys at h
  induction l generalizing bs with
  | nil =>
    cases h
    exact .nil
  | cons x l ih =>
    cases h with
    | cons a h => exact .cons ⟨_, rfl, a⟩ (ih h)
theorem firstP_srt (c lo : Int) (n : Nat) : SrtO.Srtd SrtO.lexB ((fromI lo n).map fun v => (-c, v)) := by
  unfold SrtO.Srtd
  rw [List.pairwise_map]
  refine (fromI_asc lo n).imp fun {a b} h => SrtO.lexB_no.mpr ?_
  dsimp only
  omega
theorem PrL.keys {H : Hp} {xs : List V} {ps : List (Int × Int)} (h : PrL H xs ps) : xs.length = ps.length := Paired.length h
theorem firstP_eq {d b c f g : Int} (hd : d ∈ roots) (b0 : 0 ≤ b) (hf : IsFl d (b + c) f) (hg : IsFl d (b - c) g) : firstP d b c = (fromI (-f) (g + 1 - -f).toNat).map fun v => (-c, v) := by
  unfold firstP
  rw [first_list hd b0 hf hg]
theorem firstP_len {d b : Int} (c : Int) (hd : d ∈ roots) (b0 : 0 ≤ b) (hb : b ≤ 10000) : (firstP d b c).length ≤ 50000 := by
  obtain ⟨m1, h1⟩ := isMul_ex (d := d) (f := b + c) hd
  obtain ⟨m2, h2⟩ := isMul_ex (d := d) (f := b - c) hd
  have F1 : IsFl d (b + c) _ := ⟨m1, h1, rfl⟩
  have F2 : IsFl d (b - c) _ := ⟨m2, h2, rfl⟩
  have := fg_le hd b0 F1 F2
  rw [firstP_eq hd b0 F1 F2, List.length_map]
  unfold fromI
  rw [List.length_map, List.length_range]
  omega
/-- rows of digits, least place first: each digit can stand at its place behind the one in the row before -/
def LetOk (d : Int) (n : Nat) (L : List (List Int)) : Prop := ∀ (p : Nat) (l : List Int), L[p]? = some l → l.length = n ∧ ∀ (j : Nat) (x : Int), l[j]? = some x → 0 ≤ x ∧ x ≤ pt d p ∧ (x = pt d p → ∃ p' l', p = p' + 1 ∧ L[p']? = some l' ∧ l'[j]? = some 0)
def spCarried (K : PySem.W.Frag) : Sp := fun vs H Q _ => ∃ (a l lt : Addr) (d c : Int) (fs : List Int) (bl : Bool) (zs : List V) (L : List (List Int)), vs = [.ref a, .ref l, .int c, .ref lt] ∧ FieldAt K H a d ∧ H l = some (.lst (fs.map V.int)) ∧ fs.length ≤ 100 ∧ sumAbs fs ≤ 500 ∧ SqB K H bl lt zs ∧ Paired (RwV H) zs L ∧ LetOk d fs.length L ∧ L.length ≤ 600 ∧ c.natAbs ≤ 2000000 ∧
  ∀ p ys ps H', H p = none → Same H H' → H' p = some (.lst ys) → PrL H' ys ps → CarR d (bnd d fs) fs L (firstP d (bnd d fs) c) L.length ps → Q (.ref p) H'
theorem SqB.same {K : PySem.W.Frag} {H H' : Hp} {b : Bool} {a : Addr} {xs : List V} (s : Same H H') (h : SqB K H b a xs) : SqB K H' b a xs := by
  cases b
  · exact sq_l s h
  · exact SqT.same s h
theorem sumAbs_nn (fs : List Int) : 0 ≤ sumAbs fs := by
  induction fs with
  | nil => exact Int.le_refl 0
  | cons a l ih =>
    have e : sumAbs (a :: l) = (a.natAbs : Int) + sumAbs l := by
      unfold sumAbs
      rw [List.map_cons, List.sum_cons]
    omega
/-- the sum of factors times digits from 0 to 4 -/
theorem dotI_le : ∀ (fs l : List Int), (∀ x ∈ l, 0 ≤ x ∧ x ≤ 4) → ((dotI fs l).natAbs : Int) ≤ 4 * sumAbs fs
  | [], l, _ => by
    rw [show dotI [] l = 0 by unfold dotI; rw [List.zipWith_nil_left] <;> rfl]
    have := sumAbs_nn []
    omega
  | f :: fs, [], _ => by
    rw [show dotI (f :: fs) [] = 0 by unfold dotI; rw [List.zipWith_nil_right] <;> rfl]
    have := sumAbs_nn (f :: fs)
    omega
  | f :: fs, x :: l, h => by
    have ih := dotI_le fs l fun y hy => h y (List.mem_cons_of_mem _ hy)
    obtain ⟨x0, x1⟩ := h x (List.mem_cons_self ..)
    have e : dotI (f :: fs) (x :: l) = f * x + dotI fs l := by
      unfold dotI
      rw [List.zipWith_cons_cons, List.sum_cons]
    have e2 : sumAbs (f :: fs) = (f.natAbs : Int) + sumAbs fs := by
      unfold sumAbs
      rw [List.map_cons, List.sum_cons]
    have e3 : (f * x).natAbs = f.natAbs * x.natAbs := Int.natAbs_mul f x
    have e4 : f.natAbs * x.natAbs ≤ f.natAbs * 4 := Nat.mul_le_mul_left _ (by omega)
    rw [e, e2]
    omega
theorem bnd_le {d : Int} {fs : List Int} (hd : d ∈ roots) (h : sumAbs fs ≤ 500) : 0 ≤ bnd d fs ∧ bnd d fs ≤ 6000 := by
  have h0 := sumAbs_nn fs
  obtain ⟨m1, m2⟩ := mxp_le hd
  unfold bnd
  have e1 := Int.mul_le_mul (show 3 * mxp d ≤ 12 by omega) h h0 (by omega)
  have e2 := Int.mul_nonneg (show 0 ≤ 3 * mxp d by omega) h0
  omega
/-- the sizes of carried pairs -/
def PSz (n : Nat) (ps : List (Int × Int)) : Prop := ∀ p ∈ ps, W n p.1 ∧ W n p.2
theorem PSz.step {d b : Int} {fs l : List Int} {i n : Nat} {ps qs : List (Int × Int)} (hd : d ∈ roots) (h : PSz n ps) (hn : 14 ≤ n) (hl : ∀ x ∈ l, 0 ≤ x ∧ x ≤ 4) (hf : sumAbs fs ≤ 500) (hs : IsSrt (stepC d b fs i l ps) qs) : PSz (n + 3) qs := by
  intro q hq
  have hq := (hs.mem q).mp hq
  obtain ⟨hq, _⟩ := List.mem_filter.mp hq
  obtain ⟨p, hp, rfl⟩ := List.mem_map.mp hq
  obtain ⟨h1, h2⟩ := h p hp
  obtain ⟨t1, t2⟩ := pt_ok (i := i) hd
  have hd' := dotI_le fs l hl
  refine ⟨h2.mono (by omega), ?_⟩
  unfold W at *
  unfold nextP
  dsimp only
  have e : 2 ^ (n + 3) = 2 ^ n * 8 := by rw [Nat.pow_add]
  have e2 : 2 ^ 14 ≤ 2 ^ n := Nat.pow_le_pow_right (by decide) hn
  have e3 : (pt d i * p.2).natAbs = (pt d i).natAbs * p.2.natAbs := Int.natAbs_mul ..
  have e4 : (pt d i).natAbs * p.2.natAbs ≤ 4 * p.2.natAbs := Nat.mul_le_mul_right _ (by omega)
  rw [e]
  omega
theorem firstP_sz {d b c : Int} (b0 : 0 ≤ b) (hb : b ≤ 10000) (hc : c.natAbs ≤ 2000000) : PSz 22 (firstP d b c) := by
  intro p hp
  unfold firstP at hp
  obtain ⟨v, hv, rfl⟩ := List.mem_map.mp hp
  obtain ⟨hv, _⟩ := List.mem_filter.mp hv
  rw [mem_fromI] at hv
  unfold W
  dsimp only
  constructor <;> omega
theorem CarR.sz {d c : Int} {fs : List Int} {L : List (List Int)} (hd : d ∈ roots) (hf : sumAbs fs ≤ 500) (hc : c.natAbs ≤ 2000000) (hL : ∀ l ∈ L, ∀ x ∈ l, 0 ≤ x ∧ x ≤ 4) : ∀ {i : Nat} {ps : List (Int × Int)}, CarR d (bnd d fs) fs L (firstP d (bnd d fs) c) i ps → PSz (22 + 3 * i) ps
  | 0, ps, h => by
    obtain ⟨b0, b1⟩ := bnd_le hd hf
    rw [show ps = _ from h]
    exact firstP_sz b0 (by omega) hc
  | i + 1, ps, ⟨qs, h1, h2⟩ => by
    have ih := CarR.sz hd hf hc hL h1
    show PSz (22 + 3 * i + 3) ps
    refine PSz.step (n := 22 + 3 * i) hd ih (by omega) (fun x hx => ?_) hf h2
    by_cases z : i < L.length
    · rw [List.getD_eq_getElem?_getD, List.getElem?_eq_getElem z] at hx
      exact hL _ (List.getElem_mem z) x hx
    · rw [List.getD_eq_getElem?_getD, List.getElem?_eq_none (by omega)] at hx
      cases hx
theorem LetOk.small {d : Int} {n : Nat} {L : List (List Int)} (hd : d ∈ roots) (h : LetOk d n L) : ∀ l ∈ L, ∀ x ∈ l, 0 ≤ x ∧ x ≤ 4 := by
  intro l hl x hx
  obtain ⟨p, hp⟩ := List.getElem?_of_mem hl
  obtain ⟨j, hj⟩ := List.getElem?_of_mem hx
  obtain ⟨a, b, _⟩ := (h p l hp).2 j x hj
  have := (pt_ok (i := p) hd).2
  omega
theorem zeros_eq (fs : List Int) : (fs.map V.int).filterMap (fun _ => some (V.int 0)) = (List.replicate fs.length (0 : Int)).map V.int := by
  induction fs with
  | nil => rfl
  | cons a l ih =>
    rw [List.map_cons, List.filterMap_cons, ih, List.length_cons, List.replicate_succ, List.map_cons]
theorem dn_row {H : Hp} {t : Addr} {l : List Int} (h : H t = some (.tup (l.map V.int))) (hl : l.length ≤ 100000) : Dn 1 H (.ref t) (.tuple (l.map PyData.int)) := by
  refine Dn.tup (n := 0) h ?_ (by rw [List.length_map]; exact hl)
  clear h hl
  induction l with
  | nil => exact .nil
  | cons a l ih => exact .cons (Dn.int _) ih
theorem zip_ints (xs ys : List Int) : List.zipWith (fun x y => V.int (x * y)) xs ys = (List.zipWith (· * ·) xs ys).map V.int := by
  rw [List.map_zipWith]
theorem map_opt {α β : Type} (f : α → β) (l : List α) : l.filterMap (fun x => some (f x)) = l.map f := by
  induction l with
  | nil => rfl
  | cons a l ih => rw [List.filterMap_cons, List.map_cons, ih]
theorem filter_opt {α : Type} (p : α → Bool) (l : List α) : l.filterMap (fun x => if p x = true then some x else none) = l.filter p := by
  induction l with
  | nil => rfl
  | cons a l ih =>
    rw [List.filterMap_cons, List.filter_cons]
    by_cases z : p a = true
    · rw [if_pos z, if_pos z, ih]
    · rw [if_neg z, if_neg z, ih]
theorem fac_one {fs : List Int} {x : Int} (h : x ∈ fs) : (x.natAbs : Int) ≤ sumAbs fs := by
  induction fs with
  | nil => cases h
  | cons a l ih =>
    have e2 : sumAbs (a :: l) = (a.natAbs : Int) + sumAbs l := by
      unfold sumAbs
      rw [List.map_cons, List.sum_cons]
    have := sumAbs_nn l
    rcases List.mem_cons.mp h with rfl | h
    · omega
    · have := ih h
      omega
/-- between two turns of the loop over the letters -/
def CarInv (K : PySem.W.Frag) (H : Hp) (a l lt : Addr) (d c : Int) (fs : List Int) (L : List (List Int)) (i : Nat) (σ : L2.St) (H' : Hp) : Prop := ∃ (lb lp : Addr) (bf : List Int) (ys : List V) (ps : List (Int × Int)) (o7 o8 o9 o10 o11 o12 o13 o14 o15 : Option V),
  σ = [some (.ref a), some (.ref l), some (.int c), some (.ref lt), some (.int (bnd d fs)), some (.ref lb), some (.ref lp), o7, o8, o9, o10, o11, o12, o13, o14, o15] ∧ Same H H' ∧ H' lb = some (.lst (bf.map V.int)) ∧ (bf.length = fs.length ∧ ∀ j, i = j + 1 → L[j]? = some bf) ∧ H' lp = some (.lst ys) ∧ H lp = none ∧ PrL H' ys ps ∧ CarR d (bnd d fs) fs L (firstP d (bnd d fs) c) i ps
end carry
/-! ## the law's own digits and letters: promises -/
section letters
def stepsL (d : Int) (n : Nat) : List Int := (List.range (n + 1)).map (qs d)
theorem stepsL_succ (d : Int) (n : Nat) : stepsL d (n + 1) = stepsL d n ++ [qs d (n + 1)] := by
  unfold stepsL
  rw [List.range_succ, List.map_append]
  rfl
theorem stepsL_len (d : Int) (n : Nat) : (stepsL d n).length = n + 1 := by
  unfold stepsL
  rw [List.length_map, List.length_range]
theorem stepsL_last (d : Int) (n : Nat) : ∃ xs, (stepsL d n).map V.int = xs ++ [V.int (qs d n)] := by
  unfold stepsL
  rw [List.range_succ, List.map_append, List.map_append]
  exact ⟨_, rfl⟩
theorem atI_steps (d : Int) (n : Nat) : atI ((stepsL d n).map V.int) (-1) = some (.int (qs d n)) := by
  obtain ⟨xs, e⟩ := stepsL_last d n
  rw [e]
  exact atI_last xs _
theorem atI_last2 {α : Type} (xs : List α) (u v : α) : atI (xs ++ [u, v]) (-2) = some u := by
  have hl : (xs ++ [u, v]).length = xs.length + 2 := by simp
  have e : ixN (xs ++ [u, v]).length (-2) = some xs.length := by
    unfold ixN
    rw [hl, if_neg (by decide), if_pos (by omega)]
    congr 1
    omega
  unfold atI
  rw [e]
  show (xs ++ [u, v])[xs.length]? = some u
  rw [List.getElem?_append_right (Nat.le_refl _), Nat.sub_self]
  rfl
theorem atI_steps2 (d : Int) (n : Nat) : atI ((stepsL d (n + 1)).map V.int) (-2) = some (.int (qs d n)) := by
  obtain ⟨xs, e⟩ := stepsL_last d n
  rw [stepsL_succ, List.map_append, e, List.append_assoc]
  exact atI_last2 xs _ _
theorem qs_mono {d : Int} (hd : d ∈ roots) (n : Nat) : qs d n ≤ qs d (n + 1) := by
  obtain ⟨_, _, h⟩ := qs_ok hd (n + 1)
  exact h
theorem qs_two {d : Int} (hd : d ∈ roots) (n : Nat) : qs d (n + 1) + qs d n ≤ qs d (n + 2) := by
  obtain ⟨h1, h2, h3⟩ := qs_ok hd (n + 1)
  obtain ⟨p1, _⟩ := pt_ok (i := n + 1) hd
  rw [qs_succ d (n + 1), ql_succ]
  have := Int.mul_le_mul_of_nonneg_right p1 (show 0 ≤ qs d (n + 1) by omega)
  omega
theorem qs_five {d : Int} (hd : d ∈ roots) (n : Nat) : 5 * qs d n ≤ qs d (n + 4) := by
  have h1 := qs_two hd n
  have h2 : qs d (n + 2) + qs d (n + 1) ≤ qs d (n + 3) := qs_two hd (n + 1)
  have h3 : qs d (n + 3) + qs d (n + 2) ≤ qs d (n + 4) := qs_two hd (n + 2)
  have h4 := qs_mono hd n
  omega
theorem qs_pow {d : Int} (hd : d ∈ roots) : ∀ n : Nat, (5 : Int) ^ n ≤ qs d (4 * n)
  | 0 => Int.le_refl 1
  | n + 1 => by
    have ih := qs_pow hd n
    have := qs_five hd (4 * n)
    rw [Int.pow_succ]
    show _ ≤ qs d (4 * n + 4)
    omega
theorem qs_256 {d : Int} (hd : d ∈ roots) : (10 : Int) ^ 40 < qs d 256 := by
  have := qs_pow hd 64
  exact Int.lt_of_lt_of_le (by decide) this
def spLSteps : Sp := fun vs H Q _ => ∃ (d n : Int), vs = [.int d, .int n] ∧ d ∈ roots ∧ 0 ≤ n ∧ n ≤ 400 ∧ ∀ l H', H l = none → Same H H' → H' l = some (.lst ((stepsL d n.toNat).map V.int)) → Q (.ref l) H'
/-- ds: digits that can stand, with the value n -/
def DigOk (d n : Int) (ds : List Int) : Prop := Adm d ds ∧ vl d 0 ds = n ∧ ds.length ≤ 300
def spLDigits : Sp := fun vs H Q _ => ∃ (d n : Int), vs = [.int d, .int n] ∧ d ∈ roots ∧ 0 ≤ n ∧ n < 10 ^ 40 ∧ ∀ l ds H', H l = none → Same H H' → H' l = some (.lst (List.map V.int ds)) → DigOk d n ds → Q (.ref l) H'
theorem cut_last (xs : List V) (y : V) : cutV (xs ++ [y]) none (some (-1)) = xs := by
  unfold cutV
  have e1 : HT.sIx (xs ++ [y]).length 0 none = 0 := rfl
  have e2 : HT.sIx (xs ++ [y]).length (xs ++ [y]).length (some (-1)) = xs.length := by
    unfold HT.sIx
    dsimp only
    rw [if_pos (by decide), List.length_append, show ([y] : List V).length = 1 from rfl]
    omega
  rw [e1, e2, List.drop_zero, Nat.sub_zero, List.take_left]
theorem cut_take (xs : List V) (k : Nat) : cutV xs none (some (k : Int)) = xs.take k := by
  unfold cutV
  have e1 : HT.sIx xs.length 0 none = 0 := rfl
  rw [e1, HT.sIx_nat, List.drop_zero, Nat.sub_zero]
  by_cases z : k ≤ xs.length
  · rw [Nat.min_eq_left z]
  · rw [Nat.min_eq_right (by omega), List.take_length, List.take_of_length_le (by omega)]
theorem DigOk.zero {d n : Int} {ds : List Int} (h : DigOk d n (ds ++ [0])) : DigOk d n ds := by
  obtain ⟨h1, h2, h3⟩ := h
  refine ⟨adm_pre h1, ?_, ?_⟩
  · rw [vl_snoc, Int.zero_mul, Int.add_zero] at h2
    exact h2
  · rw [List.length_append] at h3
    omega
theorem rev_get {d : Int} {m i : Nat} {x : V} (h : ((stepsL d m).map V.int).reverse[i]? = some x) : i ≤ m ∧ x = .int (qs d (m - i)) := by
  have hl : i < ((stepsL d m).map V.int).reverse.length := (List.getElem?_eq_some_iff.mp h).1
  rw [List.length_reverse, List.length_map, stepsL_len] at hl
  refine ⟨by omega, ?_⟩
  rw [List.getElem?_reverse (by rw [List.length_map, stepsL_len]; omega), List.length_map, stepsL_len, List.getElem?_map] at h
  unfold stepsL at h
  rw [List.getElem?_map, List.getElem?_range (by omega)] at h
  injection h with h
  rw [← h, show m + 1 - 1 - i = m - i by omega]
theorem paired_ex {α β γ : Type} {R : α → γ → Prop} {S : β → γ → Prop} {xs : List α} {ys : List β} (h : Paired (fun a b => ∃ c, R a c ∧ S b c) xs ys) : ∃ cs, Paired R xs cs ∧ Paired S ys cs := by
  induction h with
  | nil => exact ⟨[], .nil, .nil⟩
  | cons a _ ih =>
    obtain ⟨c, r, s⟩ := a
    obtain ⟨cs, h1, h2⟩ := ih
    exact ⟨c :: cs, .cons r h1, .cons s h2⟩
theorem paired_int {xs : List V} {is : List Int} (h : Paired (fun v i => v = V.int i) xs is) : xs = is.map V.int := by
  induction h with
  | nil => rfl
  | cons a _ ih => rw [a, ih, List.map_cons]
/-- the letters of rows of digits -/
def letL (dss : List (List Int)) (m : Nat) : List (List Int) := (List.range m).map fun p => dss.map fun ds => ds.getD p 0
def spLLetters : Sp := fun vs H Q _ => ∃ (d : Int) (ln : Addr) (ns : List Int), vs = [.int d, .ref ln] ∧ d ∈ roots ∧ H ln = some (.lst (ns.map V.int)) ∧ ns.length ≤ 100 ∧ (∀ n ∈ ns, 0 ≤ n ∧ n < 10 ^ 40) ∧
  ∀ l zs dss m H', H l = none → Same H H' → H' l = some (.lst zs) → Paired (RwV H') zs (letL dss m) → Paired (DigOk d) ns dss → (∀ ds ∈ dss, ds.length ≤ m) → m ≤ 300 → Q (.ref l) H'
theorem letL_ok {d : Int} {ns : List Int} {dss : List (List Int)} {m : Nat} (hd : d ∈ roots) (h : Paired (DigOk d) ns dss) : LetOk d ns.length (letL dss m) := by
  intro p l hp
  unfold letL at hp ⊢
  rw [List.getElem?_map] at hp
  obtain ⟨p', e1, e2⟩ := Option.map_eq_some_iff.mp hp
  obtain ⟨hpm, e1⟩ := List.getElem?_eq_some_iff.mp e1
  rw [List.getElem_range] at e1
  subst e1 e2
  rw [List.length_range] at hpm
  refine ⟨by rw [List.length_map, h.length], fun j x hx => ?_⟩
  rw [List.getElem?_map] at hx
  obtain ⟨ds, e3, e4⟩ := Option.map_eq_some_iff.mp hx
  have hD : Adm d ds := by
    have hj : j < ns.length := by
      rw [h.length]
      exact (List.getElem?_eq_some_iff.mp e3).1
    obtain ⟨y, e5, r⟩ := paired_get h (List.getElem?_eq_getElem hj)
    rw [e3] at e5
    cases e5
    exact r.1
  by_cases z : p < ds.length
  · rw [List.getD_eq_getElem?_getD, List.getElem?_eq_getElem z] at e4
    have e4 : ds[p] = x := e4
    obtain ⟨a, b, c⟩ := hD p x (by rw [List.getElem?_eq_getElem z, e4])
    refine ⟨a, b, fun e => ?_⟩
    obtain ⟨q, e5, e6⟩ := c e
    refine ⟨q, dss.map fun ds => ds.getD q 0, e5, ?_, ?_⟩
    · rw [List.getElem?_map, List.getElem?_range (by omega)]
      rfl
    · rw [List.getElem?_map, e3]
      show some (ds.getD q 0) = some 0
      rw [List.getD_eq_getElem?_getD, e6]
      rfl
  · rw [List.getD_eq_getElem?_getD, List.getElem?_eq_none (by omega)] at e4
    have e4 : (0 : Int) = x := e4
    have := (pt_ok (i := p) hd).1
    refine ⟨by omega, by omega, fun e => by omega⟩
theorem LetOk.take {d : Int} {n : Nat} {L : List (List Int)} (h : LetOk d n L) (k : Nat) : LetOk d n (L.take k) := by
  intro p l hp
  have hk : p < k := by
    have := (List.getElem?_eq_some_iff.mp hp).1
    rw [List.length_take] at this
    omega
  rw [List.getElem?_take_of_lt hk] at hp
  obtain ⟨h1, h2⟩ := h p l hp
  refine ⟨h1, fun j x hx => ?_⟩
  obtain ⟨a, b, c⟩ := h2 j x hx
  refine ⟨a, b, fun e => ?_⟩
  obtain ⟨p', l', e1, e2, e3⟩ := c e
  exact ⟨p', l', e1, by rw [List.getElem?_take_of_lt (by omega)]; exact e2, e3⟩
theorem fm_first (lo : Int) (p : Int → Bool) (g : Int → Int × Int) (n : Nat) : (List.range n).filterMap (fun i => if p (lo + (i : Nat)) = true then some (g (lo + (i : Nat))) else none) = ((fromI lo n).filter p).map g := by
  unfold fromI
  induction n with
  | zero => rfl
  | succ n ih =>
    rw [List.range_succ, List.filterMap_append, ih, List.map_append, List.filter_append, List.map_append]
    congr 1
    show List.filterMap _ [n] = _
    by_cases z : p (lo + (n : Nat)) = true
    · simp [z]
    · simp [z]
theorem dn_ints {H : Hp} {t : Addr} {l : List Int} (h : H t = some (.lst (l.map V.int))) (hl : l.length ≤ 100000) : Dn 1 H (.ref t) (.list (l.map PyData.int)) := by
  refine Dn.lst (n := 0) h (bag_ints _) ?_ (by rw [List.length_map]; exact hl)
  clear h hl
  induction l with
  | nil => exact .nil
  | cons a l ih => exact .cons (Dn.int _) ih
theorem eqv_nilI (l : List Int) : PyData.eqv (.list (l.map PyData.int)) (.list []) = l.isEmpty := by cases l <;> rfl
def spLPairs (K : PySem.W.Frag) : Sp := fun vs H Q _ => ∃ (l lt : Addr) (d c : Int) (fs : List Int) (zs : List V) (L : List (List Int)), vs = [.int d, .ref l, .int c, .ref lt] ∧ d ∈ roots ∧ H l = some (.lst (fs.map V.int)) ∧ fs.length ≤ 100 ∧ sumAbs fs ≤ 500 ∧ H lt = some (.lst zs) ∧ Paired (RwV H) zs L ∧ LetOk d fs.length L ∧ L.length ≤ 300 ∧ c.natAbs ≤ 10000 ∧
  ∀ p ys ps H', H p = none → Same H H' → H' p = some (.lst ys) → PrL H' ys ps → CarR d (bnd d fs) fs L (firstP d (bnd d fs) c) L.length ps → Q (.ref p) H'
/-- between two turns of the law's loop over the places -/
def LPInv (H : Hp) (l lt lq : Addr) (d c : Int) (fs : List Int) (L : List (List Int)) (i : Nat) (σ : L2.St) (H' : Hp) : Prop := ∃ (lp : Addr) (ys : List V) (ps : List (Int × Int)) (o8 o9 o10 o11 o12 o13 o14 o15 o16 : Option V),
  σ = [some (.int d), some (.ref l), some (.int c), some (.ref lt), some (.int (bnd d fs)), some (.int (bnd d fs + (c.natAbs : Int) + 1)), some (.ref lp), some (.ref lq), o8, o9, o10, o11, o12, o13, o14, o15, o16] ∧ Same H H' ∧ H' lq = some (.lst ((per d).map V.int)) ∧ H' lp = some (.lst ys) ∧ H lp = none ∧ PrL H' ys ps ∧ CarR d (bnd d fs) fs L (firstP d (bnd d fs) c) i ps
end letters
/-! ## equations by two carried numbers: plain mathematics -/
section eqn
def soFar (d : Int) (fs : List Int) (L : List (List Int)) (c : Int) : Nat → Int
  | 0 => c
  | n + 1 => soFar d fs L c n + qs d n * dotI fs (L.getD n [])
theorem car_eq {d b c : Int} {fs : List Int} {L : List (List Int)} : ∀ {n : Nat} {ps : List (Int × Int)}, CarR d b fs L (firstP d b c) n ps → ∀ p ∈ ps, p.1 * qs d n + p.2 * ql d n + soFar d fs L c n = 0
  | 0, ps, h, p, hp => by
    rw [show ps = firstP d b c from h] at hp
    unfold firstP at hp
    obtain ⟨v, _, rfl⟩ := List.mem_map.mp hp
    show -c * 1 + v * 0 + c = 0
    omega
  | n + 1, ps, ⟨qs', h1, h2⟩, p, hp => by
    have hp := (h2.mem p).mp hp
    obtain ⟨hp, _⟩ := List.mem_filter.mp hp
    obtain ⟨q, hq, rfl⟩ := List.mem_map.mp hp
    have ih := car_eq h1 q hq
    rw [qs_succ, ql_succ]
    show q.2 * (pt d n * qs d n + ql d n) + (q.1 - pt d n * q.2 - dotI fs (L.getD n [])) * qs d n + (soFar d fs L c n + qs d n * dotI fs (L.getD n [])) = 0
    grind
def prevP (a t : Int) (p : Int × Int) : Int × Int := (p.2 + a * p.1 + t, p.1)
def bkP (d : Int) (fs : List Int) (L : List (List Int)) (N : Nat) : Nat → Int × Int
  | 0 => (0, 0)
  | k + 1 => prevP (pt d (N - k - 1)) (dotI fs (L.getD (N - k - 1) [])) (bkP d fs L N k)
theorem bk_eq {d c : Int} {fs : List Int} {L : List (List Int)} {N : Nat} : ∀ k, k ≤ N → (bkP d fs L N k).1 * qs d (N - k) + (bkP d fs L N k).2 * ql d (N - k) + soFar d fs L c (N - k) = soFar d fs L c N
  | 0, _ => by
    show 0 * _ + 0 * _ + soFar d fs L c (N - 0) = _
    rw [Int.zero_mul, Int.zero_mul, Nat.sub_zero]
    omega
  | k + 1, hk => by
    have ih := bk_eq (d := d) (c := c) (fs := fs) (L := L) (N := N) k (by omega)
    obtain ⟨n, hn⟩ : ∃ n, N - k = n + 1 := ⟨N - k - 1, by omega⟩
    rw [hn, qs_succ, ql_succ] at ih
    rw [show N - (k + 1) = n by omega, ← ih]
    show ((bkP d fs L N k).2 + pt d (N - k - 1) * (bkP d fs L N k).1 + dotI fs (L.getD (N - k - 1) [])) * qs d n + (bkP d fs L N k).1 * ql d n + soFar d fs L c n = _ + (soFar d fs L c n + qs d n * dotI fs (L.getD n []))
    rw [show N - k - 1 = n by omega]
    grind
theorem dotI_leM (m : Int) : ∀ (fs l : List Int), 0 ≤ m → (∀ x ∈ l, 0 ≤ x ∧ x ≤ m) → ((dotI fs l).natAbs : Int) ≤ m * sumAbs fs
  | [], l, h0, _ => by
    rw [show dotI [] l = 0 by unfold dotI; rw [List.zipWith_nil_left] <;> rfl]
    have := Int.mul_nonneg h0 (sumAbs_nn [])
    omega
  | f :: fs, [], h0, _ => by
    rw [show dotI (f :: fs) [] = 0 by unfold dotI; rw [List.zipWith_nil_right] <;> rfl]
    have := Int.mul_nonneg h0 (sumAbs_nn (f :: fs))
    omega
  | f :: fs, x :: l, h0, h => by
    have ih := dotI_leM m fs l h0 fun y hy => h y (List.mem_cons_of_mem _ hy)
    obtain ⟨x0, x1⟩ := h x (List.mem_cons_self ..)
    have e : dotI (f :: fs) (x :: l) = f * x + dotI fs l := by
      unfold dotI
      rw [List.zipWith_cons_cons, List.sum_cons]
    have e2 : sumAbs (f :: fs) = (f.natAbs : Int) + sumAbs fs := by
      unfold sumAbs
      rw [List.map_cons, List.sum_cons]
    have e3 : (((f * x).natAbs : Nat) : Int) = (f.natAbs : Int) * x := by
      rw [Int.natAbs_mul, Int.natCast_mul, Int.natAbs_of_nonneg x0]
    have e4 : (f.natAbs : Int) * x ≤ (f.natAbs : Int) * m := Int.mul_le_mul_of_nonneg_left x1 (by omega)
    rw [e, e2, Int.mul_add, Int.mul_comm m (f.natAbs : Int)]
    omega
theorem bk_kw {d : Int} {fs : List Int} {L : List (List Int)} {N : Nat} (hd : d ∈ roots) (hL : LetOk d fs.length L) : ∀ k, k ≤ N → KW d (sumAbs fs) (bkP d fs L N k).1 (bkP d fs L N k).2 (tlAt d ((N - k : Nat) : Int))
  | 0, _ => by
    obtain ⟨_, k0, _, _, _, _, _⟩ := tl_two hd N
    refine KW.zero ?_ (by rw [Nat.sub_zero]; exact k0) (sumAbs_nn fs)
    have := tl_facts (t := (N : Int) % ((per d).length : Int)) hd
    rw [Nat.sub_zero]
    have key : ∀ t : Int, 0 ≤ (tlT d t).1 := fun t => by
      by_cases z : t = 0
      · subst z
        rcases roots_cases hd with rfl | rfl | rfl | rfl | rfl <;> decide
      · rcases roots_cases hd with rfl | rfl | rfl | rfl | rfl <;> simp [tlT, z]
    exact key _
  | k + 1, hk => by
    have ih := bk_kw (L := L) (N := N) hd hL k (by omega)
    obtain ⟨n, hn⟩ : ∃ n, N - k = n + 1 := ⟨N - k - 1, by omega⟩
    rw [hn] at ih
    rw [show N - (k + 1) = n by omega]
    have R := tl_two hd n
    have dig : ∀ x ∈ L.getD n [], 0 ≤ x ∧ x ≤ pt d n := fun x hx => by
      by_cases z : n < L.length
      · rw [List.getD_eq_getElem?_getD, List.getElem?_eq_getElem z] at hx
        obtain ⟨j, hj⟩ := List.getElem?_of_mem hx
        obtain ⟨a, b, _⟩ := (hL n _ (List.getElem?_eq_getElem z)).2 j x hj
        exact ⟨a, b⟩
      · rw [List.getD_eq_getElem?_getD, List.getElem?_eq_none (by omega)] at hx
        cases hx
    have le := dotI_leM (pt d n) fs (L.getD n []) (by have := pt_ok (i := n) hd; omega) dig
    have := KW.back (S := sumAbs fs) (u' := (bkP d fs L N k).1) (v' := (bkP d fs L N k).2) (t := dotI fs (L.getD n [])) hd R (by omega) (by omega) (by rw [show ((n + 1 : Nat) : Int) = (n : Int) + 1 by omega] at ih; exact ih)
    show KW d (sumAbs fs) ((bkP d fs L N k).2 + pt d (N - k - 1) * (bkP d fs L N k).1 + dotI fs (L.getD (N - k - 1) [])) (bkP d fs L N k).1 _
    rw [show N - k - 1 = n by omega]
    exact this
theorem bk_in {d : Int} {fs : List Int} {L : List (List Int)} {N n : Nat} (hd : d ∈ roots) (hL : LetOk d fs.length L) (hn : n ≤ N) : inB d (bnd d fs) (bkP d fs L N (N - n)).1 (bkP d fs L N (N - n)).2 (tlAt d (n : Int)) = true := by
  have h := bk_kw (N := N) hd hL (N - n) (by omega)
  rw [show N - (N - n) = n by omega] at h
  exact h.kept hd (sumAbs_nn fs) (tl_two hd n).j
theorem bk_mem {d c : Int} {fs : List Int} {L : List (List Int)} {N : Nat} (hd : d ∈ roots) (hsum : sumAbs fs ≤ 500) (hL : LetOk d fs.length L) (h0 : soFar d fs L c N = 0) : ∀ {n : Nat} {ps : List (Int × Int)}, n ≤ N → CarR d (bnd d fs) fs L (firstP d (bnd d fs) c) n ps → bkP d fs L N (N - n) ∈ ps
  | 0, ps, hn, h => by
    rw [show ps = firstP d (bnd d fs) c from h, Nat.sub_zero]
    obtain ⟨b0, _⟩ := bnd_le hd hsum
    obtain ⟨m1, h1⟩ := isMul_ex (d := d) (f := bnd d fs + c) hd
    obtain ⟨m2, h2⟩ := isMul_ex (d := d) (f := bnd d fs - c) hd
    have F1 : IsFl d (bnd d fs + c) _ := ⟨m1, h1, rfl⟩
    have F2 : IsFl d (bnd d fs - c) _ := ⟨m2, h2, rfl⟩
    have e := bk_eq (d := d) (c := c) (fs := fs) (L := L) N (Nat.le_refl N)
    rw [Nat.sub_self, h0] at e
    have e : (bkP d fs L N N).1 * 1 + (bkP d fs L N N).2 * 0 + c = 0 := e
    have k := bk_in (N := N) (n := 0) hd hL (Nat.zero_le _)
    rw [Nat.sub_zero] at k
    have e1 : (bkP d fs L N N).1 = -c := by omega
    rw [e1] at k
    have k := (first_law hd F1 F2 _).mp k
    rw [firstP_eq hd b0 F1 F2]
    refine List.mem_map.mpr ⟨(bkP d fs L N N).2, mem_fromI.mpr (by omega), ?_⟩
    rw [← e1]
  | n + 1, ps, hn, ⟨qs', h1, h2⟩ => by
    have ih := bk_mem hd hsum hL h0 (show n ≤ N by omega) h1
    refine (h2.mem _).mpr (List.mem_filter.mpr ⟨List.mem_map.mpr ⟨_, ih, ?_⟩, ?_⟩)
    · obtain ⟨k, hk⟩ : ∃ k, N - n = k + 1 := ⟨N - n - 1, by omega⟩
      rw [hk, show N - (n + 1) = k by omega]
      show nextP _ _ (prevP (pt d (N - k - 1)) (dotI fs (L.getD (N - k - 1) [])) (bkP d fs L N k)) = _
      rw [show N - k - 1 = n by omega]
      unfold nextP prevP
      dsimp only
      refine Prod.ext rfl ?_
      show _ = _
      dsimp only
      omega
    · have := bk_in (N := N) (n := n + 1) hd hL hn
      rw [show ((n + 1 : Nat) : Int) = (n : Int) + 1 by omega] at this
      exact this
theorem eq_law {d c : Int} {fs : List Int} {L : List (List Int)} {ps : List (Int × Int)} (hd : d ∈ roots) (hsum : sumAbs fs ≤ 500) (hL : LetOk d fs.length L) (h : CarR d (bnd d fs) fs L (firstP d (bnd d fs) c) L.length ps) : (0, 0) ∈ ps ↔ soFar d fs L c L.length = 0 := by
  constructor
  · intro hm
    have := car_eq h _ hm
    rw [Int.zero_mul, Int.zero_mul] at this
    omega
  · intro h0
    have := bk_mem hd hsum hL h0 (Nat.le_refl _) h
    rw [Nat.sub_self] at this
    exact this
/-! ### the sum by the digits -/
def vq (d : Int) (ds : List Int) : Nat → Int
  | 0 => 0
  | m + 1 => vq d ds m + qs d m * ds.getD m 0
theorem vq_take (d : Int) (ds : List Int) : ∀ m, vq d ds m = vl d 0 (ds.take m)
  | 0 => rfl
  | m + 1 => by
    show vq d ds m + _ = _
    rw [vq_take d ds m]
    by_cases z : m < ds.length
    · rw [List.take_succ_eq_append_getElem z, vl_snoc, List.length_take, Nat.min_eq_left (by omega), Nat.zero_add, List.getD_eq_getElem?_getD, List.getElem?_eq_getElem z, Int.mul_comm]
      rfl
    · rw [List.take_of_length_le (by omega), List.take_of_length_le (by omega), List.getD_eq_getElem?_getD, List.getElem?_eq_none (by omega)]
      show _ + _ * 0 = _
      omega
theorem dotI_lin (d q : Int) (a b : List Int → Int) : ∀ (fs : List Int) (dss : List (List Int)), dotI fs (dss.map fun ds => a ds + q * b ds) = dotI fs (dss.map a) + q * dotI fs (dss.map b)
  | [], dss => by
    unfold dotI
    rw [List.zipWith_nil_left, List.zipWith_nil_left, List.zipWith_nil_left]
    show (0 : Int) = 0 + q * 0
    omega
  | f :: fs, [] => by
    unfold dotI
    rw [List.map_nil, List.map_nil, List.map_nil, List.zipWith_nil_right]
    show (0 : Int) = 0 + q * 0
    omega
  | f :: fs, ds :: dss => by
    have ih := dotI_lin d q a b fs dss
    have e : ∀ (x : Int) (l : List Int), dotI (f :: fs) (x :: l) = f * x + dotI fs l := fun x l => by
      unfold dotI
      rw [List.zipWith_cons_cons, List.sum_cons]
    rw [List.map_cons, List.map_cons, List.map_cons, e, e, e, ih]
    grind
theorem dotI_zero : ∀ (fs : List Int) (n : Nat), dotI fs (List.replicate n 0) = 0
  | [], n => by
    unfold dotI
    rw [List.zipWith_nil_left]
    rfl
  | f :: fs, 0 => by
    unfold dotI
    rw [List.replicate_zero, List.zipWith_nil_right]
    rfl
  | f :: fs, n + 1 => by
    have ih := dotI_zero fs n
    unfold dotI at *
    rw [List.replicate_succ, List.zipWith_cons_cons, List.sum_cons, ih, Int.mul_zero, Int.add_zero]
theorem dotI_map0 (fs : List Int) (dss : List (List Int)) : dotI fs (dss.map fun _ => 0) = 0 := by
  rw [List.map_const']
  exact dotI_zero fs _
/-- letters, and letters of zeros behind them -/
def letZ (dss : List (List Int)) (m z n : Nat) : List (List Int) := letL dss m ++ List.replicate z (List.replicate n (0 : Int))
theorem letZ_get {dss : List (List Int)} {m z n p : Nat} : (letZ dss m z n).getD p [] = if p < m then dss.map (fun ds => ds.getD p 0) else if p < m + z then List.replicate n 0 else [] := by
  have lm : (letL dss m).length = m := by
    unfold letL
    rw [List.length_map, List.length_range]
  unfold letZ
  rw [List.getD_eq_getElem?_getD]
  by_cases h : p < m
  · rw [if_pos h, List.getElem?_append_left (by omega)]
    unfold letL
    rw [List.getElem?_map, List.getElem?_range h]
    rfl
  · rw [if_neg h, List.getElem?_append_right (by omega), lm]
    by_cases g : p < m + z
    · rw [if_pos g, List.getElem?_replicate_of_lt (by omega)]
      rfl
    · rw [if_neg g, List.getElem?_eq_none (by rw [List.length_replicate]; omega)]
      rfl
theorem soFar_letZ {d c : Int} {fs : List Int} {dss : List (List Int)} {m z n : Nat} : ∀ k, k ≤ m → soFar d fs (letZ dss m z n) c k = c + dotI fs (dss.map fun ds => vq d ds k)
  | 0, _ => by
    show c = c + dotI fs (dss.map fun ds => 0)
    rw [dotI_map0]
    omega
  | k + 1, hk => by
    show soFar d fs (letZ dss m z n) c k + qs d k * dotI fs ((letZ dss m z n).getD k []) = c + dotI fs (dss.map fun ds => vq d ds k + qs d k * ds.getD k 0)
    rw [soFar_letZ k (by omega), letZ_get, if_pos (by omega), dotI_lin d]
    omega
theorem soFar_zeros {d c : Int} {fs : List Int} {dss : List (List Int)} {m z n : Nat} : ∀ k, m ≤ k → k ≤ m + z → soFar d fs (letZ dss m z n) c k = c + dotI fs (dss.map fun ds => vq d ds m)
  | 0, h, _ => by
    obtain rfl : m = 0 := by omega
    exact soFar_letZ 0 (Nat.le_refl 0)
  | k + 1, h, h2 => by
    by_cases e : m = k + 1
    · subst e
      exact soFar_letZ _ (Nat.le_refl _)
    · show soFar d fs (letZ dss m z n) c k + qs d k * dotI fs ((letZ dss m z n).getD k []) = _
      rw [soFar_zeros k (by omega) (by omega), letZ_get, if_neg (by omega), if_pos (by omega), dotI_zero]
      omega
theorem vals_of {d : Int} {m : Nat} {ns : List Int} {dss : List (List Int)} (h : Paired (DigOk d) ns dss) (hm : ∀ ds ∈ dss, ds.length ≤ m) : dss.map (fun ds => vq d ds m) = ns := by
  induction h with
  | nil => rfl
  | cons a _ ih =>
    rw [List.map_cons, ih fun ds hds => hm ds (List.mem_cons_of_mem _ hds), vq_take, List.take_of_length_le (hm _ (List.mem_cons_self ..)), a.2.1]
theorem soFar_all {d c : Int} {fs ns : List Int} {dss : List (List Int)} {m z n : Nat} (h : Paired (DigOk d) ns dss) (hm : ∀ ds ∈ dss, ds.length ≤ m) : soFar d fs (letZ dss m z n) c (m + z) = c + dotI fs ns := by
  rw [soFar_zeros (m + z) (by omega) (Nat.le_refl _), vals_of h hm]
theorem letZ_ok {d : Int} {ns : List Int} {dss : List (List Int)} {m z : Nat} (hd : d ∈ roots) (h : Paired (DigOk d) ns dss) : LetOk d ns.length (letZ dss m z ns.length) := by
  have lm : (letL dss m).length = m := by
    unfold letL
    rw [List.length_map, List.length_range]
  have LO := letL_ok (m := m) hd h
  intro p l hp
  unfold letZ at hp ⊢
  by_cases hpm : p < m
  · rw [List.getElem?_append_left (by omega)] at hp
    obtain ⟨a, b⟩ := LO p l hp
    refine ⟨a, fun j x hx => ?_⟩
    obtain ⟨x0, x1, x2⟩ := b j x hx
    refine ⟨x0, x1, fun e => ?_⟩
    obtain ⟨p', l', e1, e2, e3⟩ := x2 e
    exact ⟨p', l', e1, by rw [List.getElem?_append_left (by omega)]; exact e2, e3⟩
  · rw [List.getElem?_append_right (by omega)] at hp
    have hl : l = List.replicate ns.length 0 := List.eq_of_mem_replicate (List.mem_of_getElem? hp)
    subst hl
    refine ⟨List.length_replicate, fun j x hx => ?_⟩
    have hx : x = 0 := List.eq_of_mem_replicate (List.mem_of_getElem? hx)
    have := (pt_ok (i := p) hd).1
    exact ⟨by omega, by omega, fun e => by omega⟩
theorem CarR.congr {d b c : Int} {fs : List Int} {L M : List (List Int)} {f0 : List (Int × Int)} : ∀ {n : Nat} {ps : List (Int × Int)}, (∀ p, p < n → L.getD p [] = M.getD p []) → CarR d b fs L f0 n ps → CarR d b fs M f0 n ps
  | 0, _, _, h => h
  | n + 1, ps, he, ⟨qs', h1, h2⟩ => ⟨qs', CarR.congr (c := c) (fun p hp => he p (by omega)) h1, by rw [← he n (by omega)]; exact h2⟩
end eqn
/-! ## floors by digits: plain mathematics -/
section flo
def SP (d : Int) (x : Int × Int) : Prop := 0 < sgn d x.1 x.2
def NP (d : Int) (x : Int × Int) : Prop := 0 ≤ sgn d x.1 x.2
def pAdd (x y : Int × Int) : Int × Int := (x.1 + y.1, x.2 + y.2)
def pSub (x y : Int × Int) : Int × Int := (x.1 - y.1, x.2 - y.2)
def pMul (a : Int) (x : Int × Int) : Int × Int := (a * x.1, a * x.2)
theorem sgn_zero {d i j : Int} (hd : d ∈ roots) (h : sgn d i j = 0) : i = 0 ∧ j = 0 := by
  obtain ⟨m, hm⟩ := isMul_ex (d := d) (f := j) hd
  rw [sgn_eq hd hm] at h
  by_cases z : i = 0 ∧ j = 0
  · exact z
  · rw [if_neg z] at h
    split at h <;> cases h
theorem sp_add {d : Int} {x y : Int × Int} (hd : d ∈ roots) (h1 : NP d x) (h2 : SP d y) : SP d (pAdd x y) := by
  have h3 : NN d (x.1 + y.1) (x.2 + y.2) := nn_add hd h1 (Int.le_of_lt h2)
  unfold NN at h3
  unfold SP pAdd
  dsimp only
  refine Int.lt_of_not_ge fun e => ?_
  have e : sgn d (x.1 + y.1) (x.2 + y.2) = 0 := by omega
  obtain ⟨e1, e2⟩ := sgn_zero hd e
  have e3 : sgn d y.1 y.2 = -sgn d x.1 x.2 := by
    rw [← sgn_neg hd]
    congr 1 <;> omega
  unfold SP at h2
  unfold NP at h1
  omega
theorem sp_np {d : Int} {x : Int × Int} (h : SP d x) : NP d x := Int.le_of_lt h
theorem np_mul {d a : Int} {x : Int × Int} (ha : 0 ≤ a) (h : NP d x) : NP d (pMul a x) := nn_scale ha h
theorem np_add {d : Int} {x y : Int × Int} (hd : d ∈ roots) (h1 : NP d x) (h2 : NP d y) : NP d (pAdd x y) := nn_add hd h1 h2
/-- |q(n) b - p(n)| times the bottom of b; n one further on -/
def tt (d : Int) : Nat → Int × Int
  | 0 => ((bsN d).2, 0)
  | 1 => (-(bsN d).1, 1)
  | n + 2 => pSub (tt d n) (pMul (pt d n) (tt d (n + 1)))
theorem tt_rel {d : Int} (hd : d ∈ roots) : ∀ n : Nat, (tlAt d n).2.2 * (tt d n).1 = (tlAt d n).1 * (tt d (n + 1)).1 + d * (tt d (n + 1)).2 ∧ (tlAt d n).2.2 * (tt d n).2 = (tt d (n + 1)).1 + (tlAt d n).1 * (tt d (n + 1)).2
  | 0 => by
    have e : tlAt d ((0 : Nat) : Int) = tlT d 0 := by
      unfold tlAt
      rw [show ((0 : Nat) : Int) = 0 from rfl, Int.zero_emod]
    rw [e]
    show _ * (bsN d).2 = _ * -(bsN d).1 + d * 1 ∧ _ * (0 : Int) = -(bsN d).1 + _ * 1
    obtain ⟨_, _, _, t1, _, _, nk, _, _⟩ := bsN_ok hd
    rw [t1]
    constructor
    · grind
    · omega
  | n + 1 => by
    obtain ⟨h1, h2⟩ := tt_rel hd n
    obtain ⟨_, k0, k0', i0', sq, s, p⟩ := tl_two hd n
    rw [show ((n + 1 : Nat) : Int) = (n : Int) + 1 by omega]
    show _ = _ * ((tt d n).1 - pt d n * (tt d (n + 1)).1) + d * ((tt d n).2 - pt d n * (tt d (n + 1)).2) ∧ _ = ((tt d n).1 - pt d n * (tt d (n + 1)).1) + _ * ((tt d n).2 - pt d n * (tt d (n + 1)).2)
    generalize tlAt d (n : Int) = z at *
    generalize tlAt d ((n : Int) + 1) = z' at *
    obtain ⟨i, j, k⟩ := z
    obtain ⟨i', j', k'⟩ := z'
    generalize tt d n = t0 at *
    generalize tt d (n + 1) = t1 at *
    generalize pt d n = a at *
    obtain ⟨x0, y0⟩ := t0
    obtain ⟨x1, y1⟩ := t1
    dsimp only at *
    constructor
    · refine Int.eq_of_mul_eq_mul_left (show k ≠ 0 by omega) ?_
      have e : k * (i' * (x0 - a * x1) + d * (y0 - a * y1)) = i' * (k * x0 - (a * k) * x1) + d * (k * y0 - (a * k) * y1) := by grind
      rw [e, h1, h2, ← s]
      grind
    · refine Int.eq_of_mul_eq_mul_left (show k ≠ 0 by omega) ?_
      have e : k * (x0 - a * x1 + i' * (y0 - a * y1)) = (k * x0 - (a * k) * x1) + i' * (k * y0 - (a * k) * y1) := by grind
      rw [e, h1, h2, ← s]
      grind
theorem tt_pos {d : Int} (hd : d ∈ roots) : ∀ n, SP d (tt d n)
  | 0 => by
    obtain ⟨_, _, b0, _⟩ := bsN_ok hd
    show 0 < sgn d (bsN d).2 0
    unfold sgn
    rw [if_pos ⟨Int.le_of_lt b0, Int.le_refl 0⟩, if_pos (.inl b0)]
    decide
  | n + 1 => by
    have ih := tt_pos hd n
    obtain ⟨h1, h2⟩ := tt_rel hd n
    obtain ⟨i0, sq⟩ : 0 < (tlAt d (n : Int)).1 ∧ (tlAt d (n : Int)).1 * (tlAt d (n : Int)).1 < d := by
      have key : ∀ t : Int, 0 < (tlT d t).1 ∧ (tlT d t).1 * (tlT d t).1 < d := fun t => by
        by_cases z : t = 0
        · subst z
          rcases roots_cases hd with rfl | rfl | rfl | rfl | rfl <;> decide
        · rcases roots_cases hd with rfl | rfl | rfl | rfl | rfl <;> simp [tlT, z]
      exact key _
    obtain ⟨_, k0, _⟩ := tl_two hd n
    unfold SP at *
    have e1 := sgn_mul (a := (tt d n).1) (b := (tt d n).2) hd i0 sq
    rw [← sgn_scale (d := d) (i := -(tlAt d (n : Int)).1 * (tt d n).1 + d * (tt d n).2) k0] at e1
    generalize tlAt d (n : Int) = z at *
    obtain ⟨i, j, k⟩ := z
    generalize tt d n = t0 at *
    generalize tt d (n + 1) = t1 at *
    obtain ⟨x0, y0⟩ := t0
    obtain ⟨x1, y1⟩ := t1
    dsimp only at *
    have e2 : k * (-i * x0 + d * y0) = (d - i * i) * x1 := by
      have : k * (-i * x0 + d * y0) = -i * (k * x0) + d * (k * y0) := by grind
      rw [this, h1, h2]
      grind
    have e3 : k * (x0 - i * y0) = (d - i * i) * y1 := by
      have : k * (x0 - i * y0) = k * x0 - i * (k * y0) := by grind
      rw [this, h1, h2]
      grind
    rw [e2, e3, sgn_scale (by omega)] at e1
    omega
theorem tt_dec {d : Int} (hd : d ∈ roots) : ∀ n, NP d (pSub (tt d 0) (tt d n))
  | 0 => by
    unfold NP pSub
    dsimp only
    rw [Int.sub_self, Int.sub_self, sgn_00]
    exact Int.le_refl 0
  | n + 1 => by
    have ih := tt_dec hd n
    have h1 := tt_pos hd (n + 1)
    have h2 := tt_pos hd (n + 2)
    obtain ⟨p1, _⟩ := pt_ok (i := n) hd
    have h3 := np_add hd ih (np_add hd (np_mul (a := pt d n - 1) (by omega) (sp_np h1)) (sp_np h2))
    have e : pAdd (pSub (tt d 0) (tt d n)) (pAdd (pMul (pt d n - 1) (tt d (n + 1))) (tt d (n + 2))) = pSub (tt d 0) (tt d (n + 1)) := by
      show pAdd (pSub (tt d 0) (tt d n)) (pAdd (pMul (pt d n - 1) (tt d (n + 1))) (pSub (tt d n) (pMul (pt d n) (tt d (n + 1))))) = _
      unfold pAdd pSub pMul
      dsimp only
      refine Prod.ext ?_ ?_
      · show _ = _
        dsimp only
        grind
      · show _ = _
        dsimp only
        grind
    rw [e] at h3
    exact h3
/-- the sum of digits from place m on, each counted by q b - p; the sign of place m taken off -/
def ss (d : Int) : Nat → List Int → Int × Int
  | _, [] => (0, 0)
  | m, x :: xs => pSub (pMul x (tt d (m + 1))) (ss d (m + 1) xs)
def DgA (d : Int) (m : Nat) (ds : List Int) : Prop := ∀ (i : Nat) (x : Int), ds[i]? = some x → 0 ≤ x ∧ x ≤ pt d (m + i)
theorem DgA.tl {d : Int} {m : Nat} {x : Int} {xs : List Int} (h : DgA d m (x :: xs)) : (0 ≤ x ∧ x ≤ pt d m) ∧ DgA d (m + 1) xs := by
  refine ⟨h 0 x rfl, fun i y hy => ?_⟩
  have := h (i + 1) y hy
  rw [show m + (i + 1) = m + 1 + i by omega] at this
  exact this
theorem ss_bd {d : Int} (hd : d ∈ roots) : ∀ (ds : List Int) (m : Nat), DgA d m ds → SP d (pAdd (tt d (m + 1)) (ss d m ds)) ∧ SP d (pSub (tt d m) (ss d m ds))
  | [], m, _ => by
    constructor
    · show SP d ((tt d (m + 1)).1 + 0, (tt d (m + 1)).2 + 0)
      rw [Int.add_zero, Int.add_zero]
      exact tt_pos hd (m + 1)
    · show SP d ((tt d m).1 - 0, (tt d m).2 - 0)
      rw [Int.sub_zero, Int.sub_zero]
      exact tt_pos hd m
  | x :: xs, m, h => by
    obtain ⟨⟨x0, x1⟩, h2⟩ := h.tl
    obtain ⟨i1, i2⟩ := ss_bd hd xs (m + 1) h2
    have p1 := sp_np (tt_pos hd (m + 1))
    have a1 := sp_add hd (np_mul x0 p1) i2
    have a2 := sp_add hd (np_mul (a := pt d m - x) (by omega) p1) i1
    constructor
    · have e : pAdd (pMul x (tt d (m + 1))) (pSub (tt d (m + 1)) (ss d (m + 1) xs)) = pAdd (tt d (m + 1)) (ss d m (x :: xs)) := by
        show _ = pAdd (tt d (m + 1)) (pSub (pMul x (tt d (m + 1))) (ss d (m + 1) xs))
        unfold pAdd pSub pMul
        refine Prod.ext ?_ ?_ <;> (dsimp only; omega)
      rw [e] at a1
      exact a1
    · have e : pAdd (pMul (pt d m - x) (tt d (m + 1))) (pAdd (tt d (m + 1 + 1)) (ss d (m + 1) xs)) = pSub (tt d m) (ss d m (x :: xs)) := by
        show pAdd (pMul (pt d m - x) (tt d (m + 1))) (pAdd (pSub (tt d m) (pMul (pt d m) (tt d (m + 1)))) (ss d (m + 1) xs)) = pSub (tt d m) (pSub (pMul x (tt d (m + 1))) (ss d (m + 1) xs))
        unfold pAdd pSub pMul
        refine Prod.ext ?_ ?_ <;> (dsimp only; grind)
      rw [e] at a2
      exact a2
/-- 1 if the least place with a digit is odd -/
def oddL : Nat → List Int → Int
  | _, [] => 0
  | m, x :: xs => if 0 < x then ((m % 2 : Nat) : Int) else oddL (m + 1) xs
/-- where the sum lies -/
theorem ss_pos {d : Int} (hd : d ∈ roots) : ∀ (ds : List Int) (m : Nat), DgA d m ds → (ss d m ds = (0, 0) ∧ oddL m ds = 0) ∨
    (oddL m ds = ((m % 2 : Nat) : Int) ∧ SP d (ss d m ds) ∧ SP d (pSub (tt d 0) (ss d m ds))) ∨ (oddL m ds = (((m + 1) % 2 : Nat) : Int) ∧ SP d (pMul (-1) (ss d m ds)) ∧ SP d (pAdd (tt d 0) (ss d m ds)))
  | [], m, _ => .inl ⟨rfl, rfl⟩
  | x :: xs, m, h => by
    obtain ⟨⟨x0, x1⟩, h2⟩ := h.tl
    by_cases z : 0 < x
    · refine .inr (.inl ⟨if_pos z, ?_, ?_⟩)
      · obtain ⟨_, i2⟩ := ss_bd hd xs (m + 1) h2
        have a1 := sp_add hd (np_mul (a := x - 1) (by omega) (sp_np (tt_pos hd (m + 1)))) i2
        have e : pAdd (pMul (x - 1) (tt d (m + 1))) (pSub (tt d (m + 1)) (ss d (m + 1) xs)) = ss d m (x :: xs) := by
          show _ = pSub (pMul x (tt d (m + 1))) (ss d (m + 1) xs)
          unfold pAdd pSub pMul
          refine Prod.ext ?_ ?_ <;> (dsimp only; grind)
        rw [e] at a1
        exact a1
      · obtain ⟨_, i2⟩ := ss_bd hd (x :: xs) m h
        have a1 := sp_add hd (tt_dec hd m) i2
        have e : pAdd (pSub (tt d 0) (tt d m)) (pSub (tt d m) (ss d m (x :: xs))) = pSub (tt d 0) (ss d m (x :: xs)) := by
          unfold pAdd pSub
          refine Prod.ext ?_ ?_ <;> (dsimp only; omega)
        rw [e] at a1
        exact a1
    · obtain rfl : x = 0 := by omega
      have e : ss d m (0 :: xs) = pMul (-1) (ss d (m + 1) xs) := by
        show pSub (pMul 0 (tt d (m + 1))) (ss d (m + 1) xs) = _
        unfold pSub pMul
        refine Prod.ext ?_ ?_ <;> (dsimp only; omega)
      have eo : oddL m (0 :: xs) = oddL (m + 1) xs := if_neg (by decide)
      have em : ∀ y : Int × Int, pMul (-1) (pMul (-1) y) = y := fun y => by
        unfold pMul
        refine Prod.ext ?_ ?_ <;> (dsimp only; omega)
      have es : ∀ y : Int × Int, pAdd (tt d 0) (pMul (-1) y) = pSub (tt d 0) y := fun y => by
        unfold pAdd pMul pSub
        refine Prod.ext ?_ ?_ <;> (dsimp only; omega)
      have et : ∀ y : Int × Int, pSub (tt d 0) (pMul (-1) y) = pAdd (tt d 0) y := fun y => by
        unfold pAdd pMul pSub
        refine Prod.ext ?_ ?_ <;> (dsimp only; omega)
      rw [e, eo]
      rcases ss_pos hd xs (m + 1) h2 with ⟨a, b⟩ | ⟨a, b, c⟩ | ⟨a, b, c⟩
      · refine .inl ⟨?_, b⟩
        rw [a]
        rfl
      · refine .inr (.inr ⟨a, ?_, ?_⟩)
        · rw [em]
          exact b
        · rw [es]
          exact c
      · refine .inr (.inl ⟨?_, b, ?_⟩)
        · rw [a, show (m + 1 + 1) % 2 = m % 2 by omega]
        · rw [et]
          exact c
/-! ### the sums by q and by p -/
def pp (d : Int) : Nat → Int
  | 0 => 0
  | 1 => 1
  | n + 2 => pt d (n + 1) * pp d (n + 1) + pp d n
def sgI (n : Nat) : Int := if n % 2 = 0 then 1 else -1
theorem sgI_succ (n : Nat) : sgI (n + 1) = -sgI n := by
  unfold sgI
  rcases Nat.mod_two_eq_zero_or_one n with h | h
  · rw [if_neg (by omega), if_pos h]
  · rw [if_pos (by omega), if_neg (by omega)]
    rfl
theorem sgI_sq (n : Nat) : sgI n * sgI n = 1 := by
  unfold sgI
  split <;> rfl
theorem tt_pq (d : Int) : ∀ n : Nat, tt d (n + 1) = (sgI n * (-(bsN d).1 * qs d n - (bsN d).2 * pp d n), sgI n * qs d n)
  | 0 => by
    show (-(bsN d).1, (1 : Int)) = (1 * (-(bsN d).1 * 1 - (bsN d).2 * 0), 1 * 1)
    refine Prod.ext ?_ rfl
    dsimp only
    omega
  | 1 => by
    show pSub ((bsN d).2, 0) (pMul (pt d 0) (-(bsN d).1, 1)) = (-1 * (-(bsN d).1 * (pt d 0 * 1 + 0) - (bsN d).2 * 1), -1 * (pt d 0 * 1 + 0))
    unfold pSub pMul
    refine Prod.ext ?_ ?_ <;> (dsimp only; grind)
  | n + 2 => by
    have h1 := tt_pq d n
    have h2 := tt_pq d (n + 1)
    show pSub (tt d (n + 1)) (pMul (pt d (n + 1)) (tt d (n + 2))) = _
    rw [h1, h2, show sgI (n + 2) = sgI n by rw [sgI_succ, sgI_succ]; omega, sgI_succ]
    have e1 : qs d (n + 2) = pt d (n + 1) * qs d (n + 1) + qs d n := rfl
    have e2 : pp d (n + 2) = pt d (n + 1) * pp d (n + 1) + pp d n := rfl
    rw [e1, e2]
    unfold pSub pMul
    refine Prod.ext ?_ ?_ <;> (dsimp only; grind)
def wl (g : Nat → Int) : Nat → List Int → Int
  | _, [] => 0
  | m, x :: xs => x * g m + wl g (m + 1) xs
theorem wl_vl (d : Int) : ∀ (ds : List Int) (m : Nat), wl (qs d) m ds = vl d m ds
  | [], _ => rfl
  | x :: xs, m => by
    show x * qs d m + wl (qs d) (m + 1) xs = x * qs d m + vl d (m + 1) xs
    rw [wl_vl d xs (m + 1)]
theorem ss_pq (d : Int) : ∀ (ds : List Int) (m : Nat), ss d m ds = (sgI m * (-(bsN d).1 * vl d m ds - (bsN d).2 * wl (pp d) m ds), sgI m * vl d m ds)
  | [], m => by
    show ((0 : Int), (0 : Int)) = (sgI m * (-(bsN d).1 * 0 - (bsN d).2 * 0), sgI m * 0)
    refine Prod.ext ?_ ?_ <;> (dsimp only; grind)
  | x :: xs, m => by
    have ih := ss_pq d xs (m + 1)
    show pSub (pMul x (tt d (m + 1))) (ss d (m + 1) xs) = (sgI m * (-(bsN d).1 * (x * qs d m + vl d (m + 1) xs) - (bsN d).2 * (x * pp d m + wl (pp d) (m + 1) xs)), sgI m * (x * qs d m + vl d (m + 1) xs))
    rw [ih, tt_pq, sgI_succ]
    unfold pSub pMul
    refine Prod.ext ?_ ?_ <;> (dsimp only; grind)
/-- the floor of b n by the digits of n -/
theorem flo_law {d n f : Int} {ds : List Int} (hd : d ∈ roots) (ha : DgA d 0 ds) (hv : vl d 0 ds = n) (hf : IsFl d n f) : f = wl (pp d) 0 ds - oddL 0 ds := by
  obtain ⟨m, hm, rfl⟩ := hf
  obtain ⟨_, _, b0, _⟩ := bsN_ok hd
  have es := ss_pq d ds 0
  rw [show sgI 0 = 1 from rfl, Int.one_mul, Int.one_mul, hv] at es
  have et : tt d 0 = ((bsN d).2, 0) := rfl
  generalize wl (pp d) 0 ds = F at *
  generalize (bsN d).1 = nb at *
  generalize (bsN d).2 = q at *
  have neg : ∀ i j : Int, sgn d (-1 * i) (-1 * j) = -sgn d i j := fun i j => by
    rw [← sgn_neg hd]
    congr 1 <;> omega
  have fin : ∀ G : Int, 0 ≤ sgn d (-nb * n - q * G) n → sgn d (-nb * n - q * (G + 1)) n < 0 → (-nb * n + m) / q = G := fun G h1 h2 => by
    have h1 := (sgn_ge hd hm).mp h1
    have h2 : ¬ 0 ≤ sgn d (-nb * n - q * (G + 1)) n := by omega
    rw [sgn_ge hd hm] at h2
    have e1 : q * (G + 1) = q * G + q := by grind
    have : (-nb * n + m) / q = G + (-nb * n + m - q * G) / q := by
      have e2 := Int.add_mul_ediv_left (-nb * n + m - q * G) G (show q ≠ 0 by omega)
      rw [show -nb * n + m - q * G + q * G = -nb * n + m by omega] at e2
      rw [e2, Int.add_comm]
    rw [this, Int.ediv_eq_zero_of_lt (by omega) (by omega)]
    omega
  rcases ss_pos hd ds 0 ha with ⟨a, b⟩ | ⟨a, b, c⟩ | ⟨a, b, c⟩
  · rw [es] at a
    injection a with a1 a2
    rw [b, Int.sub_zero]
    refine fin F ?_ ?_
    · rw [a1, a2, sgn_00]
      exact Int.le_refl 0
    · rw [show -nb * n - q * (F + 1) = (-nb * n - q * F) - q by grind, a1, a2, Int.zero_sub]
      have : sgn d (-q) 0 = -1 := by
        unfold sgn
        rw [if_neg (by omega), if_pos (by omega)]
      omega
  · rw [es] at b c
    rw [et] at c
    rw [a, show ((0 % 2 : Nat) : Int) = 0 from rfl, Int.sub_zero]
    refine fin F (sp_np b) ?_
    have e : sgn d (q - (-nb * n - q * F)) (0 - n) = -sgn d (-nb * n - q * (F + 1)) n := by
      rw [← sgn_neg hd]
      congr 1 <;> grind
    have c : 0 < sgn d (q - (-nb * n - q * F)) (0 - n) := c
    omega
  · rw [es] at b c
    rw [et] at c
    rw [a, show (((0 + 1) % 2 : Nat) : Int) = 1 from rfl]
    refine fin (F - 1) ?_ ?_
    · have c : 0 < sgn d (q + (-nb * n - q * F)) (0 + n) := c
      rw [show -nb * n - q * (F - 1) = q + (-nb * n - q * F) by grind]
      rw [Int.zero_add] at c
      omega
    · have b : 0 < sgn d (-1 * (-nb * n - q * F)) (-1 * n) := b
      rw [neg] at b
      rw [show F - 1 + 1 = F by omega]
      omega
/-! ### counting the digits further on -/
theorem pt_per {d : Int} (hd : d ∈ roots) (i : Nat) : pt d (i + (per d).length) = pt d i := by
  unfold pt
  rw [Nat.add_mod_right]
def lastS (d : Int) : Int := if (per d).length = 1 then 1 else qs d ((per d).length - 1)
theorem qs_shift {d : Int} (hd : d ∈ roots) : ∀ i : Nat, qs d (i + (per d).length) = qs d (per d).length * qs d i + lastS d * pp d i
  | 0 => by
    rw [Nat.zero_add]
    show _ = _ * 1 + _ * 0
    omega
  | 1 => by
    obtain ⟨L, hL⟩ : ∃ L, (per d).length = L + 1 := ⟨(per d).length - 1, by have := per_len hd; omega⟩
    have e : qs d (1 + (per d).length) = pt d (per d).length * qs d (per d).length + ql d (per d).length := by
      rw [Nat.add_comm]
      rfl
    rw [e, show pt d (per d).length = pt d 0 by have := pt_per hd 0; rw [Nat.zero_add] at this; exact this]
    have e2 : ql d (per d).length = lastS d := by
      unfold lastS
      rw [hL]
      show qs d L = _
      by_cases z : L = 0
      · subst z
        rfl
      · rw [if_neg (by omega)]
        rfl
    rw [e2]
    show _ = _ * (pt d 0 * 1 + 0) + _ * 1
    grind
  | i + 2 => by
    have h1 := qs_shift hd i
    have h2 := qs_shift hd (i + 1)
    have e : qs d (i + 2 + (per d).length) = pt d (i + 1 + (per d).length) * qs d (i + 1 + (per d).length) + qs d (i + (per d).length) := by
      rw [show i + 2 + (per d).length = (i + (per d).length) + 2 by omega, show i + 1 + (per d).length = (i + (per d).length) + 1 by omega]
      rfl
    rw [e, pt_per hd, h1, h2]
    have e1 : qs d (i + 2) = pt d (i + 1) * qs d (i + 1) + qs d i := rfl
    have e2 : pp d (i + 2) = pt d (i + 1) * pp d (i + 1) + pp d i := rfl
    rw [e1, e2]
    grind
theorem further_law {d : Int} (hd : d ∈ roots) : ∀ (ds : List Int) (m : Nat), wl (fun i => qs d (i + (per d).length)) m ds = qs d (per d).length * vl d m ds + lastS d * wl (pp d) m ds
  | [], m => by
    show (0 : Int) = _ * 0 + _ * 0
    omega
  | x :: xs, m => by
    have ih := further_law hd xs (m + 1)
    show x * qs d (m + (per d).length) + wl _ (m + 1) xs = _ * (x * qs d m + vl d (m + 1) xs) + _ * (x * pp d m + wl (pp d) (m + 1) xs)
    rw [ih, qs_shift hd]
    grind
end flo
/-! ## admissible lists of digits: the value tells the list -/
section digs
theorem adm_lt {d : Int} (hd : d ∈ roots) : ∀ (n : Nat) (ds : List Int), ds.length = n → Adm d ds → vl d 0 ds < qs d n := by
  intro n
  induction n using Nat.strongRecOn with
  | ind n ih =>
    intro ds hl ha
    rcases List.eq_nil_or_concat ds with rfl | ⟨xs, y, rfl⟩
    · cases hl
      exact (by decide : (0 : Int) < 1)
    · rw [List.concat_eq_append] at *
      rw [List.length_append] at hl
      have hl : xs.length + 1 = n := hl
      subst hl
      have h1 := ih xs.length (Nat.lt_succ_self _) xs rfl (adm_pre ha)
      obtain ⟨y0, y1, y2⟩ := ha xs.length y (by rw [List.getElem?_append_right (Nat.le_refl _), Nat.sub_self]; rfl)
      obtain ⟨q1, q2, q3⟩ := qs_ok hd xs.length
      rw [vl_snoc, Nat.zero_add, qs_succ]
      by_cases e : y = pt d xs.length
      · obtain ⟨j, e1, e2⟩ := y2 e
        rcases List.eq_nil_or_concat xs with rfl | ⟨zs, z, rfl⟩
        · cases e1
        · rw [List.concat_eq_append] at *
          have hj : j = zs.length := by
            rw [List.length_append] at e1
            have e1 : zs.length + 1 = j + 1 := e1
            omega
          subst hj
          rw [List.append_assoc, List.getElem?_append_right (Nat.le_refl _), Nat.sub_self] at e2
          have z0 : z = 0 := by injection e2
          subst z0
          have h2 := ih zs.length (by rw [List.length_append]; show zs.length < zs.length + 1 + 1; omega) zs rfl (adm_pre (adm_pre ha))
          rw [vl_snoc, e]
          have e3 : (zs ++ [(0 : Int)]).length = zs.length + 1 := by rw [List.length_append]; rfl
          rw [e3, ql_succ]
          omega
      · have h2 : (y + 1) * qs d xs.length ≤ pt d xs.length * qs d xs.length := Int.mul_le_mul_of_nonneg_right (by omega) (by omega)
        rw [Int.add_mul, Int.one_mul] at h2
        omega
theorem vl_nn {d : Int} (hd : d ∈ roots) : ∀ (ds : List Int) (i : Nat), (∀ x ∈ ds, 0 ≤ x) → 0 ≤ vl d i ds
  | [], _, _ => Int.le_refl 0
  | x :: xs, i, h => by
    have h1 := vl_nn hd xs (i + 1) fun y hy => h y (List.mem_cons_of_mem _ hy)
    have h2 := Int.mul_nonneg (h x (List.mem_cons_self ..)) (show 0 ≤ qs d i by have := (qs_ok hd i).1; omega)
    show 0 ≤ x * qs d i + vl d (i + 1) xs
    omega
theorem adm_nn {d : Int} {ds : List Int} (h : Adm d ds) : ∀ x ∈ ds, 0 ≤ x := fun x hx => by
  obtain ⟨i, hi⟩ := List.getElem?_of_mem hx
  exact (h i x hi).1
/-- an admissible list is made by the greatest steps -/
theorem adm_gr {d : Int} (hd : d ∈ roots) : ∀ (n : Nat) (ds : List Int), ds.length = n → Adm d ds → ds = gr d n (vl d 0 ds)
  | 0, ds, hl, _ => List.length_eq_zero_iff.mp hl
  | n + 1, ds, hl, ha => by
    rcases List.eq_nil_or_concat ds with rfl | ⟨xs, y, rfl⟩
    · cases hl
    · rw [List.concat_eq_append] at *
      rw [List.length_append] at hl
      have hl : xs.length + 1 = n + 1 := hl
      have hx : xs.length = n := by omega
      have h1 := adm_lt hd n xs hx (adm_pre ha)
      have h0 := vl_nn hd xs 0 (adm_nn (adm_pre ha))
      obtain ⟨q1, _, _⟩ := qs_ok hd n
      rw [vl_snoc, Nat.zero_add, hx]
      show xs ++ [y] = gr d n ((vl d 0 xs + y * qs d n) % qs d n) ++ [(vl d 0 xs + y * qs d n) / qs d n]
      have e1 : (vl d 0 xs + y * qs d n) % qs d n = vl d 0 xs := by
        rw [Int.add_mul_emod_self_right]
        exact Int.emod_eq_of_lt h0 h1
      have e2 : (vl d 0 xs + y * qs d n) / qs d n = y := by
        rw [Int.add_mul_ediv_right _ _ (by omega), Int.ediv_eq_zero_of_lt h0 h1, Int.zero_add]
      rw [e1, e2, ← adm_gr hd n xs hx (adm_pre ha)]
/-- no 0 at the end -/
def Trm (ds : List Int) : Prop := ∀ xs y, ds = xs ++ [y] → y ≠ 0
theorem trm_ge {d : Int} (hd : d ∈ roots) {ds : List Int} {n : Nat} (ha : Adm d ds) (ht : Trm ds) (hl : ds.length = n + 1) : qs d n ≤ vl d 0 ds := by
  rcases List.eq_nil_or_concat ds with rfl | ⟨xs, y, rfl⟩
  · cases hl
  · rw [List.concat_eq_append] at *
    rw [List.length_append] at hl
    have hl : xs.length + 1 = n + 1 := hl
    have hx : xs.length = n := by omega
    have h0 := vl_nn hd xs 0 (adm_nn (adm_pre ha))
    obtain ⟨y0, _, _⟩ := ha xs.length y (by rw [List.getElem?_append_right (Nat.le_refl _), Nat.sub_self]; rfl)
    have yz := ht xs y rfl
    obtain ⟨q1, _, _⟩ := qs_ok hd n
    rw [vl_snoc, Nat.zero_add, hx]
    have := Int.mul_le_mul_of_nonneg_right (show 1 ≤ y by omega) (show 0 ≤ qs d n by omega)
    omega
theorem qs_le {d : Int} (hd : d ∈ roots) {i : Nat} : ∀ {j : Nat}, i ≤ j → qs d i ≤ qs d j := by
  intro j h
  induction h with
  | refl => exact Int.le_refl _
  | step _ ih => exact Int.le_trans ih (qs_mono hd _)
theorem adm_uniq {d : Int} (hd : d ∈ roots) {ds es : List Int} (h1 : Adm d ds) (h2 : Adm d es) (t1 : Trm ds) (t2 : Trm es) (hv : vl d 0 ds = vl d 0 es) : ds = es := by
  have key : ∀ {ds es : List Int}, Adm d ds → Adm d es → Trm es → vl d 0 ds = vl d 0 es → ¬ ds.length < es.length := fun {ds es} h1 h2 t2 hv hl => by
    obtain ⟨n, hn⟩ : ∃ n, es.length = n + 1 := ⟨es.length - 1, by omega⟩
    have a := trm_ge hd h2 t2 hn
    have b := adm_lt hd _ ds rfl h1
    have c := qs_le hd (show ds.length ≤ n by omega)
    omega
  have a := key h1 h2 t2 hv
  have b := key h2 h1 t1 hv.symm
  have e : ds.length = es.length := by omega
  rw [adm_gr hd _ ds rfl h1, adm_gr hd _ es e.symm h2, hv]
theorem adm_zeros {d : Int} (hd : d ∈ roots) {ds : List Int} (h : Adm d ds) (k : Nat) : Adm d (ds ++ List.replicate k 0) := by
  intro i x hx
  by_cases hi : i < ds.length
  · rw [List.getElem?_append_left hi] at hx
    obtain ⟨a, b, c⟩ := h i x hx
    refine ⟨a, b, fun e => ?_⟩
    obtain ⟨j, e1, e2⟩ := c e
    exact ⟨j, e1, by rw [List.getElem?_append_left (by omega)]; exact e2⟩
  · rw [List.getElem?_append_right (by omega), List.getElem?_replicate] at hx
    split at hx
    · cases hx
      have p := pt_ok (i := i) hd
      exact ⟨by decide, by omega, fun e => by omega⟩
    · cases hx
theorem vl_zeros (d : Int) (ds : List Int) : ∀ k : Nat, vl d 0 (ds ++ List.replicate k 0) = vl d 0 ds
  | 0 => by rw [List.replicate_zero, List.append_nil]
  | k + 1 => by
    rw [List.replicate_succ', ← List.append_assoc, vl_snoc, vl_zeros d ds k, Int.zero_mul, Int.add_zero]
theorem qs_60 {d : Int} (hd : d ∈ roots) : qs d 60 < 10 ^ 39 := by
  rcases roots_cases hd with rfl | rfl | rfl | rfl | rfl <;> decide +kernel
end digs
/-! ## digits and values of fields: promises -/
section fdig
variable {σ σ' : L2.St} {H : Hp} {D : Ends}
def AugB (i : Nat) (ti : TIp) (x y : V) (σ : L2.St) (H : Hp) (N : L2.St → Hp → Prop) : Prop := ti x y H fun z H2 => N (σ.set i (some z)) H2
theorem rd_aug {i : Nat} {te : TE} {ti : TIp} {x : V} (h : σ[i]? = some (some x)) (q : te σ H fun y H1 => AugB i ti x y σ H1 D.nx) : tAug i te ti D σ H := ⟨x, h, q⟩
theorem rd_augI {i : Nat} {g : Int → Int → Int} {a b : Int} {N : L2.St → Hp → Prop} (hs : σ.set i (some (.int (g a b))) = σ') (q : N σ' H) : AugB i (ipI g) (.int a) (.int b) σ H N := by
  subst hs
  exact ⟨a, b, rfl, rfl, q⟩
def spNumber : Sp := fun vs H Q _ => ∃ n : Int, vs = [.int n] ∧ 0 ≤ n ∧ n < 10 ^ 40 ∧ Q (.bl true) H
def spNeedN : Sp := fun vs H Q _ => ∃ n : Int, vs = [.int n] ∧ 0 ≤ n ∧ n < 10 ^ 40 ∧ Q .non H
def spStepsUp (K : PySem.W.Frag) : Sp := fun vs H Q _ => ∃ (p : Addr) (d n : Int), vs = [.ref p, .int n] ∧ (∀ H, SqT K H p ((per d).map V.int)) ∧ d ∈ roots ∧ 1 ≤ n ∧ n < 10 ^ 40 ∧
  ∀ l m H', H l = none → Same H H' → H' l = some (.lst ((stepsL d (m + 1)).map V.int)) → m + 1 ≤ 256 → n < qs d (m + 1) → qs d m ≤ n → Q (.ref l) H'
def spDigitsF (K : PySem.W.Frag) : Sp := fun vs H Q _ => ∃ (a : Addr) (d n : Int), vs = [.ref a, .int n] ∧ FieldAt K H a d ∧ 0 ≤ n ∧ n < 10 ^ 40 ∧ ∀ l ds H', H l = none → Same H H' → H' l = some (.lst (List.map V.int ds)) → DigOk d n ds → Q (.ref l) H'
def spDigitsFT (K : PySem.W.Frag) : Sp := fun vs H Q _ => ∃ (a : Addr) (d n : Int), vs = [.ref a, .int n] ∧ FieldAt K H a d ∧ 0 ≤ n ∧ n < 10 ^ 40 ∧ ∀ l ds H', H l = none → Same H H' → H' l = some (.lst (List.map V.int ds)) → DigOk d n ds → Trm ds → Q (.ref l) H'
def spLDigitsT : Sp := fun vs H Q _ => ∃ (d n : Int), vs = [.int d, .int n] ∧ d ∈ roots ∧ 0 ≤ n ∧ n < 10 ^ 40 ∧ ∀ l ds H', H l = none → Same H H' → H' l = some (.lst (List.map V.int ds)) → DigOk d n ds → Trm ds → Q (.ref l) H'
/-- of a list, or (tu) of a tuple -/
def spValueA (K : PySem.W.Frag) : Sp := fun vs H Q _ => ∃ (tu : Bool) (a l : Addr) (d : Int) (ds : List Int), vs = [.ref a, .ref l] ∧ FieldAt K H a d ∧ H l = some (if tu then .tup (ds.map V.int) else .lst (ds.map V.int)) ∧ Adm d ds ∧ ds.length ≤ 1000 ∧ ∀ H', Same H H' → Q (.int (vl d 0 ds)) H'
def spValueF (K : PySem.W.Frag) : Sp := fun vs H Q _ => ∃ (a l : Addr) (d : Int) (ds : List Int), vs = [.ref a, .ref l] ∧ FieldAt K H a d ∧ H l = some (.lst (ds.map V.int)) ∧ Adm d ds ∧ ds.length ≤ 1000 ∧ ∀ H', Same H H' → Q (.int (vl d 0 ds)) H'
theorem qs_mono2 {d : Int} (hd : d ∈ roots) {i : Nat} : ∀ {j : Nat}, i ≤ j → qs d i ≤ qs d j
  | 0, h => by
    obtain rfl : i = 0 := by omega
    exact Int.le_refl _
  | j + 1, h => by
    by_cases e : i = j + 1
    · subst e
      exact Int.le_refl _
    · exact Int.le_trans (qs_mono2 hd (show i ≤ j by omega)) (qs_mono hd j)
theorem steps_filter {d n : Int} {m : Nat} (hd : d ∈ roots) (h1 : n < qs d (m + 1)) (h2 : qs d m ≤ n) : (stepsL d (m + 1)).filter (fun x => decide (x ≤ n)) = stepsL d m := by
  rw [stepsL_succ, List.filter_append]
  have e1 : (stepsL d m).filter (fun x => decide (x ≤ n)) = stepsL d m := by
    refine List.filter_eq_self.mpr fun x hx => ?_
    unfold stepsL at hx
    obtain ⟨i, hi, rfl⟩ := List.mem_map.mp hx
    rw [List.mem_range] at hi
    have := qs_mono2 hd (show i ≤ m by omega)
    exact decide_eq_true (by omega)
  have e2 : [qs d (m + 1)].filter (fun x => decide (x ≤ n)) = [] := by
    rw [List.filter_cons, if_neg (by simp; omega)]
    rfl
  rw [e1, e2, List.append_nil]
theorem vl_take_succ {d : Int} {ds : List Int} {i : Nat} {x : Int} (h : ds[i]? = some x) : vl d 0 (ds.take (i + 1)) = vl d 0 (ds.take i) + x * qs d i := by
  obtain ⟨hi, e⟩ := List.getElem?_eq_some_iff.mp h
  rw [List.take_succ_eq_append_getElem hi, vl_snoc, List.length_take, Nat.min_eq_left (by omega), Nat.zero_add, e]
def fltV (p : Int → Bool) : V → Option V := fun v => match v with
  | .int i => if p i = true then some (V.int i) else none
  | _ => none
theorem filter_ints (p : Int → Bool) (l : List Int) : (l.map V.int).filterMap (fltV p) = (l.filter p).map V.int := by
  induction l with
  | nil => rfl
  | cons a l ih =>
    rw [List.map_cons, List.filterMap_cons, List.filter_cons, show fltV p (V.int a) = if p a = true then some (V.int a) else none from rfl]
    by_cases z : p a = true
    · rw [if_pos z, if_pos z, List.map_cons, ← ih]
    · rw [if_neg z, if_neg z, ← ih]
theorem fm_cons {β : Type} (F : Nat → Option β) (n : Nat) : (List.range (n + 1)).filterMap F = (match F 0 with | none => [] | some b => [b]) ++ (List.range n).filterMap fun i => F (i + 1) := by
  rw [List.range_succ_eq_map, List.filterMap_cons, List.filterMap_map]
  cases F 0 <;> rfl
end fdig
/-! ## sorted of lists of ints -/
section sortls
open PySem PySem.Spec PyProof.Rows
abbrev encL (b : List Int) : PyData := .list (b.map .int)
def rSortLs (K : PySem.W.Frag) : List V → Hp → VK → Prop := fun vs H Q => ∃ (a : Addr) (xs : List V) (bs : List (List Int)), vs = [V.ref a] ∧ SqL K H a xs ∧ Paired (LsV H) xs bs ∧ bs.length ≤ 100000 ∧
  ∀ ys p, H p = none → Paired (LsV H) ys (bs.mergeSort fun p q => decide (p ≤ q)) → Q (.ref p) (upd H p (.lst ys))
theorem depthAll_ints (l : List Int) : PyData.depthAll (l.map .int) = 0 := PySem.W.depth_ints l
theorem dp_ints {K : PySem.W.Frag} {H : Hp} (l : List Int) : DpAll K H (l.map V.int) (l.map PyData.int) := by
  induction l with
  | nil => exact .nil
  | cons a l ih => exact .cons (.int a) ih
theorem cr_sortedLs {X : Cx} (hu : X.A.units + 64 < cLine) : CallR X (.builtin "sorted") (rSortLs X.K) := by
  intro pins s σ H vs us Q I r h
  obtain ⟨a, xs, bs, rfl, hs, hx, hn, q⟩ := h
  obtain ⟨its, rv, hl, hz⟩ := I.list hs
  obtain ⟨u, rfl, ru⟩ := vals1 r
  obtain rfl : u = Value.ref a := ru
  have e : PySem.W.EachIs (fun v (b : List Int) => ∃ t, v = Value.ref t ∧ H t = some (.lst (b.map V.int))) its bs := by
    clear q hs hl hz hn
    induction hx generalizing its with
    | nil => cases rv; exact .nil
    | cons a _ ih =>
      cases rv with
      | cons r1 r2 =>
        obtain ⟨t, rfl, ht⟩ := a
        exact .cons ⟨t, r1, ht⟩ (ih _ r2)
  refine PySem.W.sorted_data (enc := encL) hl.isList e (e.mono fun v b h => ?_) (PySem.W.AllAlike.of fun b b' => ?_) (PySem.W.Sortable.others fun b => ⟨fun z => (by cases z), fun _ z => (by cases z)⟩) (Nat.le_trans hn (by decide)) (fun b _ => ?_) fun out ho eo => ?_
  · obtain ⟨t, rfl, ht⟩ := h
    exact Dp.reads I (encL b) (.ref t) _ (.lst (sqL_of ht) (dp_ints b)) rfl
  · show PySem.W.alike (.list _) (.list _) = true
    simp only [PySem.W.alike]
    exact PySem.W.alike_ints b b'
  · have : (encL b).depth = PyData.depthAll (b.map .int) + 1 := by simp only [PyData.depth]
    rw [this, depthAll_ints]
    omega
  · rw [show PySem.W.dataLe false encL = fun p q : List Int => decide (p ≤ q) from PySem.W.dataLe_rows fun b => b] at eo
    have h3 : ∀ u ∈ out, ∃ a, u = Value.ref a := by
      clear q ho
      generalize bs.mergeSort (fun p q => decide (p ≤ q)) = cs at eo
      intro u hu
      induction eo with
      | nil => cases hu
      | cons a _ ih =>
        rcases List.mem_cons.mp hu with rfl | hu
        · obtain ⟨t, e, _⟩ := a
          exact ⟨t, e⟩
        · exact ih hu
    have hp : Paired (LsV H) (out.map backV) (bs.mergeSort fun p q => decide (p ≤ q)) := by
      clear q ho h3
      generalize bs.mergeSort (fun p q => decide (p ≤ q)) = cs at eo ⊢
      induction eo with
      | nil => exact .nil
      | cons a _ ih =>
        obtain ⟨t, rfl, ht⟩ := a
        exact .cons ⟨t, rfl, ht⟩ ih
    obtain ⟨n, hn'⟩ := sortedAll_at s.heap its out.toArray
    refine ⟨.ref (s.heap.objs.size + 1), upd H (s.heap.objs.size + 1) (.lst (out.map backV)), I.laid (t' := s.toks) (fun b o e => sortedAll_old e) (Nat.le_succ _) ⟨?_, out, n, vals_back h3, hn'⟩, rfl, q _ _ (I.hok.fresh (Nat.le_succ _)) hp⟩
    rw [List.length_map, ho]
    exact Nat.le_trans hn (by decide)
theorem rd_sortLs {K : PySem.W.Frag} {H : Hp} {Q : VK} {a : Addr} {xs : List V} {bs : List (List Int)} (h : SqL K H a xs) (hp : Paired (LsV H) xs bs) (hn : bs.length ≤ 100000) (q : ∀ p ys H2, H p = none → Same H H2 → H2 p = some (.lst ys) → Paired (LsV H2) ys (bs.mergeSort fun p q => decide (p ≤ q)) → Q (.ref p) H2) : rSortLs K [.ref a] H Q :=
  ⟨a, xs, bs, rfl, h, hp, hn, fun ys p hn' hq => q p ys _ hn' (Same.new hn') upd_same (pimp hq fun _ _ ⟨t, e, h⟩ => ⟨t, e, Same.new hn' _ _ h⟩)⟩
end sortls
local macro_rules | `(tactic| walk_at "set") => `(tactic| first
  | ((conv => lhs; dsimp only [List.set_cons_zero, List.set_cons_succ]) <;> exact rfl)
  | ((conv => lhs; dsimp [L2.start, List.replicate]) <;> exact rfl)
  | exact rfl)
local macro_rules | `(tactic| walk_at "hp") => `(tactic| first
  | assumption
  | ((refine' Same.get ?e0 ?e1); (case e0 => assumption); (case e1 => walk_at "hp"))
  | ((refine' Ext.get ?e0 ?e1 ?e2); (case e0 => assumption); (case e2 => first | rfl | exact bag_ints _ | exact bag_refs _ | exact bag_strs _ | exact bag_bls _); (case e1 => walk_at "hp")))
local macro_rules | `(tactic| walk_at "sq") => `(tactic| first
  | assumption
  | ((refine' sqT_of ?hq); (case hq => walk_at "hp"))
  | ((refine' sqL_of ?hq); (case hq => walk_at "hp"))
  | ((refine' SqT.same ?e0 ?e1); (case e0 => assumption); (case e1 => walk_at "sq"))
  | ((refine' SqT.ext ?e0 ?e1); (case e0 => assumption); (case e1 => walk_at "sq")))
local macro_rules | `(tactic| walk_at "r1") => `(tactic| first
  | (with_reducible refine rd_seq ?_)
  | (with_reducible refine rd_lc ?_)
  | (with_reducible refine rd_callN ?_)
  | (with_reducible refine rd_then ?_)
  | (with_reducible refine rd_bmL ?_)
  | (with_reducible refine rd_par ?_)
  | ((with_reducible refine' rd_parS ?hs ?_); (case hs => walk_at "set"))
  | (with_reducible refine rd_iZipA ?_)
  | (with_reducible refine rd_for ?_)
  | (with_reducible refine rd_iRng1 ?_)
  | (with_reducible refine rd_iTup ?_)
  | (with_reducible refine rd_iList ?_)
  | (with_reducible refine rd_iStr ?_)
  | (with_reducible refine rd_yes ?_)
  | ((with_reducible refine rd_wipe ?hw ?_); (case hw => exact rfl))
  | (with_reducible refine rd_ifS ?_)
  | (with_reducible refine rd_asg ?_)
  | (with_reducible refine rd_ret ?_)
  | ((with_reducible refine' rd_var ?hv ?_); (case hv => exact rfl))
  | (with_reducible refine rd_c ?_)
  | (with_reducible refine rd_op ?_)
  | (with_reducible refine rd_I0 ?_)
  | (with_reducible refine rd_test ?_)
  | (with_reducible refine rd_B ?_)
  | (with_reducible refine rd_bl ?_)
  | (with_reducible refine rd_int ?_)
  | ((with_reducible refine rd_eq ?hs ?_); (case hs => exact rfl))
  | ((with_reducible refine rd_ne ?hs ?_); (case hs => exact rfl))
  | (with_reducible refine rd_cons ?_)
  | (with_reducible refine rd_nil ?_)
  | (with_reducible refine rd_CB ?_)
  | (with_reducible refine rd_call ?_)
  | ((with_reducible refine' rd_gNameS ?hs ?_); (case hs => walk_at "set"))
  | (with_reducible refine rd_un ?_)
  | (with_reducible refine rd_U ?_)
  | (with_reducible refine rd_and ?_)
  | (with_reducible refine rd_or ?_)
  | (with_reducible refine rd_not ?_)
  | (with_reducible refine rd_andV ?_)
  | (with_reducible refine rd_orV ?_)
  | (with_reducible refine rd_notV ?_)
  | (with_reducible refine rd_if ?_)
  | (with_reducible refine rd_chain ?_)
  | (with_reducible refine rd_isN ?_)
  | (with_reducible refine rd_tup ?_)
  | (with_reducible refine rd_lst ?_)
  | (with_reducible refine rd_drop ?_)
  | (with_reducible refine rd_next ?_)
  | (with_reducible refine rd_true ?_)
  | (with_reducible refine rd_false ?_)
  | (with_reducible refine rd_gSub ?_)
  | (with_reducible refine rd_gCons ?_)
  | (with_reducible refine rd_gNil ?_)
  | (with_reducible refine rd_sl ?_)
  | (with_reducible refine rd_noPart ?_)
  | (with_reducible refine rd_part ?_)
  | (with_reducible refine rd_meth ?_)
  | (with_reducible refine rd_fld ?_)
  | (with_reducible refine rd_prop ?_)
  | (with_reducible refine rd_stat ?_)
  | (with_reducible refine rd_makeK ?_)
  | (with_reducible refine rd_make ?_)
  | (with_reducible refine rd_sFld ?_)
  | (with_reducible refine rd_bits ?_)
  | (with_reducible refine rd_iSeq ?_)
  | (with_reducible refine rd_prs0 ?_)
  | (with_reducible refine rd_prs ?_)
  | (with_reducible refine rd_dget ?_)
  | (with_reducible refine rd_iZipM ?_)
  | (with_reducible refine rd_iEnumM ?_)
  | (with_reducible refine rd_iRng2 ?_)
  | (with_reducible refine rd_revL ?_)
  | ((with_reducible refine' rd_aug ?hv ?_); (case hv => exact rfl))
  | ((with_reducible refine' rd_augI ?hs ?_); (case hs => walk_at "set"))
  | (with_reducible refine rd_join ?_)
  | (with_reducible refine rd_js ?_)
  | (with_reducible refine rd_js0 ?_)
  | (with_reducible refine rd_fmt ?_)
  | (with_reducible refine rd_m1 ?_)
  | (with_reducible refine rd_joB ?_)
  | (with_reducible refine rd_bm0 ?_)
  | (with_reducible refine rd_methK ?_)
  | (with_reducible refine rd_xfA ?_)
  | (with_reducible refine rd_statX ?_)
  | (with_reducible refine rd_raise ?_)
  | (with_reducible refine rd_raise0 ?_)
  | (with_reducible refine rd_nT ?_)
  | (with_reducible refine rd_nF ?_))
local macro_rules | `(tactic| walk_at "r") => `(tactic| repeat walk_at "r1")
local macro_rules | `(tactic| walk_at "a1") => `(tactic| first
  | walk_at "r1"
  | (refine rd_newT (sz_small (by simp)) (fun _ _ _ _ _ => ?_))
  | (refine rd_newL (sz_small (by simp)) (fun _ _ _ _ _ => ?_))
  | ((refine' rd_ixT ?hs ?ha ?_); (case hs => walk_at "sq"); (case ha => exact rfl))
  | ((refine' rd_ixL ?hs ?ha ?_); (case hs => walk_at "sq"); (case ha => exact rfl)))
local macro_rules | `(tactic| walk_at "a") => `(tactic| repeat walk_at "a1")
local macro_rules | `(tactic| walk_at "isd") => `(tactic| first
  | exact IsD.int _
  | exact IsD.non
  | exact IsD.bl _
  | exact IsD.str (by decide +kernel) (by decide)
  | assumption
  | ((refine' IsD.up ?h ?l); (case h => assumption); (case l => omega))
  | ((refine' IsD.tup ?h ?l ?p); (case h => walk_at "hp"); (case l => simp); (case p => walk_at "alld"))
  | ((refine' IsD.lst ?h ?b ?l ?p); (case h => walk_at "hp"); (case b => rfl); (case l => simp); (case p => walk_at "alld"))
  | ((refine' IsD.same ?e ?h); (case e => assumption); (case h => walk_at "isd"))
  | ((refine' IsD.ext ?e ?h); (case e => assumption); (case h => walk_at "isd")))
local macro_rules | `(tactic| walk_at "alld") => `(tactic| first
  | exact AllD.nil
  | ((refine' AllD.cons ?x ?r); (case x => walk_at "isd"); (case r => walk_at "alld")))
local macro_rules | `(tactic| walk_at "bag") => `(tactic| first
  | assumption
  | ((refine' Bag.same ?b ?e); (case e => assumption); (case b => walk_at "bag")))
local macro_rules | `(tactic| walk_at "ext") => `(tactic| first
  | assumption
  | exact Ext.refl _
  | ((refine' Ext.trans ?a (Ext.of ?e)); (case e => assumption); (case a => walk_at "ext"))
  | ((refine' Ext.trans ?a ?e); (case e => assumption); (case a => walk_at "ext")))
local macro_rules | `(tactic| walk_at "alx") => `(tactic| first
  | assumption
  | ((refine' AllD.same ?e ?h); (case e => assumption); (case h => walk_at "alx"))
  | ((refine' AllD.ext ?e ?h); (case e => assumption); (case h => walk_at "alx")))
local macro_rules | `(tactic| walk_at "st") => `(tactic| ((refine' rd_start ?hs ?_); (case hs => ((conv => lhs; dsimp [L2.start, List.replicate]) <;> exact rfl))))
local macro_rules | `(tactic| walk_at "dt") => `(tactic| first
  | exact Dt.int _
  | exact Dt.str (by decide +kernel) (by decide)
  | ((refine' Dt.tup ?h ?p ?l); (case h => walk_at "hp"); (case p => walk_at "dts"); (case l => simp)))
local macro_rules | `(tactic| walk_at "dts") => `(tactic| first
  | exact Paired.nil
  | ((refine' Paired.cons ?x ?r); (case x => walk_at "dt"); (case r => walk_at "dts")))
local macro_rules | `(tactic| walk_at "dn") => `(tactic| first
  | exact Dn.int _
  | exact Dn.bl _
  | exact Dn.non
  | exact Dn.str (by decide +kernel) (by decide)
  | ((refine' Dn.tup ?h ?p ?l); (case h => walk_at "hp"); (case p => walk_at "dns"); (case l => simp))
  | ((refine' Dn.lst ?h ?b ?p ?l); (case h => walk_at "hp"); (case b => rfl); (case p => walk_at "dns"); (case l => simp))
  | walk_at "dnh")
local macro_rules | `(tactic| walk_at "dnh") => `(tactic| first
  | assumption
  | ((refine' Dn.same ?e ?h); (case e => assumption); (case h => walk_at "dnh")))
local macro_rules | `(tactic| walk_at "dns") => `(tactic| first
  | exact Paired.nil
  | ((refine' Paired.cons ?x ?r); (case x => walk_at "dn"); (case r => walk_at "dns")))
theorem sc_is_integer : FnScope ["value"] ["value"] (defScope s_is_integer) := ⟨rfl, rfl, rfl, by decide +kernel, rfl, by decide +kernel, by decide +kernel⟩
theorem sc_is_number : FnScope ["value"] ["value"] (defScope s_is_number) := ⟨rfl, rfl, rfl, by decide +kernel, rfl, by decide +kernel, by decide +kernel⟩
theorem sc_need_number : FnScope ["value"] ["value"] (defScope s_need_number) := ⟨rfl, rfl, rfl, by decide +kernel, rfl, by decide +kernel, by decide +kernel⟩
theorem sc_is_root : FnScope ["value"] ["value"] (defScope s_is_root) := ⟨rfl, rfl, rfl, by decide +kernel, rfl, by decide +kernel, by decide +kernel⟩
theorem sc_steps_up_to : FnScope ["period", "number", "found"] ["period", "number"] (defScope s_steps_up_to) := ⟨rfl, rfl, rfl, by decide +kernel, rfl, by decide +kernel, by decide +kernel⟩
theorem sc_can_stand : FnScope ["period", "place", "digit", "before", "most"] ["period", "place", "digit", "before"] (defScope s_can_stand) := ⟨rfl, rfl, rfl, by decide +kernel, rfl, by decide +kernel, by decide +kernel⟩
theorem sc_Field__init_ : FnScope ["self", "root"] ["self", "root"] (defScope s_Field__init_) := ⟨rfl, rfl, rfl, by decide +kernel, rfl, by decide +kernel, by decide +kernel⟩
theorem sc_Field_step : FnScope ["self", "place", "last", "found", "index"] ["self", "place"] (defScope s_Field_step) := ⟨rfl, rfl, rfl, by decide +kernel, rfl, by decide +kernel, by decide +kernel⟩
theorem sc_Field_digits : FnScope ["self", "number", "steps", "found", "step"] ["self", "number"] (defScope s_Field_digits) := ⟨rfl, rfl, rfl, by decide +kernel, rfl, by decide +kernel, by decide +kernel⟩
theorem sc_Field_value : FnScope ["self", "digits", "total", "before", "last", "step", "index", "digit"] ["self", "digits"] (defScope s_Field_value) := ⟨rfl, rfl, rfl, by decide +kernel, rfl, by decide +kernel, by decide +kernel⟩
theorem sc_law_bag : FnScope ["_law_script"] ["_law_script"] (defScope s_law_bag) := ⟨rfl, rfl, rfl, by decide +kernel, rfl, by decide +kernel, by decide +kernel⟩
theorem sc_law_pull : FnScope ["_law_bag_here", "_law_sides", "_law_cell", "_law_digit", "_law_twice"] ["_law_bag_here", "_law_sides"] (defScope s_law_pull) := ⟨rfl, rfl, rfl, by decide +kernel, rfl, by decide +kernel, by decide +kernel⟩
theorem sc_law_of : FnScope ["_law_bag_here", "_law_some"] ["_law_bag_here", "_law_some"] (defScope s_law_of) := ⟨rfl, rfl, rfl, by decide +kernel, rfl, by decide +kernel, by decide +kernel⟩
theorem sc_law_same : FnScope ["_law_found", "_law_due", "_law_a", "_law_b"] ["_law_found", "_law_due"] (defScope s_law_same) := ⟨rfl, rfl, rfl, by decide +kernel, rfl, by decide +kernel, by decide +kernel⟩
theorem sc_law_period : FnScope ["_law_root_here"] ["_law_root_here"] (defScope s_law_period) := ⟨rfl, rfl, rfl, by decide +kernel, rfl, by decide +kernel, by decide +kernel⟩
theorem sc_law_steps : FnScope ["_law_root_here", "_law_many", "_law_found", "_law_last", "_law_period_here", "_law_k"] ["_law_root_here", "_law_many"] (defScope s_law_steps) := ⟨rfl, rfl, rfl, by decide +kernel, rfl, by decide +kernel, by decide +kernel⟩
theorem sc_law_can : FnScope ["_law_root_here", "_law_place", "_law_digit", "_law_before", "_law_period_here", "_law_most"] ["_law_root_here", "_law_place", "_law_digit", "_law_before"] (defScope s_law_can) := ⟨rfl, rfl, rfl, by decide +kernel, rfl, by decide +kernel, by decide +kernel⟩
theorem sc_law_root : FnScope ["_law_bag_here"] ["_law_bag_here"] (defScope s_law_root) := ⟨rfl, rfl, rfl, by decide +kernel, rfl, by decide +kernel, by decide +kernel⟩
theorem sc_law : FnScope ["_law_script", "_law_bag_here", "_law_turn", "_law_root_here", "_law_field", "_law_places", "_law_room", "_law_lists", "_law_place", "_law_longer", "_law_some", "_law_before", "_law_number", "_law_many", "_law_digit", "_law_at"] ["_law_script"] (defScope s_law) := ⟨rfl, rfl, rfl, by decide +kernel, rfl, by decide +kernel, by decide +kernel⟩
structure Txt (K : PySem.W.Frag) (mg : Str → Option Value) : Prop where
  g_is_integer : mg "is_integer" = some (.ref (He.ga K "is_integer"))
  g_is_number : mg "is_number" = some (.ref (He.ga K "is_number"))
  g_need_number : mg "need_number" = some (.ref (He.ga K "need_number"))
  g_is_root : mg "is_root" = some (.ref (He.ga K "is_root"))
  g_steps_up_to : mg "steps_up_to" = some (.ref (He.ga K "steps_up_to"))
  g_can_stand : mg "can_stand" = some (.ref (He.ga K "can_stand"))
  g_law_bag : mg "_law_bag" = some (.ref (He.ga K "_law_bag"))
  g_law_pull : mg "_law_pull" = some (.ref (He.ga K "_law_pull"))
  g_law_of : mg "_law_of" = some (.ref (He.ga K "_law_of"))
  g_law_same : mg "_law_same" = some (.ref (He.ga K "_law_same"))
  g_law_period : mg "_law_period" = some (.ref (He.ga K "_law_period"))
  g_law_steps : mg "_law_steps" = some (.ref (He.ga K "_law_steps"))
  g_law_can : mg "_law_can" = some (.ref (He.ga K "_law_can"))
  g_law_root : mg "_law_root" = some (.ref (He.ga K "_law_root"))
  g_law : mg "law" = some (.ref (He.ga K "law"))
  g_Field : mg "Field" = some (.ref (He.ga K "Field"))
  b_abs : mg "abs" = none
  b_all : mg "all" = none
  b_bool : mg "bool" = none
  b_enumerate : mg "enumerate" = none
  b_int : mg "int" = none
  b_isinstance : mg "isinstance" = none
  b_len : mg "len" = none
  b_list : mg "list" = none
  b_range : mg "range" = none
  b_sorted : mg "sorted" = none
  b_str : mg "str" = none
  b_tuple : mg "tuple" = none
  b_zip : mg "zip" = none
  g_ROOTS : mg "ROOTS" = some (.ref (He.ga K "ROOTS"))
  c_MOST_NUMBER : ∃ t, mg "MOST_NUMBER" = some (.int 10000000000000000000000000000000000000000 t)
  c_MOST_PLACE : ∃ t, mg "MOST_PLACE" = some (.int 1000 t)
  g_PERIODS : mg "PERIODS" = some (.ref (He.ga K "PERIODS"))
  cl_Field : Cls K (He.ga K "Field")
  mk_Field : Mk K (He.ga K "Field") (He.ma K (He.ga K "Field") "__init__")
  na_Field_own_root : NoAttr K (He.ga K "Field") "own_root"
  na_Field_own_period : NoAttr K (He.ga K "Field") "own_period"
  na_Field_relations : NoAttr K (He.ga K "Field") "relations"
  me_Field_step : Meth K (He.ga K "Field") "step" (He.ma K (He.ga K "Field") "step")
  me_Field_digits : Meth K (He.ga K "Field") "digits" (He.ma K (He.ga K "Field") "digits")
  me_Field_value : Meth K (He.ga K "Field") "value" (He.ma K (He.ga K "Field") "value")
  F_is_integer : ∃ fd, FunD K "is_integer" "is_integer" (defArgs s_is_integer) (defBody s_is_integer) (defScope s_is_integer) [] [] (He.ga K "is_integer") fd
  F_is_number : ∃ fd, FunD K "is_number" "is_number" (defArgs s_is_number) (defBody s_is_number) (defScope s_is_number) [] [] (He.ga K "is_number") fd
  F_need_number : ∃ fd, FunD K "need_number" "need_number" (defArgs s_need_number) (defBody s_need_number) (defScope s_need_number) [] [] (He.ga K "need_number") fd
  F_is_root : ∃ fd, FunD K "is_root" "is_root" (defArgs s_is_root) (defBody s_is_root) (defScope s_is_root) [] [] (He.ga K "is_root") fd
  F_steps_up_to : ∃ fd, FunD K "steps_up_to" "steps_up_to" (defArgs s_steps_up_to) (defBody s_steps_up_to) (defScope s_steps_up_to) [] [] (He.ga K "steps_up_to") fd
  F_can_stand : ∃ fd, FunD K "can_stand" "can_stand" (defArgs s_can_stand) (defBody s_can_stand) (defScope s_can_stand) [] [] (He.ga K "can_stand") fd
  F_Field__init_ : ∃ fd, FunD K "__init__" "Field.__init__" (defArgs s_Field__init_) (defBody s_Field__init_) (defScope s_Field__init_) [] [] (He.ma K (He.ga K "Field") "__init__") fd
  F_Field_step : ∃ fd, FunD K "step" "Field.step" (defArgs s_Field_step) (defBody s_Field_step) (defScope s_Field_step) [] [] (He.ma K (He.ga K "Field") "step") fd
  F_Field_digits : ∃ fd, FunD K "digits" "Field.digits" (defArgs s_Field_digits) (defBody s_Field_digits) (defScope s_Field_digits) [] [] (He.ma K (He.ga K "Field") "digits") fd
  F_Field_value : ∃ fd, FunD K "value" "Field.value" (defArgs s_Field_value) (defBody s_Field_value) (defScope s_Field_value) [] [] (He.ma K (He.ga K "Field") "value") fd
  F_law_bag : ∃ fd, FunD K "_law_bag" "_law_bag" (defArgs s_law_bag) (defBody s_law_bag) (defScope s_law_bag) [] [] (He.ga K "_law_bag") fd
  F_law_pull : ∃ fd, FunD K "_law_pull" "_law_pull" (defArgs s_law_pull) (defBody s_law_pull) (defScope s_law_pull) [] [] (He.ga K "_law_pull") fd
  F_law_of : ∃ fd, FunD K "_law_of" "_law_of" (defArgs s_law_of) (defBody s_law_of) (defScope s_law_of) [] [] (He.ga K "_law_of") fd
  F_law_same : ∃ fd, FunD K "_law_same" "_law_same" (defArgs s_law_same) (defBody s_law_same) (defScope s_law_same) [] [] (He.ga K "_law_same") fd
  F_law_period : ∃ fd, FunD K "_law_period" "_law_period" (defArgs s_law_period) (defBody s_law_period) (defScope s_law_period) [] [] (He.ga K "_law_period") fd
  F_law_steps : ∃ fd, FunD K "_law_steps" "_law_steps" (defArgs s_law_steps) (defBody s_law_steps) (defScope s_law_steps) [] [] (He.ga K "_law_steps") fd
  F_law_can : ∃ fd, FunD K "_law_can" "_law_can" (defArgs s_law_can) (defBody s_law_can) (defScope s_law_can) [] [] (He.ga K "_law_can") fd
  F_law_root : ∃ fd, FunD K "_law_root" "_law_root" (defArgs s_law_root) (defBody s_law_root) (defScope s_law_root) [] [] (He.ga K "_law_root") fd
  F_law : ∃ fd, FunD K "law" "law" (defArgs s_law) (defBody s_law) (defScope s_law) [] [] (He.ga K "law") fd
  t_ROOTS : ∀ H, SqT K H (He.ga K "ROOTS") [.int 2, .int 3, .int 5, .int 6, .int 13]
  t_PERIODS : ∀ (k : Int) (vs : List Int), List.lookup k [(2, [2]), (3, [1, 2]), (5, [1]), (6, [2, 4]), (13, [3])] = some vs → ∃ u, IGet K (He.ga K "PERIODS") k vs u
section
variable {P : Program} {w : World} {K : PySem.W.Frag} {mg : Str → Option Value} {base : Heap}
theorem ok_law_bag (T : Txt K mg) : Ok P w K mg base 1 "_law_bag" ["_law_script"] (spBag K) := by
  refine Ok.mk T.F_law_bag T.g_law_bag sc_law_bag (fun _ _ _ _ _ _ us hl => match us, hl with | [_], _ => rfl) (fun vs H Q E h => ?_) (fun cdv A outer s H vs Q E hr h => ?_)
  · obtain ⟨a, ns, rfl, _⟩ := h
    rfl
  · obtain ⟨a, ns, rfl, hS, k⟩ := h
    refine ⟨_, (pss_one (ps_ret (pe_lst (pa_cons (pe_callTy c_list (by rfl) T.b_list (by decide +kernel) (pa_cons (pe_slice sl_list (pv 0) po_none (po_some pe_int)) pa_nil)) (pa_cons pe_int (pa_cons pe_int (pa_cons pe_int pa_nil))))))), ?_⟩
    walk_at "r"
    refine rd_slL hS fun l H1 n1 e1 h1 => ?_
    walk_at "r"
    refine rd_list (.inl (sqL_of h1)) fun l2 H2 n2 e2 h2 => ?_
    walk_at "r"
    refine rd_newL (by show 4 ≤ sizeLine; decide) fun b H3 n3 e3 h3 => ?_
    have e : cutV (ns.map V.int) none (some 63) = ((ns.drop (HT.sIx (ns.map V.int).length 0 none)).take (HT.sIx (ns.map V.int).length (ns.map V.int).length (some 63) - HT.sIx (ns.map V.int).length 0 none)).map V.int := by
      unfold cutV
      rw [List.map_take, List.map_drop]
    rw [e] at h2
    exact k b l2 _ H3 ((e1.trans e2).trans e3) ⟨0, 0, 3842, h3, e3 _ _ h2, by decide, by decide, by decide, by decide⟩
theorem ok_law_pull (T : Txt K mg) : Ok P w K mg base 1 "_law_pull" ["_law_bag_here", "_law_sides"] spPull := by
  refine Ok.mk T.F_law_pull T.g_law_pull sc_law_pull (fun _ _ _ _ _ _ us hl => match us, hl with | [_, _], _ => rfl) (fun vs H Q E h => ?_) (fun cdv A outer s H vs Q E hr h => ?_)
  · obtain ⟨a, c, ns, n, rfl, _⟩ := h
    rfl
  · obtain ⟨a, c, ns, n, rfl, hB, hn0, hn1, k⟩ := h
    refine ⟨_, (Evl.pss_cut (ps_if (PW.pt (pw_and (pt_cmpR op_eq (pe_ix ix_list (pv 0) pe_int (fun _ _ => rfl)) pe_int (nomark _)) (pw_and1 (pt_cmpR op_lt (pe_ix ix_list (pv 0) pe_int (fun _ _ => rfl)) (pe_callB c_len (by rfl) T.b_len (by decide +kernel) (pa_cons (pe_ix ix_list (pv 0) pe_int (fun _ _ => rfl)) pa_nil)) (nomark _))))) (pss_cons (ps_set (i := 2) sc_law_pull.nd rfl (.inl rfl) (pe_ix ix_list (pe_ix ix_list (pv 0) pe_int (fun _ _ => rfl)) (pe_ix ix_list (pv 0) pe_int (fun _ _ => rfl)) (fun _ _ => rfl)))
      (pss_cons (ps_asg (pe_op op_add (pe_ix ix_list (pv 0) pe_int (fun _ _ => rfl)) pe_int) (pg_sub (pv 0) pe_int set_list))
      (pss_one (ps_if (pt_cmpR op_ge (pe_callB c_abs (by rfl) T.b_abs (by decide +kernel) (pa_cons (pv 2) pa_nil)) (pe_op op_pow pe_int pe_int) (nomark _)) (pss_one (ps_asg (pe_callB c_abs (by rfl) T.b_abs (by decide +kernel) (pa_cons (pv 2) pa_nil)) (pg_sub (pv 0) pe_int set_list))) (pss_one (ps_asg (pe_op op_mod (pe_callTy c_int (by rfl) T.b_int (by decide +kernel) (pa_cons (pe_op op_add (pe_op op_add (pe_op op_mul (pe_ix ix_list (pv 0) pe_int (fun _ _ => rfl)) pe_int) (pe_op op_mul (pe_op op_mod (pe_callTy c_int (by rfl) T.b_int (by decide +kernel) (pa_cons (pv 2) pa_nil)) pe_int) pe_int)) pe_int) pa_nil)) pe_int) (pg_sub (pv 0) pe_int set_list))))))) pss_nil)
      (pss_cons (ps_if (pt_cmpR op_gt (pe_ix ix_list (pv 0) pe_int (fun _ _ => rfl)) pe_int (nomark _)) (pss_cons (ps_set (i := 3) sc_law_pull.nd rfl (.inl rfl) (pe_op op_mod (pe_callTy c_int (by rfl) T.b_int (by decide +kernel) (pa_cons (pe_ix ix_list (pv 0) pe_int (fun _ _ => rfl)) pa_nil)) (pv 1)))
      (pss_cons (ps_asg (pe_op op_fdiv (pe_ix ix_list (pv 0) pe_int (fun _ _ => rfl)) (pv 1)) (pg_sub (pv 0) pe_int set_list))
      (pss_one (ps_ret (pv 3))))) pss_nil)
      (pss_cons (ps_set (i := 4) sc_law_pull.nd rfl (.inl rfl) (pe_op op_mod (pe_callTy c_int (by rfl) T.b_int (by decide +kernel) (pa_cons (pe_op op_mul (pe_ix ix_list (pv 0) pe_int (fun _ _ => rfl)) (pe_ix ix_list (pv 0) pe_int (fun _ _ => rfl))) pa_nil)) pe_int))
      (pss_cons (ps_asg (pe_op op_mod (pe_callTy c_int (by rfl) T.b_int (by decide +kernel) (pa_cons (pe_op op_add (pe_op op_add (pe_op op_mul (pv 4) pe_int) (pe_op op_mul (pe_ix ix_list (pv 0) pe_int (fun _ _ => rfl)) pe_int)) pe_int) pa_nil)) pe_int) (pg_sub (pv 0) pe_int set_list))
      (pss_one (ps_ret (pe_op op_mod (pe_callTy c_int (by rfl) T.b_int (by decide +kernel) (pa_cons (pe_op op_fdiv (pe_ix ix_list (pv 0) pe_int (fun _ _ => rfl)) pe_int) pa_nil)) (pv 1)))))))), ?_⟩
    refine ⟨fun σ' H' => ∃ v2, σ' = [some (.ref a), some (.int n), v2, none, none] ∧ Ext H H' ∧ Bag a c ns H', ?_, ?_⟩
    · obtain ⟨i, g, s, h1, h2, hi, hg, hs0, hs1⟩ := hB
      walk_at "r"
      refine rd_ixL (sqL_of h1) (v := .int g) rfl ?_
      walk_at "r"
      refine rd_dec (fun hg0 => ?_) (fun _ => ?_)
      · walk_at "r"
        refine rd_ixL (sqL_of h1) (v := .int i) rfl ?_
        walk_at "r"
        refine rd_ixL (sqL_of h1) (v := .ref c) rfl ?_
        walk_at "r"
        refine rd_lenL (sqL_of h2) ?_
        walk_at "r"
        refine rd_dec (fun hlt => ?_) (fun _ => ?_)
        · obtain ⟨z, hz⟩ := atI_ints hi hlt
          walk_at "r"
          refine rd_ixL (sqL_of h1) (v := .ref c) rfl ?_
          walk_at "r"
          refine rd_ixL (sqL_of h1) (v := .int i) rfl ?_
          refine rd_ixL (sqL_of h2) hz ?_
          walk_at "r"
          refine rd_ixL (sqL_of h1) (v := .int i) rfl ?_
          walk_at "r"
          refine rd_setL h1 (j := 1) rfl fun H1 c1 g1 => ?_
          have x1 : Ext H H1 := c1.ext h1 rfl
          have g2 : H1 c = some (.lst (ns.map V.int)) := x1 _ _ h2 (bag_ints _)
          walk_at "r"
          refine rd_abs ?_
          walk_at "r"
          refine rd_I ⟨by decide, by decide, by decide⟩ ?_
          walk_at "r"
          refine rd_dec (fun hbig => ?_) (fun _ => ?_)
          · walk_at "r"
            refine rd_abs ?_
            walk_at "r"
            refine rd_setL g1 (j := 2) rfl fun H2 c2 g3 => ?_
            have x2 : Ext H1 H2 := c2.ext g1 rfl
            exact ⟨_, rfl, x1.trans x2, i + 1, z.natAbs, s, g3, x2 _ _ g2 (bag_ints _), by omega, by omega, hs0, hs1⟩
          · walk_at "r"
            refine rd_ixL (sqL_of g1) (v := .int s) rfl ?_
            walk_at "r"
            refine rd_I (.inr ⟨by decide, by decide⟩) ?_
            walk_at "r"
            refine rd_intI ?_
            walk_at "r"
            refine rd_I (by decide) ?_
            walk_at "r"
            refine rd_I (.inr ⟨by decide, by decide⟩) ?_
            walk_at "r"
            refine rd_intI ?_
            walk_at "r"
            refine rd_I (by decide) ?_
            walk_at "r"
            refine rd_setL g1 (j := 3) rfl fun H2 c2 g3 => ?_
            have x2 : Ext H1 H2 := c2.ext g1 rfl
            exact ⟨_, rfl, x1.trans x2, i + 1, g, _, g3, x2 _ _ g2 (bag_ints _), by omega, hg, Int.emod_nonneg _ (by decide), Int.emod_lt_of_pos _ (by decide)⟩
        · walk_at "r"
          exact ⟨_, rfl, .refl _, i, g, s, h1, h2, hi, hg, hs0, hs1⟩
      · walk_at "r"
        exact ⟨_, rfl, .refl _, i, g, s, h1, h2, hi, hg, hs0, hs1⟩
    · rintro σ H1 ⟨v2, rfl, x1, i, g, s, h1, h2, hi, hg, hs0, hs1⟩
      walk_at "r"
      refine rd_ixL (sqL_of h1) (v := .int g) rfl ?_
      walk_at "r"
      refine rd_dec (fun hg0 => ?_) (fun _ => ?_)
      · walk_at "r"
        refine rd_ixL (sqL_of h1) (v := .int g) rfl ?_
        walk_at "r"
        refine rd_intI ?_
        walk_at "r"
        refine rd_I hn0 ?_
        walk_at "r"
        refine rd_ixL (sqL_of h1) (v := .int g) rfl ?_
        walk_at "r"
        refine rd_I ⟨hn0, hn1⟩ ?_
        walk_at "r"
        refine rd_setL h1 (j := 2) rfl fun H2 c2 g3 => ?_
        have x2 : Ext H1 H2 := c2.ext h1 rfl
        walk_at "r"
        exact k _ H2 (Int.emod_nonneg _ (by omega)) (Int.emod_lt_of_pos _ hn0) (x1.trans x2) ⟨i, _, s, g3, x2 _ _ h2 (bag_ints _), hi, Int.ediv_nonneg hg (by omega), hs0, hs1⟩
      · walk_at "r"
        refine rd_ixL (sqL_of h1) (v := .int s) rfl ?_
        walk_at "r"
        refine rd_ixL (sqL_of h1) (v := .int s) rfl ?_
        refine rd_I (.inl ⟨by omega, by omega⟩) ?_
        walk_at "r"
        refine rd_intI ?_
        walk_at "r"
        refine rd_I (by decide) ?_
        walk_at "r"
        refine rd_I (.inr ⟨by decide, by decide⟩) ?_
        walk_at "r"
        refine rd_ixL (sqL_of h1) (v := .int s) rfl ?_
        walk_at "r"
        refine rd_I (.inr ⟨by decide, by decide⟩) ?_
        walk_at "r"
        refine rd_intI ?_
        walk_at "r"
        refine rd_I (by decide) ?_
        walk_at "r"
        refine rd_setL h1 (j := 3) rfl fun H2 c2 g3 => ?_
        have x2 : Ext H1 H2 := c2.ext h1 rfl
        walk_at "r"
        refine rd_ixL (sqL_of g3) (v := .int _) rfl ?_
        walk_at "r"
        refine rd_I ⟨by decide, by decide⟩ ?_
        walk_at "r"
        refine rd_intI ?_
        walk_at "r"
        refine rd_I hn0 ?_
        exact k _ H2 (Int.emod_nonneg _ (by omega)) (Int.emod_lt_of_pos _ hn0) (x1.trans x2) ⟨i, g, _, g3, x2 _ _ h2 (bag_ints _), hi, hg, Int.emod_nonneg _ (by decide), Int.emod_lt_of_pos _ (by decide)⟩
theorem atI_in {xs : List V} {d : Int} (h0 : 0 ≤ d) (h1 : d < xs.length) : ∃ v, atI xs d = some v ∧ v ∈ xs := by
  have hl : d.toNat < xs.length := by omega
  have e : ((d.toNat : Nat) : Int) = d := by omega
  have q : atI xs ((d.toNat : Nat) : Int) = some xs[d.toNat] := atI_nat (List.getElem?_eq_getElem hl)
  rw [e] at q
  exact ⟨_, q, List.getElem_mem hl⟩
theorem ok_law_of (T : Txt K mg) (h_law_pull : Ok P w K mg base 1 "_law_pull" ["_law_bag_here", "_law_sides"] spPull) : Ok P w K mg base 2 "_law_of" ["_law_bag_here", "_law_some"] (spOf K) := by
  refine Ok.mk T.F_law_of T.g_law_of sc_law_of (fun _ _ _ _ _ _ us hl => match us, hl with | [_, _], _ => rfl) (fun vs H Q E h => ?_) (fun cdv A outer s H vs Q E hr h => ?_)
  · obtain ⟨a, c, l, ns, xs, rfl, _⟩ := h
    rfl
  · obtain ⟨a, c, l, ns, xs, rfl, hB, hL, hb, hx, hz, k⟩ := h
    refine ⟨_, (pss_one (ps_ret (pe_ix ix_list (pv 1) (pe_ok h_law_pull (hr.mono (by omega)) (by rfl) (pa_cons (pv 0) (pa_cons (pe_callB c_len (by rfl) T.b_len (by decide +kernel) (pa_cons (pv 1) pa_nil)) pa_nil))) (fun _ _ => rfl)))), ?_⟩
    walk_at "r"
    refine rd_lenL hL ?_
    walk_at "r"
    have hp : 0 < xs.length := List.length_pos_iff.mpr hx
    refine ⟨a, c, ns, _, rfl, hB, by omega, by omega, fun d H1 h0 h1 x1 B1 => ?_⟩
    obtain ⟨v, hv, hm⟩ := atI_in h0 h1
    refine rd_ixL (SqL.ext x1 hL hb) hv ?_
    exact k v H1 hm x1 B1
theorem ok_law_same1 (T : Txt K mg) (n : Nat) (hn : n ≤ 60) {spR : Sp} (h_law_same : Ok P w K mg base n "_law_same" ["_law_found", "_law_due"] spR) (hR : ∀ j, n = j + 1 → ∀ vs H Q E, spSame j vs H Q E → spR vs H Q E) :
    Ok P w K mg base (n + 1) "_law_same" ["_law_found", "_law_due"] (spSame n) := by
  refine Ok.mk T.F_law_same T.g_law_same sc_law_same (fun _ _ _ _ _ _ us hl => match us, hl with | [_, _], _ => rfl) (fun vs H Q E h => ?_) (fun cdv A outer s H vs Q E hr h => ?_)
  · obtain ⟨v1, v2, d, rfl, _⟩ := h
    rfl
  · obtain ⟨v1, v2, d, rfl, hA, hB, k⟩ := h
    refine ⟨_, (pss_cons (ps_if (PW.pt (pw_or (pt_cmpR op_isN (pv 1) pe_non (nomark _)) (pw_or1 (pt_cmpR op_isN (pv 0) pe_non (nomark _))))) (pss_one (ps_ret (pe_and (pe_cmpR op_isN (pv 1) pe_non (nomark _)) (pe_one (pe_cmpR op_isN (pv 0) pe_non (nomark _)))))) pss_nil)
      (pss_cons (ps_if (PW.pt (pw_or (pt_val (pe_callB call_isi (by rfl) T.b_isinstance (by decide +kernel) (pa_cons (pv 1) (pa_cons (pe_gty (T := "bool") T.b_bool (by rfl) (by decide +kernel)) pa_nil)))) (pw_or1 (pt_val (pe_callB call_isi (by rfl) T.b_isinstance (by decide +kernel) (pa_cons (pv 0) (pa_cons (pe_gty (T := "bool") T.b_bool (by rfl) (by decide +kernel)) pa_nil))))))) (pss_one (ps_ret (pe_and (pe_callB call_isi (by rfl) T.b_isinstance (by decide +kernel) (pa_cons (pv 1) (pa_cons (pe_gty (T := "bool") T.b_bool (by rfl) (by decide +kernel)) pa_nil))) (pe_and (pe_callB call_isi (by rfl) T.b_isinstance (by decide +kernel) (pa_cons (pv 0) (pa_cons (pe_gty (T := "bool") T.b_bool (by rfl) (by decide +kernel)) pa_nil))) (pe_one (pe_cmpR op_eq (pv 0) (pv 1) (nomark _))))))) pss_nil)
      (pss_cons (ps_if (PW.pt (pw_or (pt_val (pe_callB call_isiT (by rfl) T.b_isinstance (by decide +kernel) (pa_cons (pv 1) (pa_cons (pe_tup (pa_cons (pe_gty (T := "list") T.b_list (by rfl) (by decide +kernel)) (pa_cons (pe_gty (T := "tuple") T.b_tuple (by rfl) (by decide +kernel)) pa_nil))) pa_nil)))) (pw_or1 (pt_val (pe_callB call_isiT (by rfl) T.b_isinstance (by decide +kernel) (pa_cons (pv 0) (pa_cons (pe_tup (pa_cons (pe_gty (T := "list") T.b_list (by rfl) (by decide +kernel)) (pa_cons (pe_gty (T := "tuple") T.b_tuple (by rfl) (by decide +kernel)) pa_nil))) pa_nil))))))) (pss_cons (ps_if (PW.pt (pw_or (pt_cmpR op_ne (pe_callB call_isi (by rfl) T.b_isinstance (by decide +kernel) (pa_cons (pv 1) (pa_cons (pe_gty (T := "list") T.b_list (by rfl) (by decide +kernel)) pa_nil))) (pe_callB call_isi (by rfl) T.b_isinstance (by decide +kernel) (pa_cons (pv 0) (pa_cons (pe_gty (T := "list") T.b_list (by rfl) (by decide +kernel)) pa_nil))) (nomark _)) (pw_or1 (pt_cmpR op_ne (pe_callB call_isi (by rfl) T.b_isinstance (by decide +kernel) (pa_cons (pv 1) (pa_cons (pe_gty (T := "tuple") T.b_tuple (by rfl) (by decide +kernel)) pa_nil))) (pe_callB call_isi (by rfl) T.b_isinstance (by decide +kernel) (pa_cons (pv 0) (pa_cons (pe_gty (T := "tuple") T.b_tuple (by rfl) (by decide +kernel)) pa_nil))) (nomark _))))) (pss_one (ps_ret pe_bl)) pss_nil)
      (pss_one (ps_ret (pe_and (pe_cmpR op_eq (pe_callB c_len (by rfl) T.b_len (by decide +kernel) (pa_cons (pv 0) pa_nil)) (pe_callB c_len (by rfl) T.b_len (by decide +kernel) (pa_cons (pv 1) pa_nil)) (nomark _)) (pe_one (pe_callB (cr_all rfl) (by rfl) T.b_all (by decide +kernel) (pa_cons (pe_lc (own := [("_law_a", 2), ("_law_b", 3)]) (g := (gTup K 2 (gCons (gName 2) (gCons (gName 3) gNil)))) (by rfl) sc_law_same.nd (RZ.pi_zipA (by rfl) T.b_zip (pa_cons (pv 0) (pa_cons (pv 1) pa_nil))) (blkOk_by (own := [("_law_a", 2), ("_law_b", 3)]) (N := ["_law_found", "_law_due", "_law_a", "_law_b"]) (sc := defScope s_law_same) (by decide +kernel)) (fun _ _ _ _ _ => (pg_tup rfl (pgs_cons (pg_name (i := 2) sc_law_same.nd rfl (.inl rfl)) (pgs_cons (pg_name (i := 3) sc_law_same.nd rfl (.inl rfl)) pgs_nil)))) (fun _ _ _ _ _ => pts_nil) (fun _ _ _ _ _ => (pe_ok h_law_same (hr.mono (by omega)) (by rfl) (pa_cons (pv 2) (pa_cons (pv 3) pa_nil))))) pa_nil))))))) pss_nil)
      (pss_cons (ps_if (PW.pt (pw_or (pt_cmpR op_ne (pe_callB call_isi (by rfl) T.b_isinstance (by decide +kernel) (pa_cons (pv 1) (pa_cons (pe_gty (T := "int") T.b_int (by rfl) (by decide +kernel)) pa_nil))) (pe_callB call_isi (by rfl) T.b_isinstance (by decide +kernel) (pa_cons (pv 0) (pa_cons (pe_gty (T := "int") T.b_int (by rfl) (by decide +kernel)) pa_nil))) (nomark _)) (pw_or1 (pt_cmpR op_ne (pe_callB call_isi (by rfl) T.b_isinstance (by decide +kernel) (pa_cons (pv 1) (pa_cons (pe_gty (T := "str") T.b_str (by rfl) (by decide +kernel)) pa_nil))) (pe_callB call_isi (by rfl) T.b_isinstance (by decide +kernel) (pa_cons (pv 0) (pa_cons (pe_gty (T := "str") T.b_str (by rfl) (by decide +kernel)) pa_nil))) (nomark _))))) (pss_one (ps_ret pe_bl)) pss_nil)
      (pss_one (ps_ret (pe_cmpR op_eq (pv 0) (pv 1) (nomark _)))))))), ?_⟩
    have hN : ∀ v, Dn n H v d → d ≠ .none → v ≠ .non := fun v h hd hv => by
      subst hv
      cases d with
      | none => exact hd rfl
      | str x => cases n <;> cases h.1
      | list => cases n with
        | zero => exact h
        | succ => obtain ⟨_, _, h, _⟩ := h; cases h
      | tuple => cases n with
        | zero => exact h
        | succ => obtain ⟨_, _, h, _⟩ := h; cases h
      | dict => cases n <;> exact h
      | _ => cases n <;> cases h
    by_cases hd : d = .none
    · subst hd
      have e1 : v1 = .non := by cases n <;> exact hA
      have e2 : v2 = .non := by cases n <;> exact hB
      subst e1 e2
      walk_at "r"
      refine ⟨rfl, ?_⟩
      walk_at "r"
      refine rd_dec (fun _ => ?_) (fun z => absurd rfl z)
      walk_at "r"
      refine ⟨rfl, ?_⟩
      walk_at "r"
      refine rd_dec (fun _ => ?_) (fun z => absurd rfl z)
      walk_at "r"
      exact ⟨rfl, k _ (.refl _)⟩
    · have n1 := hN v1 hA hd
      have n2 := hN v2 hB hd
      walk_at "r"
      refine ⟨rfl, ?_⟩
      walk_at "r"
      refine rd_dec (fun z => absurd z n2) (fun _ => ?_)
      walk_at "r"
      refine ⟨rfl, ?_⟩
      walk_at "r"
      refine rd_dec (fun z => absurd z n1) (fun _ => ?_)
      walk_at "r"
      refine rd_isi hB (by decide) ?_
      walk_at "r"
      refine rd_bool (fun eb => ?_) (fun eb => ?_)
      · obtain ⟨b, rfl⟩ : ∃ b, d = .bool b := by
          rw [isA_bool] at eb
          cases d with
          | bool b => exact ⟨b, rfl⟩
          | _ => cases eb
        have e1 : v1 = .bl b := by cases n <;> exact hA
        have e2 : v2 = .bl b := by cases n <;> exact hB
        subst e1 e2
        walk_at "r"
        refine rd_isi hB (by decide) ?_
        walk_at "r"
        refine rd_bool (fun _ => ?_) (fun z => by rw [eb] at z; cases z)
        walk_at "r"
        refine rd_isi hA (by decide) ?_
        walk_at "r"
        refine rd_bool (fun _ => ?_) (fun z => by rw [eb] at z; cases z)
        walk_at "r"
        have q := k H (.refl _)
        rw [← decide_eq_true (rfl : V.bl b = V.bl b)] at q
        exact q
      · walk_at "r"
        refine rd_isi hA (by decide) ?_
        walk_at "r"
        refine rd_bool (fun z => by rw [eb] at z; cases z) (fun _ => ?_)
        walk_at "r"
        refine rd_newT (by show 2 ≤ sizeLine; decide) fun pt H1 m1 s1 h1 => ?_
        replace hA := hA.same s1
        replace hB := hB.same s1
        walk_at "r"
        refine rd_isiLT hB h1 ?_
        walk_at "r"
        cases d with
        | none => exact absurd rfl hd
        | bool b => cases eb
        | dict => cases n <;> exact hA.elim
        | int i =>
          have e1 := hA.eq_int
          have e2 := hB.eq_int
          subst e1 e2
          refine rd_bool (fun z => by rw [isA_list, isA_tuple] at z; cases z) (fun _ => ?_)
          walk_at "r"
          refine rd_newT (by show 2 ≤ sizeLine; decide) fun pt2 H2 m2 s2 h2 => ?_
          replace hA := hA.same s2
          replace hB := hB.same s2
          walk_at "r"
          refine rd_isiLT hA h2 ?_
          walk_at "r"
          refine rd_bool (fun z => by rw [isA_list, isA_tuple] at z; cases z) (fun _ => ?_)
          walk_at "r"
          refine rd_isi hB (by decide) ?_
          walk_at "r"
          refine rd_isi hA (by decide) ?_
          walk_at "r"
          refine rd_ndec (fun z => absurd rfl z) (fun _ => ?_)
          walk_at "r"
          refine rd_isi hB (by decide) ?_
          walk_at "r"
          refine rd_isi hA (by decide) ?_
          walk_at "r"
          refine rd_ndec (fun z => absurd rfl z) (fun _ => ?_)
          walk_at "r"
          have q := k H2 (s1.trans s2)
          rw [← decide_eq_true (rfl : V.int i = V.int i)] at q
          exact q
        | str x =>
          have e1 := hA.eq_str
          have e2 := hB.eq_str
          subst e1 e2
          refine rd_bool (fun z => by rw [isA_list, isA_tuple] at z; cases z) (fun _ => ?_)
          walk_at "r"
          refine rd_newT (by show 2 ≤ sizeLine; decide) fun pt2 H2 m2 s2 h2 => ?_
          replace hA := hA.same s2
          replace hB := hB.same s2
          walk_at "r"
          refine rd_isiLT hA h2 ?_
          walk_at "r"
          refine rd_bool (fun z => by rw [isA_list, isA_tuple] at z; cases z) (fun _ => ?_)
          walk_at "r"
          refine rd_isi hB (by decide) ?_
          walk_at "r"
          refine rd_isi hA (by decide) ?_
          walk_at "r"
          refine rd_ndec (fun z => absurd rfl z) (fun _ => ?_)
          walk_at "r"
          refine rd_isi hB (by decide) ?_
          walk_at "r"
          refine rd_isi hA (by decide) ?_
          walk_at "r"
          refine rd_ndec (fun z => absurd rfl z) (fun _ => ?_)
          walk_at "r"
          have q := k H2 (s1.trans s2)
          rw [← decide_eq_true (rfl : V.str x = V.str x)] at q
          exact q
        | list ds =>
          refine rd_bool (fun _ => ?_) (fun z => by rw [isA_list, isA_tuple] at z; cases z)
          walk_at "r"
          refine rd_isi hB (by decide) ?_
          walk_at "r"
          refine rd_isi hA (by decide) ?_
          walk_at "r"
          refine rd_ndec (fun z => absurd rfl z) (fun _ => ?_)
          walk_at "r"
          refine rd_isi hB (by decide) ?_
          walk_at "r"
          refine rd_isi hA (by decide) ?_
          walk_at "r"
          refine rd_ndec (fun z => absurd rfl z) (fun _ => ?_)
          walk_at "r"
          obtain ⟨m, a, xs, rfl, rfl, a1, ab, ap⟩ := hA.of_list
          obtain ⟨m', b, ys, e, rfl, b1, bb, bp⟩ := hB.of_list
          cases e
          have la := Dn.len ap
          have lb := Dn.len bp
          refine rd_lenL (sqL_of a1) ?_
          walk_at "r"
          refine rd_lenL (sqL_of b1) ?_
          walk_at "r"
          refine rd_dec (fun _ => ?_) (fun z => absurd (by rw [la, lb]) z)
          walk_at "r"
          refine rd_wkZL (sqL_of a1) (sqL_of b1) ?_
          have hz := hA.llen a1
          refine lc_pure (walk_zip (xs := xs) (ys := ys) rfl) (fun H' s => ⟨sqL_of (s _ _ a1), sqL_of (s _ _ b1)⟩) (fun _ => some (.bl true)) ?_ (fun i x H2 H3 Q' N' hi s2 y q1 q2 => ?_) (fun D H' nD s2 hD1 => ?_)
          · omega
          · obtain ⟨tt, x, y, rfl, ht, rfl, hx, hy⟩ := y
            obtain ⟨di, hdi, pi⟩ := pat ap hx
            obtain ⟨dj, hdj, pj⟩ := pat bp hy
            rw [hdi] at hdj
            cases hdj
            have st := Same.new (o := .tup [x, y]) ht
            walk_at "r"
            refine rd_gTup (sqT_of upd_same) rfl ?_
            walk_at "r"
            exact hR m rfl _ _ _ _ ⟨x, y, di, rfl, (pi.same s2).same st, (pj.same s2).same st, fun H4 s4 => q1 _ _ rfl (st.trans s4)⟩
          · walk_at "r"
            refine all_lst hD1 (all_yes _) ?_
            rw [all_yes2]
            exact k H' (s1.trans s2)
        | tuple ds =>
          refine rd_bool (fun _ => ?_) (fun z => by rw [isA_list, isA_tuple] at z; cases z)
          walk_at "r"
          refine rd_isi hB (by decide) ?_
          walk_at "r"
          refine rd_isi hA (by decide) ?_
          walk_at "r"
          refine rd_ndec (fun z => absurd rfl z) (fun _ => ?_)
          walk_at "r"
          refine rd_isi hB (by decide) ?_
          walk_at "r"
          refine rd_isi hA (by decide) ?_
          walk_at "r"
          refine rd_ndec (fun z => absurd rfl z) (fun _ => ?_)
          walk_at "r"
          obtain ⟨m, a, xs, rfl, rfl, a1, ap⟩ := hA.of_tuple
          obtain ⟨m', b, ys, e, rfl, b1, bp⟩ := hB.of_tuple
          cases e
          have la := Dn.len ap
          have lb := Dn.len bp
          refine rd_lenT (sqT_of a1) ?_
          walk_at "r"
          refine rd_lenT (sqT_of b1) ?_
          walk_at "r"
          refine rd_dec (fun _ => ?_) (fun z => absurd (by rw [la, lb]) z)
          walk_at "r"
          refine rd_wkZT (sqT_of a1) (sqT_of b1) ?_
          have hz := hA.tlen a1
          refine lc_pure (walk_zipT (xs := xs) (ys := ys) rfl) (fun H' s => ⟨sqT_of (s _ _ a1), sqT_of (s _ _ b1)⟩) (fun _ => some (.bl true)) ?_ (fun i x H2 H3 Q' N' hi s2 y q1 q2 => ?_) (fun D H' nD s2 hD1 => ?_)
          · omega
          · obtain ⟨tt, x, y, rfl, ht, rfl, hx, hy⟩ := y
            obtain ⟨di, hdi, pi⟩ := pat ap hx
            obtain ⟨dj, hdj, pj⟩ := pat bp hy
            rw [hdi] at hdj
            cases hdj
            have st := Same.new (o := .tup [x, y]) ht
            walk_at "r"
            refine rd_gTup (sqT_of upd_same) rfl ?_
            walk_at "r"
            exact hR m rfl _ _ _ _ ⟨x, y, di, rfl, (pi.same s2).same st, (pj.same s2).same st, fun H4 s4 => q1 _ _ rfl (st.trans s4)⟩
          · walk_at "r"
            refine all_lst hD1 (all_yes _) ?_
            rw [all_yes2]
            exact k H' (s1.trans s2)
theorem ok_law_same (T : Txt K mg) : ∀ n : Nat, n ≤ 60 → Ok P w K mg base (n + 1) "_law_same" ["_law_found", "_law_due"] (spSame n)
  | 0, h => ok_law_same1 T 0 h (Ok.never T.F_law_same T.g_law_same (fun _ _ _ _ _ _ us hl => match us, hl with | [_, _], _ => rfl)) (fun j e => by cases e)
  | n + 1, h => ok_law_same1 T (n + 1) h (ok_law_same T n (by omega)) (fun j e vs H Q E h => by cases e; exact h)
theorem ok_is_integer (T : Txt K mg) : Ok P w K mg base 1 "is_integer" ["value"] spInteger := by
  refine Ok.mk T.F_is_integer T.g_is_integer sc_is_integer (fun _ _ _ _ _ _ us hl => match us, hl with | [_], _ => rfl) (fun vs H Q E h => ?_) (fun cdv A outer s H vs Q E hr h => ?_)
  · obtain ⟨n, v, d, rfl, _⟩ := h
    rfl
  · obtain ⟨n, v, d, rfl, hD, k⟩ := h
    refine ⟨_, (pss_one (ps_ret (pe_and (pe_callB call_isi (by rfl) T.b_isinstance (by decide +kernel) (pa_cons (pv 0) (pa_cons (pe_gty (T := "int") T.b_int (by rfl) (by decide +kernel)) pa_nil))) (pe_one (pe_not (pe_callB call_isi (by rfl) T.b_isinstance (by decide +kernel) (pa_cons (pv 0) (pa_cons (pe_gty (T := "bool") T.b_bool (by rfl) (by decide +kernel)) pa_nil)))))))), ?_⟩
    rw [isIntD_eq] at k
    walk_at "r"
    refine rd_isi hD (by decide) ?_
    walk_at "r"
    refine rd_bool (fun e => ?_) (fun e => ?_)
    · walk_at "r"
      refine rd_isi hD (by decide) ?_
      walk_at "r"
      rw [e] at k
      exact k
    · rw [e] at k
      exact k
theorem ok_is_root (T : Txt K mg) (h_is_integer : Ok P w K mg base 1 "is_integer" ["value"] spInteger) : Ok P w K mg base 2 "is_root" ["value"] spIsRoot := by
  refine Ok.mk T.F_is_root T.g_is_root sc_is_root (fun _ _ _ _ _ _ us hl => match us, hl with | [_], _ => rfl) (fun vs H Q E h => ?_) (fun cdv A outer s H vs Q E hr h => ?_)
  · obtain ⟨d, rfl, _⟩ := h
    rfl
  · obtain ⟨d, rfl, hd, k⟩ := h
    refine ⟨_, (pss_one (ps_ret (pe_and (pe_ok h_is_integer (hr.mono (by omega)) (by rfl) (pa_cons (pv 0) pa_nil)) (pe_one (pe_cmpR op_in_seq (pv 0) (pe_gref T.g_ROOTS (by rfl)) (by rfl)))))), ?_⟩
    walk_at "r"
    refine ⟨0, _, .int d, rfl, Dn.int _, ?_⟩
    refine rd_bl ?_
    refine rd_bool (fun _ => ?_) (fun z => by cases z)
    walk_at "r"
    refine rd_in (T.t_ROOTS H) rfl rfl ?_
    have e : inV (.int d) [.int 2, .int 3, .int 5, .int 6, .int 13] = true := by
      simp only [roots, List.mem_cons, List.not_mem_nil, or_false] at hd
      rcases hd with rfl | rfl | rfl | rfl | rfl <;> decide
    rw [e]
    exact k
theorem ok_law_root (T : Txt K mg) (h_law_of : Ok P w K mg base 2 "_law_of" ["_law_bag_here", "_law_some"] (spOf K)) : Ok P w K mg base 3 "_law_root" ["_law_bag_here"] spLRoot := by
  refine Ok.mk T.F_law_root T.g_law_root sc_law_root (fun _ _ _ _ _ _ us hl => match us, hl with | [_], _ => rfl) (fun vs H Q E h => ?_) (fun cdv A outer s H vs Q E hr h => ?_)
  · obtain ⟨a, c, ns, rfl, _⟩ := h
    rfl
  · obtain ⟨a, c, ns, rfl, hB, k⟩ := h
    refine ⟨_, (pss_one (ps_ret (pe_ok h_law_of (hr.mono (by omega)) (by rfl) (pa_cons (pv 0) (pa_cons (pe_lst (pa_cons pe_int (pa_cons pe_int (pa_cons pe_int (pa_cons pe_int (pa_cons pe_int pa_nil)))))) pa_nil))))), ?_⟩
    walk_at "a"
    rename_i l H1 _ s1 h1
    refine ⟨a, c, _, ns, _, rfl, hB.same s1, sqL_of h1, rfl, List.cons_ne_nil _ _, by show 5 < 1073741824; decide, fun v H2 hv e2 B2 => ?_⟩
    simp only [List.mem_cons, List.not_mem_nil, or_false] at hv
    have e := (Ext.of s1).trans e2
    rcases hv with rfl | rfl | rfl | rfl | rfl <;> exact k _ H2 (by decide) e B2
abbrev finitA (K : PySem.W.Frag) : Addr := He.ma K (He.ga K "Field") "__init__"
abbrev fieldM (K : PySem.W.Frag) (m : Str) : Addr := He.ma K (He.ga K "Field") m
theorem fn_finit (T : Txt K mg) (h_is_root : Ok P w K mg base 2 "is_root" ["value"] spIsRoot) {fd : FuncData} (F : FunD K "__init__" "Field.__init__" (defArgs s_Field__init_) (defBody s_Field__init_) (defScope s_Field__init_) [] [] (finitA K) fd) : FnOk P w K mg base CX0 3 (finitA K) fd ["self", "root"] (spFInit K) := by
  refine Fn.mk F sc_Field__init_ (fun vs H Q E h => ?_) (fun cdv A outer s H vs Q E hr h => ?_)
  · obtain ⟨x, dx, d, rfl, _⟩ := h
    rfl
  · obtain ⟨x, dx, d, rfl, hx, hd, q⟩ := h
    refine ⟨_, (pss_cons (ps_if (pt_not (pt_val (pe_ok h_is_root (hr.mono (by omega)) (by rfl) (pa_cons (pv 1) pa_nil)))) (pss_one ps_never) pss_nil)
      (pss_cons (ps_fld (pv 0) (pv 1) rfl)
      (pss_cons (ps_fld (pv 0) (pe_ix ix_idict (pe_gref T.g_PERIODS (by rfl)) (pv 1) (fun _ _ => rfl)) rfl)
      (pss_one (ps_fld (pv 0) pe_dnewK rfl))))), ?_⟩
    walk_at "st"
    walk_at "r"
    refine ⟨d, rfl, hd, ?_⟩
    walk_at "r"
    refine rd_sfB hx T.cl_Field T.na_Field_own_root (by decide) fun H1 c1 g1 => ?_
    walk_at "r"
    obtain ⟨u, hu⟩ := T.t_PERIODS d (per d) (per_lookup hd)
    refine rd_ixI hu ?_
    walk_at "r"
    refine rd_sfB g1 T.cl_Field T.na_Field_own_period (by show 1 < 1000; decide) fun H2 c2 g2 => ?_
    walk_at "r"
    refine rd_dnew fun p H3 n3 s3 t3 => ?_
    walk_at "r"
    refine rd_sfB (s3 _ _ g2) T.cl_Field T.na_Field_relations (by show 2 < 1000; decide) fun H4 c4 g4 => ?_
    obtain ⟨es, n, k1, k2, k3, k4⟩ := hu
    exact q H4 ((((Keep.chg c1).trans (.chg c2)).trans (.same s3)).trans (.chg c4)) ⟨dx, u, p, g4, k4, hd⟩
theorem ok_mkF (T : Txt K mg) (h_is_root : Ok P w K mg base 2 "is_root" ["value"] spIsRoot) : OkC0 P w K mg base 3 (finitA K) ["self", "root"] [] (spFInit K) := by
  obtain ⟨fd, F⟩ := T.F_Field__init_
  exact ⟨fd, [], fn_finit T h_is_root F, F.bindsN (fun _ _ _ _ _ _ us hl => match us, hl with | [_, _], _ => rfl), .nil⟩
theorem ok_law_period (T : Txt K mg) : Ok P w K mg base 1 "_law_period" ["_law_root_here"] spLPeriod := by
  refine Ok.mk T.F_law_period T.g_law_period sc_law_period (fun _ _ _ _ _ _ us hl => match us, hl with | [_], _ => rfl) (fun vs H Q E h => ?_) (fun cdv A outer s H vs Q E hr h => ?_)
  · obtain ⟨d, rfl, _⟩ := h
    rfl
  · obtain ⟨d, rfl, hd, q⟩ := h
    refine ⟨_, (pss_one (ps_ret (pe_dget (units1 hr.units) (pe_disp (pps_cons pe_int (pe_lst (pa_cons pe_int pa_nil)) (pps_cons pe_int (pe_lst (pa_cons pe_int (pa_cons pe_int pa_nil))) (pps_cons pe_int (pe_lst (pa_cons pe_int pa_nil)) (pps_cons pe_int (pe_lst (pa_cons pe_int (pa_cons pe_int pa_nil))) (pps_cons pe_int (pe_lst (pa_cons pe_int pa_nil)) pps_nil))))) rfl rfl (by decide) (by decide)) (pv 0) (fun _ _ => rfl)))), ?_⟩
    walk_at "st"
    walk_at "r"
    refine rd_disp fun p H1 n1 s1 t1 => ?_
    walk_at "a"
    rename_i l1 G1 f1 r1 u1 l2 G2 f2 r2 u2 l3 G3 f3 r3 u3 l4 G4 f4 r4 u4 l5 G5 f5 r5 u5
    replace f1 := none_back s1 f1
    replace f2 := none_back (s1.trans r1) f2
    replace f3 := none_back ((s1.trans r1).trans r2) f3
    replace f4 := none_back (((s1.trans r1).trans r2).trans r3) f4
    replace f5 := none_back ((((s1.trans r1).trans r2).trans r3).trans r4) f5
    have tp : G5 p = some (.dK []) := r5 _ _ (r4 _ _ (r3 _ _ (r2 _ _ (r1 _ _ t1))))
    have u1' := r5 _ _ (r4 _ _ (r3 _ _ (r2 _ _ u1)))
    have u2' := r5 _ _ (r4 _ _ (r3 _ _ u2))
    have u3' := r5 _ _ (r4 _ _ u3)
    have u4' := r5 _ _ u4
    refine rd_dispB tp [(.inl 2, .ref l1), (.inl 3, .ref l2), (.inl 5, .ref l3), (.inl 6, .ref l4), (.inl 13, .ref l5)] rfl (by show 5 ≤ 15; decide) fun G6 c6 t6 => ?_
    have sm : Same H G6 := Same.chg (((((s1.trans r1).trans r2).trans r3).trans r4).trans r5) n1 c6
    walk_at "r"
    rcases roots_cases hd with rfl | rfl | rfl | rfl | rfl
    · exact rd_dgB t6 rfl (q l1 G6 f1 sm (c6.keepD tp u1' (by intro z; cases z)))
    · exact rd_dgB t6 rfl (q l2 G6 f2 sm (c6.keepD tp u2' (by intro z; cases z)))
    · exact rd_dgB t6 rfl (q l3 G6 f3 sm (c6.keepD tp u3' (by intro z; cases z)))
    · exact rd_dgB t6 rfl (q l4 G6 f4 sm (c6.keepD tp u4' (by intro z; cases z)))
    · exact rd_dgB t6 rfl (q l5 G6 f5 sm (c6.keepD tp u5 (by intro z; cases z)))
theorem ok_can_stand (T : Txt K mg) : Ok P w K mg base 1 "can_stand" ["period", "place", "digit", "before"] (spStand K) := by
  refine Ok.mk T.F_can_stand T.g_can_stand sc_can_stand (fun _ _ _ _ _ _ us hl => match us, hl with | [_, _, _, _], _ => rfl) (fun vs H Q E h => ?_) (fun cdv A outer s H vs Q E hr h => ?_)
  · obtain ⟨p, d, pl, x, y, rfl, _⟩ := h
    rfl
  · obtain ⟨p, d, pl, x, y, rfl, hp, hd, pl0, x1, x2, q⟩ := h
    obtain ⟨pn, _⟩ := per_len hd
    refine ⟨_, (pss_cons (ps_set (i := 4) sc_can_stand.nd rfl (.inl rfl) (pe_ix ix_tup (pv 0) (pe_op op_mod (pe_callTy c_int (by rfl) T.b_int (by decide +kernel) (pa_cons (pv 1) pa_nil)) (pe_callB c_len (by rfl) T.b_len (by decide +kernel) (pa_cons (pv 0) pa_nil))) (fun _ _ => rfl)))
      (pss_cons (ps_if (pt_cmpR op_eq (pv 1) pe_int (nomark _)) (pss_one (ps_ret (pe_cmpR op_lt (pv 2) (pv 4) (nomark _)))) pss_nil)
      (pss_one (ps_ret (pe_or (pe_cmpR op_lt (pv 2) (pv 4) (nomark _)) (pe_one (pe_and (pe_cmpR op_eq (pv 2) (pv 4) (nomark _)) (pe_one (pe_cmpR op_eq (pv 3) pe_int (nomark _)))))))))), ?_⟩
    walk_at "st"
    walk_at "r"
    refine rd_intI ?_
    walk_at "r"
    refine rd_lenT (hp _) ?_
    rw [List.length_map]
    refine rd_I (by show (0 : Int) < _; omega) ?_
    refine rd_ixT (hp _) (pt_at hd pl0) ?_
    walk_at "r"
    refine rd_dec (fun z => ?_) (fun z => ?_)
    · have z : pl = 0 := by injection z
      walk_at "r"
      have z3 : x ≠ pt d pl.toNat := fun e => (x2 e).1 z
      rw [decide_eq_true (show x < pt d pl.toNat by omega)]
      exact q
    · walk_at "r"
      refine rd_dec (fun _ => q) (fun z2 => ?_)
      have e : x = pt d pl.toNat := by omega
      walk_at "r"
      rw [decide_eq_true (by rw [e])]
      walk_at "r"
      rw [decide_eq_true (by rw [(x2 e).2])]
      exact q
theorem ok_law_steps (T : Txt K mg) (h_law_period : Ok P w K mg base 1 "_law_period" ["_law_root_here"] spLPeriod) : Ok P w K mg base 2 "_law_steps" ["_law_root_here", "_law_many"] spLSteps := by
  refine Ok.mk T.F_law_steps T.g_law_steps sc_law_steps (fun _ _ _ _ _ _ us hl => match us, hl with | [_, _], _ => rfl) (fun vs H Q E h => ?_) (fun cdv A outer s H vs Q E hr h => ?_)
  · obtain ⟨d, n, rfl, _⟩ := h
    rfl
  · obtain ⟨d, n, rfl, hd, n0, n1, q⟩ := h
    obtain ⟨pn, _⟩ := per_len hd
    refine ⟨_, (pss_cons (ps_par (by rfl) sc_law_steps.nd (i := 2) (j := 3) rfl rfl (by decide) rfl rfl (pa_cons (pe_lst (pa_cons pe_int pa_nil)) (pa_cons pe_int pa_nil)) (by rfl))
      (pss_cons (ps_set (i := 4) sc_law_steps.nd rfl (.inl rfl) (pe_ok h_law_period (hr.mono (by omega)) (by rfl) (pa_cons (pv 0) pa_nil)))
      (pss_cons (ps_for PassesOwn.never rfl (pi_range1 (by rfl) T.b_range (pa_cons (pv 1) pa_nil)) (pg_name (i := 5) sc_law_steps.nd rfl (.inl rfl)) (pss_cons (ps_expr (pe_bm PySem.F.plainAttrs_list PySem.F.slot_list_append PySem.F.type_list_append mt_append (pv 2) (pa_cons (pe_op op_add (pe_op op_mulX (pe_ix ix_list (pv 4) (pe_op op_mod (pe_callTy c_int (by rfl) T.b_int (by decide +kernel) (pa_cons (pv 5) pa_nil)) (pe_callB c_len (by rfl) T.b_len (by decide +kernel) (pa_cons (pv 4) pa_nil))) (fun _ _ => rfl)) (pe_ix ix_list (pv 2) (pe_un un_neg pe_int) (fun _ _ => rfl))) (pv 3)) pa_nil)))
      (pss_one (ps_set (i := 3) sc_law_steps.nd rfl (.inl rfl) (pe_ix ix_list (pv 2) (pe_un un_neg pe_int) (fun _ _ => rfl))))))
      (pss_one (ps_ret (pv 2)))))), ?_⟩
    walk_at "st"
    walk_at "r"
    refine rd_newL (by show 1 ≤ sizeLine; decide) fun l H1 n1' s1 t1 => ?_
    walk_at "r"
    refine ⟨d, rfl, hd, fun lp H2 nlp s2 t2 => ?_⟩
    have sP : Same H H2 := s1.trans s2
    have tt1 := t1
    replace t1 := s2 _ _ t1
    have ne : lp ≠ l := fun e => by
      subst e
      rw [tt1] at nlp
      cases nlp
    walk_at "r"
    refine rd_wkR ⟨by omega, by omega⟩ ?_
    refine fo_it (walk_range (lo := 0) (n := n.toNat)) (fun i σ1 H3 => ∃ o5 : Option V, σ1 = [some (.int d), some (.int n), some (.ref l), some (.int (ql d i)), some (.ref lp), o5] ∧ Same H H3 ∧ H3 lp = some (.lst ((per d).map V.int)) ∧ H3 l = some (.lst ((stepsL d i).map V.int))) ⟨_, rfl, sP, t2, t1⟩ (fun _ _ _ _ _ => trivial) ?_ ?_
    · rintro i y σ1 H3 H4 hi ⟨o5, rfl, s3, u1, u2⟩ ⟨rfl, rfl⟩
      walk_at "r"
      refine rd_bml (sqL_of u2) ?_
      walk_at "r"
      refine rd_intI ?_
      walk_at "r"
      refine rd_lenL (sqL_of u1) ?_
      rw [List.length_map]
      refine rd_I (by show (0 : Int) < _; omega) ?_
      refine rd_ixL (sqL_of u1) (pt_at hd (by omega)) ?_
      walk_at "r"
      refine rd_ixL (sqL_of u2) (atI_steps d i) ?_
      have wq := qs_W hd i
      have wt : W 30 (pt d (0 + (i : Int)).toNat) := W.small (by have := pt_ok (i := (0 + (i : Int)).toNat) hd; omega)
      refine rd_I (wt.mulx wq (by omega)) ?_
      walk_at "r"
      rw [show (0 + (i : Int)).toNat = i by omega]
      refine rd_app u2 (by rw [List.length_map, stepsL_len]; exact sz_smaller (by omega)) fun H5 c5 t5 => ?_
      rw [show (stepsL d i).map V.int ++ [V.int (pt d i * qs d i + ql d i)] = (stepsL d (i + 1)).map V.int by rw [stepsL_succ, List.map_append]; rfl] at t5
      walk_at "r"
      refine rd_ixL (sqL_of t5) (atI_steps2 d i) ?_
      walk_at "r"
      refine ⟨_, rfl, Same.chg s3 n1' c5, ?_, t5⟩
      rw [c5 lp ne]
      exact u1
    · rintro σ1 H3 ⟨o5, rfl, s3, u1, u2⟩
      walk_at "r"
      exact q l H3 n1' s3 u2
theorem ok_is_number (T : Txt K mg) (h_is_integer : Ok P w K mg base 1 "is_integer" ["value"] spInteger) : Ok P w K mg base 2 "is_number" ["value"] spNumber := by
  refine Ok.mk T.F_is_number T.g_is_number sc_is_number (fun _ _ _ _ _ _ us hl => match us, hl with | [_], _ => rfl) (fun vs H Q E h => ?_) (fun cdv A outer s H vs Q E hr h => ?_)
  · obtain ⟨n, rfl, _⟩ := h
    rfl
  · obtain ⟨n, rfl, n0, n1, q⟩ := h
    refine ⟨_, (pss_one (ps_ret (pe_and (pe_ok h_is_integer (hr.mono (by omega)) (by rfl) (pa_cons (pv 0) pa_nil)) (pe_one (pe_chain op_le op_lt pe_int (pv 0) (pe_gint T.c_MOST_NUMBER (by rfl))))))), ?_⟩
    walk_at "st"
    walk_at "r"
    refine ⟨0, _, _, rfl, Dn.int _, ?_⟩
    rw [show isIntD (PyData.int n) = true from rfl]
    walk_at "r"
    rw [decide_eq_true n0]
    walk_at "r"
    rw [decide_eq_true (show n < 10000000000000000000000000000000000000000 by omega)]
    exact q
theorem ok_need_number (T : Txt K mg) (h_is_number : Ok P w K mg base 2 "is_number" ["value"] spNumber) : Ok P w K mg base 3 "need_number" ["value"] spNeedN := by
  refine Ok.mk T.F_need_number T.g_need_number sc_need_number (fun _ _ _ _ _ _ us hl => match us, hl with | [_], _ => rfl) (fun vs H Q E h => ?_) (fun cdv A outer s H vs Q E hr h => ?_)
  · obtain ⟨n, rfl, _⟩ := h
    rfl
  · obtain ⟨n, rfl, n0, n1, q⟩ := h
    refine ⟨_, (pss_one (ps_if (pt_not (pt_val (pe_ok h_is_number (hr.mono (by omega)) (by rfl) (pa_cons (pv 0) pa_nil)))) (pss_one ps_never) pss_nil)), ?_⟩
    walk_at "st"
    walk_at "r"
    refine ⟨n, rfl, n0, n1, ?_⟩
    walk_at "r"
    exact q
theorem ok_steps_up_to (T : Txt K mg) : Ok P w K mg base 1 "steps_up_to" ["period", "number"] (spStepsUp K) := by
  refine Ok.mk T.F_steps_up_to T.g_steps_up_to sc_steps_up_to (fun _ _ _ _ _ _ us hl => match us, hl with | [_, _], _ => rfl) (fun vs H Q E h => ?_) (fun cdv A outer s H vs Q E hr h => ?_)
  · obtain ⟨p, d, n, rfl, _⟩ := h
    rfl
  · obtain ⟨p, d, n, rfl, hp, hd, n0, n1, q⟩ := h
    obtain ⟨pn, _⟩ := per_len hd
    refine ⟨_, (pss_cons (ps_set (i := 2) sc_steps_up_to.nd rfl (.inl rfl) (pe_lst (pa_cons pe_int (pa_cons (pe_ix ix_tup (pv 0) pe_int (fun _ _ => rfl)) pa_nil))))
      (pss_cons (ps_while PassesOwn.never (pt_cmpR op_le (pe_ix ix_list (pv 2) (pe_un un_neg pe_int) (fun _ _ => rfl)) (pv 1) (nomark _)) (pss_one (ps_expr (pe_bm PySem.F.plainAttrs_list PySem.F.slot_list_append PySem.F.type_list_append mt_append (pv 2) (pa_cons (pe_op op_add (pe_op op_mulX (pe_ix ix_tup (pv 0) (pe_op op_mod (pe_callTy c_int (by rfl) T.b_int (by decide +kernel) (pa_cons (pe_op op_sub (pe_callB c_len (by rfl) T.b_len (by decide +kernel) (pa_cons (pv 2) pa_nil)) pe_int) pa_nil)) (pe_callB c_len (by rfl) T.b_len (by decide +kernel) (pa_cons (pv 0) pa_nil))) (fun _ _ => rfl)) (pe_ix ix_list (pv 2) (pe_un un_neg pe_int) (fun _ _ => rfl))) (pe_ix ix_list (pv 2) (pe_un un_neg pe_int) (fun _ _ => rfl))) pa_nil)))))
      (pss_one (ps_ret (pv 2))))), ?_⟩
    walk_at "st"
    walk_at "r"
    refine rd_ixT (hp _) (v := .int (pt d 0)) (by
      have := pt_at (pl := 0) hd (Int.le_refl 0)
      rw [Int.zero_emod] at this
      exact this) ?_
    walk_at "r"
    refine rd_newL (by show 2 ≤ sizeLine; decide) fun l H1 nl s1 t1 => ?_
    walk_at "r"
    have e0 : [V.int 1, V.int (pt d 0)] = (stepsL d 1).map V.int := by
      show _ = [V.int 1, V.int (pt d 0 * 1 + 0)]
      rw [Int.mul_one, Int.add_zero]
    rw [e0] at t1
    refine ⟨fun k σ1 H2 => ∃ m : Nat, k = 256 - m ∧ σ1 = [some (.ref p), some (.int n), some (.ref l)] ∧ Same H H2 ∧ H2 l = some (.lst ((stepsL d (m + 1)).map V.int)) ∧ m + 1 ≤ 256 ∧ qs d m ≤ n, ⟨_, 0, rfl, rfl, s1, t1, by decide, n0⟩, ?_⟩
    rintro k σ1 H2 ⟨m, rfl, rfl, s2, t2, m1, m2⟩
    walk_at "r"
    refine rd_ixL (sqL_of t2) (atI_steps d (m + 1)) ?_
    walk_at "r"
    refine rd_dec (fun z => ⟨_, fun _ _ y => y, ?_⟩) (fun z => ?_)
    · have m3 : m + 1 < 256 := by
        refine Nat.lt_of_not_ge fun c => ?_
        obtain rfl : m = 255 := by omega
        have := qs_256 hd
        have z : qs d 256 ≤ n := z
        omega
      walk_at "r"
      refine rd_bml (sqL_of t2) ?_
      walk_at "r"
      refine rd_lenL (sqL_of t2) ?_
      walk_at "r"
      refine rd_intI ?_
      walk_at "r"
      refine rd_lenT (hp _) ?_
      rw [List.length_map, List.length_map, stepsL_len]
      refine rd_I (by show (0 : Int) < _; omega) ?_
      refine rd_ixT (hp _) (pt_at hd (by omega)) ?_
      rw [show (((m + 1 + 1 : Nat) : Int) - 1).toNat = m + 1 by omega]
      walk_at "r"
      refine rd_ixL (sqL_of t2) (atI_steps d (m + 1)) ?_
      have wq := qs_W hd (m + 1)
      have wt : W 30 (pt d (m + 1)) := W.small (by have := pt_ok (i := m + 1) hd; omega)
      refine rd_I (wt.mulx wq (by omega)) ?_
      walk_at "r"
      refine rd_ixL (sqL_of t2) (atI_steps2 d m) ?_
      walk_at "r"
      refine rd_app t2 (by rw [List.length_map, stepsL_len]; exact sz_smaller (by omega)) fun H5 c5 t5 => ?_
      rw [show (stepsL d (m + 1)).map V.int ++ [V.int (pt d (m + 1) * qs d (m + 1) + qs d m)] = (stepsL d (m + 1 + 1)).map V.int by rw [stepsL_succ d (m + 1), List.map_append]; rfl] at t5
      exact ⟨256 - (m + 1), by omega, m + 1, rfl, rfl, Same.chg s2 nl c5, t5, by omega, z⟩
    · walk_at "r"
      exact q l m H2 nl s2 t2 m1 (by omega) m2
theorem okT_digitsF (T : Txt K mg) (h_need_number : Ok P w K mg base 3 "need_number" ["value"] spNeedN) (h_steps_up_to : Ok P w K mg base 1 "steps_up_to" ["period", "number"] (spStepsUp K)) : OkF P w K mg base 4 (fieldM K "digits") ["self", "number"] (spDigitsFT K) := by
  refine OkF.mk T.F_Field_digits sc_Field_digits (fun _ _ _ _ _ _ us hl => match us, hl with | [_, _], _ => rfl) (fun vs H Q E h => ?_) (fun cdv A outer s H vs Q E hr h => ?_)
  · obtain ⟨a, d, n, rfl, _⟩ := h
    rfl
  · obtain ⟨a, d, n, rfl, Fd, n0, n1, q⟩ := h
    obtain ⟨dx, p, o, h1, h2, hd⟩ := id Fd
    refine ⟨_, (pss_cons (ps_expr (pe_ok h_need_number (hr.mono (by omega)) (by rfl) (pa_cons (pv 1) pa_nil)))
      (pss_cons (ps_if (pt_cmpR op_eq (pv 1) pe_int (nomark _)) (pss_one (ps_ret (pe_lst pa_nil))) pss_nil)
      (pss_cons (ps_setLc (i := 2) (own := [("step", 4)]) (by rfl) sc_Field_digits.nd rfl rfl (sw_true rfl rfl rfl (by decide +kernel)) (pi_list (pe_ok h_steps_up_to (hr.mono (by omega)) (by rfl) (pa_cons (pe_fld (pv 0) rfl) (pa_cons (pv 1) pa_nil)))) (blkOk_by (own := [("step", 4)]) (N := ["self", "number", "steps", "found", "step"]) (sc := defScope s_Field_digits) (by decide +kernel)) (fun _ _ _ _ _ => (pg_name (i := 4) sc_Field_digits.nd rfl (.inl rfl))) (fun _ _ _ _ _ => (pts_one (pt_cmpR op_le (pv 4) (pv 1) (nomark _)))) (fun _ _ _ _ _ => (pv 4)))
      (pss_cons (ps_set (i := 3) sc_Field_digits.nd rfl (.inl rfl) (pe_lst pa_nil))
      (pss_cons (ps_for PassesOwn.never rfl (pi_list (pe_revL (pv 2))) (pg_name (i := 4) sc_Field_digits.nd rfl (.inl rfl)) (pss_cons (ps_expr (pe_bm PySem.F.plainAttrs_list PySem.F.slot_list_append PySem.F.type_list_append mt_append (pv 3) (pa_cons (pe_op op_fdivG (pv 1) (pv 4)) pa_nil)))
      (pss_one (ps_set (i := 1) sc_Field_digits.nd rfl (.inr rfl) (pe_op op_mod (pe_callTy c_int (by rfl) T.b_int (by decide +kernel) (pa_cons (pv 1) pa_nil)) (pv 4))))))
      (pss_one (ps_ret (pe_revL (pv 3))))))))), ?_⟩
    walk_at "st"
    walk_at "r"
    refine ⟨n, rfl, n0, n1, ?_⟩
    walk_at "r"
    refine rd_dec (fun z => ?_) (fun z => ?_)
    · obtain rfl : n = 0 := by injection z
      walk_at "r"
      refine rd_newL (by show 0 ≤ sizeLine; decide) fun l H1 nl s1 t1 => ?_
      exact q l [] H1 nl s1 t1 ⟨fun i x hx => by simp at hx, rfl, by decide⟩ (fun xs y e => by cases xs <;> cases e)
    · have nz : n ≠ 0 := fun e => z (by rw [e])
      walk_at "r"
      refine rd_fdB h1 T.cl_Field T.na_Field_own_period rfl ?_
      walk_at "r"
      refine ⟨p, d, n, rfl, h2, hd, by omega, n1, fun l m H1 nl s1 t1 m1 m2 m3 => ?_⟩
      refine rd_wkL (sqL_of t1) ?_
      refine lc_map walk_list (fun H' s' => sqL_of (s' _ _ t1)) (fltV fun i => decide (i ≤ n)) (by rw [List.length_map, stepsL_len]; omega) (fun x H2 Q' N' hx s2 q1 q2 => ?_) (fun ls H2 nls s2 t2 => ?_)
      · obtain ⟨i, _, rfl⟩ := List.mem_map.mp hx
        walk_at "r"
        refine rd_dec (fun z => ?_) (fun z => ?_)
        · walk_at "r"
          exact q1 _ H2 (if_pos (decide_eq_true z)) (.refl _)
        · exact q2 H2 (if_neg (by show ¬ decide (i ≤ n) = true; rw [decide_eq_false z]; decide)) (.refl _)
      · rw [filter_ints (fun i => decide (i ≤ n)), steps_filter hd m2 m3] at t2
        have s12 := s1.trans s2
        have wn : W 140 n := by
          unfold W
          have : (10 : Int) ^ 40 < 2 ^ 140 := by decide
          omega
        walk_at "r"
        refine rd_newL (by show 0 ≤ sizeLine; decide) fun lf H3 nf s3 u3 => ?_
        have nfH := none_back s12 nf
        have s13 := s12.trans s3
        replace t2 := s3 _ _ t2
        walk_at "r"
        refine rd_revB (sqL_of t2) fun l5 H5 nl5 s5 u5 => ?_
        have ne5 : l5 ≠ lf := fun e => by
          subst e
          rw [u3] at nl5
          cases nl5
        replace u3 := s5 _ _ u3
        have s15 := s13.trans s5
        refine rd_wkL (sqL_of u5) ?_
        refine fo_it walk_list (fun i σ1 H6 => ∃ (fd : List Int) (r : Int) (o4 : Option V), σ1 = [some (.ref a), some (.int r), some (.ref ls), some (.ref lf), o4] ∧ Same H H6 ∧ H6 l5 = some (.lst ((stepsL d m).map V.int).reverse) ∧ H6 lf = some (.lst (fd.map V.int)) ∧ fd.length = i ∧ 0 ≤ r ∧ W 140 r ∧ gr d (m + 1) n = gr d (m + 1 - i) r ++ fd.reverse) ⟨[], n, _, rfl, s15, u5, u3, rfl, n0, wn, by rw [List.reverse_nil, List.append_nil]; rfl⟩ (fun _ σ1 H6 _ ⟨_, _, _, _, _, v5, _⟩ => sqL_of v5) ?_ ?_
        · rintro i y σ1 H6 H7 hi ⟨fd, r, o4, rfl, s6, v5, v3, fl, r0, wr, eg⟩ ⟨rfl, hy⟩
          obtain ⟨iM, rfl⟩ := rev_get hy
          obtain ⟨q1, _, _⟩ := qs_ok hd (m - i)
          have wq := (qs_W hd (m - i)).mono (show 3 * (m - i) + 1 ≤ 769 by omega)
          walk_at "r"
          refine rd_bml (sqL_of v3) ?_
          walk_at "r"
          refine rd_I ⟨by omega, wq.log (by decide)⟩ ?_
          walk_at "r"
          refine rd_app v3 (by rw [List.length_map, fl]; exact sz_smaller (by omega)) fun H8 c8 t8 => ?_
          walk_at "r"
          refine rd_intI ?_
          walk_at "r"
          refine rd_I (by show (0 : Int) < _; omega) ?_
          walk_at "r"
          refine ⟨fd ++ [r / qs d (m - i)], _, _, rfl, Same.chg s6 nfH c8, by rw [c8 l5 ne5]; exact v5, ?_, by rw [List.length_append, fl]; rfl, Int.emod_nonneg _ (by omega), wr.le ?_, ?_⟩
          · rw [t8, List.map_append, Int.fdiv_eq_ediv_of_nonneg r (by omega)]
            rfl
          · have e1 := Int.emod_nonneg r (show qs d (m - i) ≠ 0 by omega)
            have e2 := Int.emod_add_mul_ediv r (qs d (m - i))
            have e3 := Int.mul_nonneg (show 0 ≤ qs d (m - i) by omega) (Int.ediv_nonneg r0 (show 0 ≤ qs d (m - i) by omega))
            omega
          · rw [eg, show m + 1 - i = (m - i) + 1 by omega, show m + 1 - (i + 1) = m - i by omega, List.reverse_append]
            show gr d (m - i) _ ++ [_] ++ _ = _
            rw [List.append_assoc]
            rfl
        · rintro σ1 H6 ⟨fd, r, o4, rfl, s6, v5, v3, fl, r0, wr, eg⟩
          rw [List.length_reverse, List.length_map, stepsL_len, Nat.sub_self] at eg
          have eg : gr d (m + 1) n = fd.reverse := eg
          have dig : DigOk d n fd.reverse := by
            rw [← eg]
            refine ⟨gr_adm hd _ n n0 m2, gr_val hd _ n n0 m2, ?_⟩
            rw [gr_len]
            omega
          walk_at "r"
          refine rd_revB (sqL_of v3) fun l7 H7 nl7 s7 u7 => ?_
          rw [← List.map_reverse] at u7
          refine q l7 _ H7 (none_back s6 nl7) (s6.trans s7) u7 dig ?_
          intro xs y e
          rw [← eg] at e
          have e : gr d m (n % qs d m) ++ [n / qs d m] = xs ++ [y] := e
          obtain ⟨_, e2⟩ := List.append_inj' e rfl
          have e3 : n / qs d m = y := by injection e2
          have hq := (qs_ok hd m).1
          have := Int.le_ediv_of_mul_le (show 0 < qs d m by omega) (show 1 * qs d m ≤ n by omega)
          omega
theorem okA_valueF (T : Txt K mg) (h_is_integer : Ok P w K mg base 1 "is_integer" ["value"] spInteger) (h_can_stand : Ok P w K mg base 1 "can_stand" ["period", "place", "digit", "before"] (spStand K)) : OkF P w K mg base 2 (fieldM K "value") ["self", "digits"] (spValueA K) := by
  refine OkF.mk T.F_Field_value sc_Field_value (fun _ _ _ _ _ _ us hl => match us, hl with | [_, _], _ => rfl) (fun vs H Q E h => ?_) (fun cdv A outer s H vs Q E hr h => ?_)
  · obtain ⟨tu, a, l, d, ds, rfl, _⟩ := h
    rfl
  · obtain ⟨tu, a, l, d, ds, rfl, Fd, hl, ha, hn, q⟩ := h
    obtain ⟨dx, p, o, h1, h2, hd⟩ := id Fd
    obtain ⟨pn, _⟩ := per_len hd
    refine ⟨_, (pss_cons (ps_asg (pe_tup (pa_cons pe_int (pa_cons pe_int (pa_cons pe_int (pa_cons pe_int pa_nil))))) (pg_tup rfl (pgs_cons (pg_name (i := 2) sc_Field_value.nd rfl (.inl rfl)) (pgs_cons (pg_name (i := 3) sc_Field_value.nd rfl (.inl rfl)) (pgs_cons (pg_name (i := 4) sc_Field_value.nd rfl (.inl rfl)) (pgs_cons (pg_name (i := 5) sc_Field_value.nd rfl (.inl rfl)) pgs_nil))))))
      (pss_cons (ps_for PassesOwn.never rfl (pi_enumM (by rfl) T.b_enumerate (pa_cons (pv 1) pa_nil)) (pg_tup rfl (pgs_cons (pg_name (i := 6) sc_Field_value.nd rfl (.inl rfl)) (pgs_cons (pg_name (i := 7) sc_Field_value.nd rfl (.inl rfl)) pgs_nil))) (pss_cons (ps_if (PW.pt (pw_or (pt_not (pt_val (pe_ok h_is_integer (hr.mono (by omega)) (by rfl) (pa_cons (pv 7) pa_nil)))) (pw_or (pt_cmpR op_lt (pv 7) pe_int (nomark _)) (pw_or1 (pt_not (pt_val (pe_ok h_can_stand (hr.mono (by omega)) (by rfl) (pa_cons (pe_fld (pv 0) rfl) (pa_cons (pv 6) (pa_cons (pv 7) (pa_cons (pv 3) pa_nil))))))))))) (pss_one ps_never) pss_nil)
      (pss_cons (ps_aug (i := 2) sc_Field_value.nd rfl (.inl rfl) (pe_op op_mulX (pv 7) (pv 5)) ip_add)
      (pss_cons (ps_set (i := 3) sc_Field_value.nd rfl (.inl rfl) (pv 7))
      (pss_one (ps_par (by rfl) sc_Field_value.nd (i := 4) (j := 5) rfl rfl (by decide) rfl rfl (pa_cons (pv 5) (pa_cons (pe_op op_add (pe_op op_mulX (pe_ix ix_tup (pe_fld (pv 0) rfl) (pe_op op_mod (pe_callTy c_int (by rfl) T.b_int (by decide +kernel) (pa_cons (pv 6) pa_nil)) (pe_callB c_len (by rfl) T.b_len (by decide +kernel) (pa_cons (pe_fld (pv 0) rfl) pa_nil))) (fun _ _ => rfl)) (pv 5)) (pv 4)) pa_nil)) (by rfl)))))))
      (pss_one (ps_ret (pv 2))))), ?_⟩
    walk_at "st"
    walk_at "r"
    refine rd_newT (by show 4 ≤ sizeLine; decide) fun t0 H1 n1 s1 t1 => ?_
    refine rd_gTup (sqT_of t1) rfl ?_
    walk_at "r"
    have sq : ∀ {H' : Hp}, Same H H' → SqB K H' tu l (ds.map V.int) := fun s' => by
      have := s' _ _ hl
      cases tu
      · exact sqL_of this
      · exact sqT_of this
    refine rd_wkE (sq s1) ?_
    refine fo_it walk_enumM (fun i σ1 H2 => ∃ (bf : Int) (o6 o7 : Option V), σ1 = [some (.ref a), some (.ref l), some (.int (vl d 0 (ds.take i))), some (.int bf), some (.int (ql d i)), some (.int (qs d i)), o6, o7] ∧ Same H H2 ∧ ∀ j, i = j + 1 → ds[j]? = some bf) ⟨0, _, _, rfl, s1, fun j hj => by cases hj⟩ (fun _ σ1 H2 _ ⟨_, _, _, _, s2, _⟩ => sq s2) ?_ ?_
    · rintro i v σ1 H2 H3 hi ⟨bf, o6, o7, rfl, s2, hb⟩ ⟨T1, x, z, rfl, nT, rfl, hx, hz⟩
      obtain rfl : V.int ((i : Nat) : Int) = x := by injection hx
      dsimp only at hz
      rw [List.getElem?_map] at hz
      obtain ⟨x, ex, rfl⟩ := Option.map_eq_some_iff.mp hz
      obtain ⟨x0, x1, x2⟩ := ha i x ex
      have hil : i < ds.length := (List.getElem?_eq_some_iff.mp ex).1
      have s3 : Same H (upd H2 T1 (.tup [.int (i : Nat), .int x])) := s2.trans (Same.new nT)
      refine rd_gTup (sqT_of upd_same) rfl ?_
      generalize upd H2 T1 (.tup [.int (i : Nat), .int x]) = G at s3
      walk_at "r"
      refine ⟨0, _, _, rfl, Dn.int _, ?_⟩
      rw [show isIntD (PyData.int x) = true from rfl]
      walk_at "r"
      rw [decide_eq_false (show ¬ x < 0 by omega)]
      walk_at "r"
      refine rd_fdB (s3 _ _ h1) T.cl_Field T.na_Field_own_period rfl ?_
      walk_at "r"
      refine ⟨p, d, _, x, bf, rfl, h2, hd, by omega, x1, fun e => ?_, ?_⟩
      · obtain ⟨j, e1, e2⟩ := x2 e
        have := hb j e1
        rw [e2] at this
        cases this
        exact ⟨by omega, rfl⟩
      · walk_at "r"
        have wq := qs_W hd i
        have wx : W 30 x := W.small (by have := pt_ok (i := i) hd; omega)
        refine rd_I (wx.mulx wq (by omega)) ?_
        walk_at "r"
        refine rd_fdB (s3 _ _ h1) T.cl_Field T.na_Field_own_period rfl ?_
        walk_at "r"
        refine rd_intI ?_
        walk_at "r"
        refine rd_fdB (s3 _ _ h1) T.cl_Field T.na_Field_own_period rfl ?_
        walk_at "r"
        refine rd_lenT (h2 _) ?_
        rw [List.length_map]
        refine rd_I (by show (0 : Int) < _; omega) ?_
        refine rd_ixT (h2 _) (pt_at hd (by omega)) ?_
        rw [Int.toNat_natCast]
        walk_at "r"
        refine rd_I ((show W 30 (pt d i) from W.small (by have := pt_ok (i := i) hd; omega)).mulx wq (by omega)) ?_
        walk_at "r"
        rw [← vl_take_succ ex]
        exact ⟨x, _, _, rfl, s3, fun j hj => by
          have e : i = j := by omega
          rw [← e]
          exact ex⟩
    · rintro σ1 H2 ⟨bf, o6, o7, rfl, s2, hb⟩
      walk_at "r"
      rw [List.length_map, List.take_length]
      exact q H2 s2
def spStepF (K : PySem.W.Frag) : Sp := fun vs H Q _ => ∃ (a : Addr) (d t : Int), vs = [.ref a, .int t] ∧ FieldAt K H a d ∧ 0 ≤ t ∧ t ≤ 1000 ∧ ∀ H', Same H H' → Q (.int (qs d t.toNat)) H'
theorem ok_stepF (T : Txt K mg) (h_is_integer : Ok P w K mg base 1 "is_integer" ["value"] spInteger) : OkF P w K mg base 2 (fieldM K "step") ["self", "place"] (spStepF K) := by
  refine OkF.mk T.F_Field_step sc_Field_step (fun _ _ _ _ _ _ us hl => match us, hl with | [_, _], _ => rfl) (fun vs H Q E h => ?_) (fun cdv A outer s H vs Q E hr h => ?_)
  · obtain ⟨a, d, t, rfl, _⟩ := h
    rfl
  · obtain ⟨a, d, t, rfl, ⟨dx, p, o, h1, h2, hd⟩, t0, t1, q⟩ := h
    obtain ⟨pl0, pl2⟩ := per_len hd
    refine ⟨_, (pss_cons (ps_if (PW.pt (pw_or (pt_not (pt_val (pe_ok h_is_integer (hr.mono (by omega)) (by rfl) (pa_cons (pv 1) pa_nil)))) (pw_or1 (pt_not (pt_chain op_le op_le pe_int (pv 1) (pe_gint T.c_MOST_PLACE (by rfl))))))) (pss_one ps_never) pss_nil)
      (pss_cons (ps_asg (pe_tup (pa_cons pe_int (pa_cons pe_int pa_nil))) (pg_tup rfl (pgs_cons (pg_name (i := 2) sc_Field_step.nd rfl (.inl rfl)) (pgs_cons (pg_name (i := 3) sc_Field_step.nd rfl (.inl rfl)) pgs_nil))))
      (pss_cons (ps_for PassesOwn.never rfl (pi_range1 (by rfl) T.b_range (pa_cons (pv 1) pa_nil)) (pg_name (i := 4) sc_Field_step.nd rfl (.inl rfl)) (pss_one (ps_par (by rfl) sc_Field_step.nd (i := 2) (j := 3) rfl rfl (by decide) rfl rfl (pa_cons (pv 3) (pa_cons (pe_op op_add (pe_op op_mulX (pe_ix ix_tup (pe_fld (pv 0) rfl) (pe_op op_mod (pe_callTy c_int (by rfl) T.b_int (by decide +kernel) (pa_cons (pv 4) pa_nil)) (pe_callB c_len (by rfl) T.b_len (by decide +kernel) (pa_cons (pe_fld (pv 0) rfl) pa_nil))) (fun _ _ => rfl)) (pv 3)) (pv 2)) pa_nil)) (by rfl))))
      (pss_one (ps_ret (pv 3)))))), ?_⟩
    walk_at "st"
    walk_at "r"
    refine ⟨0, _, _, rfl, Dn.int _, ?_⟩
    rw [show isIntD (PyData.int t) = true from rfl]
    walk_at "r"
    rw [decide_eq_true (show (0 : Int) ≤ t by omega)]
    walk_at "r"
    rw [decide_eq_true (show t ≤ 1000 by omega)]
    walk_at "a"
    rename_i tt G1 _ s1 g1
    refine rd_gTup (sqT_of g1) rfl ?_
    replace h1 := s1 _ _ h1
    walk_at "a"
    refine rd_wkR ⟨by omega, by omega⟩ ?_
    refine fo_it (walk_range (lo := 0) (n := t.toNat)) (fun i σ1 H3 => ∃ o4 : Option V, σ1 = [some (.ref a), some (.int t), some (.int (ql d i)), some (.int (qs d i)), o4] ∧ H3 = G1) ⟨_, rfl, rfl⟩ (fun _ _ _ _ _ => trivial) ?_ ?_
    · rintro i y σ1 H3 H4 hi ⟨o4, rfl, rfl⟩ ⟨rfl, rfl⟩
      walk_at "r"
      refine rd_fdB h1 T.cl_Field T.na_Field_own_period rfl ?_
      walk_at "r"
      refine rd_intI ?_
      walk_at "r"
      refine rd_fdB h1 T.cl_Field T.na_Field_own_period rfl ?_
      walk_at "r"
      refine rd_lenT (h2 _) ?_
      rw [List.length_map]
      refine rd_I (by show (0 : Int) < _; omega) ?_
      refine rd_ixT (h2 _) (pt_at hd (by omega)) ?_
      have wq := qs_W hd i
      have wt : W 30 (pt d (0 + (i : Int)).toNat) := W.small (by have := pt_ok (i := (0 + (i : Int)).toNat) hd; omega)
      walk_at "r"
      refine rd_I (wt.mulx wq (by omega)) ?_
      walk_at "r"
      rw [show (0 + (i : Int)).toNat = i by omega]
      exact ⟨_, by rw [qs_succ, ql_succ], rfl⟩
    · rintro σ1 H3 ⟨o4, rfl, rfl⟩
      walk_at "r"
      exact q _ s1
def canB (d : Int) (i : Nat) (x y : Int) : Bool := decide (0 ≤ x) && (decide (x < pt d i) || (decide (i ≠ 0) && (decide (x = pt d i) && decide (y = 0))))
def spCan : Sp := fun vs H Q _ => ∃ (d pl x y : Int), vs = [.int d, .int pl, .int x, .int y] ∧ d ∈ roots ∧ 0 ≤ pl ∧ ∀ H', Same H H' → Q (.bl (canB d pl.toNat x y)) H'
theorem ok_law_can (T : Txt K mg) (h_law_period : Ok P w K mg base 1 "_law_period" ["_law_root_here"] spLPeriod) : Ok P w K mg base 2 "_law_can" ["_law_root_here", "_law_place", "_law_digit", "_law_before"] spCan := by
  refine Ok.mk T.F_law_can T.g_law_can sc_law_can (fun _ _ _ _ _ _ us hl => match us, hl with | [_, _, _, _], _ => rfl) (fun vs H Q E h => ?_) (fun cdv A outer s H vs Q E hr h => ?_)
  · obtain ⟨d, pl, x, y, rfl, _⟩ := h
    rfl
  · obtain ⟨d, pl, x, y, rfl, hd, pl0, q⟩ := h
    obtain ⟨pn, _⟩ := per_len hd
    refine ⟨_, (pss_cons (ps_set (i := 4) sc_law_can.nd rfl (.inl rfl) (pe_ok h_law_period (hr.mono (by omega)) (by rfl) (pa_cons (pv 0) pa_nil)))
      (pss_cons (ps_set (i := 5) sc_law_can.nd rfl (.inl rfl) (pe_ix ix_list (pv 4) (pe_op op_mod (pe_callTy c_int (by rfl) T.b_int (by decide +kernel) (pa_cons (pv 1) pa_nil)) (pe_callB c_len (by rfl) T.b_len (by decide +kernel) (pa_cons (pv 4) pa_nil))) (fun _ _ => rfl)))
      (pss_cons (ps_if (pt_cmpR op_eq (pv 1) pe_int (nomark _)) (pss_one (ps_ret (pe_chain op_le op_lt pe_int (pv 2) (pv 5)))) pss_nil)
      (pss_one (ps_ret (pe_or (pe_chain op_le op_lt pe_int (pv 2) (pv 5)) (pe_one (pe_and (pe_cmpR op_eq (pv 2) (pv 5) (nomark _)) (pe_one (pe_cmpR op_eq (pv 3) pe_int (nomark _))))))))))), ?_⟩
    walk_at "st"
    walk_at "r"
    refine ⟨d, rfl, hd, fun lp H2 nlp s2 t2 => ?_⟩
    walk_at "r"
    refine rd_intI ?_
    walk_at "r"
    refine rd_lenL (sqL_of t2) ?_
    rw [List.length_map]
    refine rd_I (by show (0 : Int) < _; omega) ?_
    refine rd_ixL (sqL_of t2) (pt_at hd pl0) ?_
    walk_at "r"
    have q := q H2 s2
    unfold canB at q
    by_cases x0 : 0 ≤ x
    · rw [decide_eq_true x0, Bool.true_and] at q
      refine rd_dec (fun z => ?_) (fun z => ?_)
      · have z : pl = 0 := by injection z
        rw [decide_eq_false (show ¬ pl.toNat ≠ 0 by omega), Bool.false_and, Bool.or_false] at q
        walk_at "r"
        rw [decide_eq_true x0]
        walk_at "r"
        exact q
      · have z : pl ≠ 0 := fun e => z (by rw [e])
        rw [decide_eq_true (show pl.toNat ≠ 0 by omega), Bool.true_and] at q
        walk_at "r"
        rw [decide_eq_true x0]
        walk_at "r"
        refine rd_dec (fun z1 => ?_) (fun z1 => ?_)
        · rw [decide_eq_true z1, Bool.true_or] at q
          walk_at "r"
          exact q
        · rw [decide_eq_false z1, Bool.false_or] at q
          walk_at "r"
          refine rd_dec (fun z2 => ?_) (fun z2 => ?_)
          · have z2 : x = pt d pl.toNat := by injection z2
            rw [decide_eq_true z2, Bool.true_and] at q
            walk_at "r"
            rw [show decide (V.int y = V.int 0) = decide (y = 0) from decide_eq_decide.mpr ⟨fun h => by injection h, fun h => by rw [h]⟩]
            exact q
          · have z2 : x ≠ pt d pl.toNat := fun e => z2 (by rw [e])
            rw [decide_eq_false z2, Bool.false_and] at q
            walk_at "r"
            exact q
    · rw [decide_eq_false x0, Bool.false_and] at q
      refine rd_dec (fun z => ?_) (fun z => ?_)
      · walk_at "r"
        rw [decide_eq_false x0]
        walk_at "r"
        exact q
      · walk_at "r"
        rw [decide_eq_false x0]
        walk_at "r"
        have np : x ≠ pt d pl.toNat := fun e => by
          have := pt_ok (i := pl.toNat) hd
          omega
        rw [show decide (V.int x = V.int (pt d pl.toNat)) = false from decide_eq_false fun e => np (by injection e)]
        walk_at "r"
        exact q
def spStandB (K : PySem.W.Frag) : Sp := fun vs H Q _ => ∃ (p : Addr) (d pl x y : Int), vs = [.ref p, .int pl, .int x, .int y] ∧ (∀ H, SqT K H p ((per d).map V.int)) ∧ d ∈ roots ∧ 0 ≤ pl ∧ 0 ≤ x ∧ Q (.bl (canB d pl.toNat x y)) H
theorem okB_can_stand (T : Txt K mg) : Ok P w K mg base 1 "can_stand" ["period", "place", "digit", "before"] (spStandB K) := by
  refine Ok.mk T.F_can_stand T.g_can_stand sc_can_stand (fun _ _ _ _ _ _ us hl => match us, hl with | [_, _, _, _], _ => rfl) (fun vs H Q E h => ?_) (fun cdv A outer s H vs Q E hr h => ?_)
  · obtain ⟨p, d, pl, x, y, rfl, _⟩ := h
    rfl
  · obtain ⟨p, d, pl, x, y, rfl, hp, hd, pl0, x0, q⟩ := h
    obtain ⟨pn, _⟩ := per_len hd
    refine ⟨_, (pss_cons (ps_set (i := 4) sc_can_stand.nd rfl (.inl rfl) (pe_ix ix_tup (pv 0) (pe_op op_mod (pe_callTy c_int (by rfl) T.b_int (by decide +kernel) (pa_cons (pv 1) pa_nil)) (pe_callB c_len (by rfl) T.b_len (by decide +kernel) (pa_cons (pv 0) pa_nil))) (fun _ _ => rfl)))
      (pss_cons (ps_if (pt_cmpR op_eq (pv 1) pe_int (nomark _)) (pss_one (ps_ret (pe_cmpR op_lt (pv 2) (pv 4) (nomark _)))) pss_nil)
      (pss_one (ps_ret (pe_or (pe_cmpR op_lt (pv 2) (pv 4) (nomark _)) (pe_one (pe_and (pe_cmpR op_eq (pv 2) (pv 4) (nomark _)) (pe_one (pe_cmpR op_eq (pv 3) pe_int (nomark _)))))))))), ?_⟩
    walk_at "st"
    walk_at "r"
    refine rd_intI ?_
    walk_at "r"
    refine rd_lenT (hp _) ?_
    rw [List.length_map]
    refine rd_I (by show (0 : Int) < _; omega) ?_
    refine rd_ixT (hp _) (pt_at hd pl0) ?_
    walk_at "r"
    unfold canB at q
    rw [decide_eq_true x0, Bool.true_and] at q
    refine rd_dec (fun z => ?_) (fun z => ?_)
    · have z : pl = 0 := by injection z
      rw [decide_eq_false (show ¬ pl.toNat ≠ 0 by omega), Bool.false_and, Bool.or_false] at q
      walk_at "r"
      exact q
    · have z : pl ≠ 0 := fun e => z (by rw [e])
      rw [decide_eq_true (show pl.toNat ≠ 0 by omega), Bool.true_and] at q
      walk_at "r"
      refine rd_dec (fun z1 => ?_) (fun z1 => ?_)
      · rw [decide_eq_true z1, Bool.true_or] at q
        walk_at "r"
        exact q
      · rw [decide_eq_false z1, Bool.false_or] at q
        walk_at "r"
        refine rd_dec (fun z2 => ?_) (fun z2 => ?_)
        · have z2 : x = pt d pl.toNat := by injection z2
          rw [decide_eq_true z2, Bool.true_and] at q
          walk_at "r"
          rw [show decide (V.int y = V.int 0) = decide (y = 0) from decide_eq_decide.mpr ⟨fun h => by injection h, fun h => by rw [h]⟩]
          exact q
        · have z2 : x ≠ pt d pl.toNat := fun e => z2 (by rw [e])
          rw [decide_eq_false z2, Bool.false_and] at q
          walk_at "r"
          exact q
theorem adm_snoc {d : Int} {ds : List Int} {x y : Int} (h : Adm d ds) (hy : ∀ j, ds.length = j + 1 → ds[j]? = some y) (c : canB d ds.length x y = true) : Adm d (ds ++ [x]) := by
  intro i z hz
  unfold canB at c
  simp only [Bool.and_eq_true, Bool.or_eq_true, decide_eq_true_eq] at c
  by_cases hi : i < ds.length
  · rw [List.getElem?_append_left hi] at hz
    obtain ⟨a, b, e⟩ := h i z hz
    refine ⟨a, b, fun e1 => ?_⟩
    obtain ⟨j, e2, e3⟩ := e e1
    exact ⟨j, e2, by rw [List.getElem?_append_left (by omega)]; exact e3⟩
  · have hl := (List.getElem?_eq_some_iff.mp hz).1
    rw [List.length_append] at hl
    have hl : i < ds.length + 1 := hl
    obtain rfl : i = ds.length := by omega
    rw [List.getElem?_append_right (Nat.le_refl _), Nat.sub_self] at hz
    have hz : x = z := by injection hz
    subst hz
    refine ⟨c.1, by omega, fun e => ?_⟩
    obtain ⟨c0, c1 | ⟨c1, c2, c3⟩⟩ := c
    · omega
    · obtain ⟨j, hj⟩ : ∃ j, ds.length = j + 1 := ⟨ds.length - 1, by omega⟩
      refine ⟨j, hj, ?_⟩
      rw [List.getElem?_append_left (by omega), hy j hj, c3]
def canF (d : Int) (i : Nat) (bf : Int) (k : Nat) : Option V := if canB d i (k : Int) bf = true then some (V.int (k : Int)) else none
def spDrawn : Sp := fun vs H Q _ => ∃ (a c : Addr) (ns : List Int) (d n : Int), vs = [.ref a, .int d, .int n] ∧ Bag a c ns H ∧ d ∈ roots ∧ 0 ≤ n ∧ n ≤ 60 ∧ ∀ l ds H', Ext H H' → Bag a c ns H' → H' l = some (.lst (List.map V.int ds)) → (∀ o, isBag o = false → H l ≠ some o) → a ≠ l → c ≠ l → Adm d ds → ds.length = n.toNat → Q (.ref l) H'
def lastD (ds : List Int) : Int := ds.getLast?.getD 0
theorem lastD_snoc (xs : List Int) (y : Int) : lastD (xs ++ [y]) = y := by
  unfold lastD
  rw [List.getLast?_append]
  rfl
def extF (d : Int) (i : Nat) (ds : List Int) (k : Nat) : Option (List Int) := if canB d i (k : Int) (lastD ds) = true then some (ds ++ [(k : Int)]) else none
def extB (d : Int) (i : Nat) (ds : List Int) : List (List Int) := (List.range 5).filterMap (extF d i ds)
def allL (d : Int) : Nat → List (List Int)
  | 0 => [[]]
  | p + 1 => (allL d p).flatMap (extB d p)
theorem extF_some {d : Int} {i k : Nat} {ds x : List Int} (h : extF d i ds k = some x) : canB d i (k : Int) (lastD ds) = true ∧ x = ds ++ [(k : Int)] := by
  unfold extF at h
  split at h
  · rename_i c
    exact ⟨c, by injection h with h; exact h.symm⟩
  · cases h
theorem lastD_at (ds : List Int) (j : Nat) (h : ds.length = j + 1) : ds[j]? = some (lastD ds) := by
  rcases List.eq_nil_or_concat ds with rfl | ⟨xs, y, rfl⟩
  · cases h
  · rw [List.concat_eq_append] at *
    rw [lastD_snoc]
    rw [List.length_append] at h
    have h : xs.length + 1 = j + 1 := h
    obtain rfl : j = xs.length := by omega
    rw [List.getElem?_append_right (Nat.le_refl _), Nat.sub_self]
    rfl
theorem mem_allL {d : Int} (hd : d ∈ roots) : ∀ (p : Nat) (x : List Int), x ∈ allL d p ↔ x.length = p ∧ Adm d x
  | 0, x => by
    constructor
    · intro h
      obtain rfl := List.mem_singleton.mp h
      exact ⟨rfl, fun i x hx => by simp at hx⟩
    · rintro ⟨h, _⟩
      obtain rfl := List.length_eq_zero_iff.mp h
      exact List.mem_singleton.mpr rfl
  | p + 1, x => by
    constructor
    · intro h
      obtain ⟨ds, h1, h2⟩ := List.mem_flatMap.mp h
      obtain ⟨k, _, h3⟩ := List.mem_filterMap.mp h2
      obtain ⟨c, rfl⟩ := extF_some h3
      obtain ⟨e, a⟩ := (mem_allL hd p ds).mp h1
      subst e
      exact ⟨by rw [List.length_append]; rfl, adm_snoc a (fun j hj => lastD_at ds j hj) c⟩
    · rintro ⟨h, a⟩
      rcases List.eq_nil_or_concat x with rfl | ⟨xs, y, rfl⟩
      · cases h
      · rw [List.concat_eq_append] at *
        rw [List.length_append] at h
        have h : xs.length + 1 = p + 1 := h
        have hx : xs.length = p := by omega
        obtain ⟨y0, y1, y2⟩ := a xs.length y (by rw [List.getElem?_append_right (Nat.le_refl _), Nat.sub_self]; rfl)
        have pp := pt_ok (i := xs.length) hd
        refine List.mem_flatMap.mpr ⟨xs, (mem_allL hd p xs).mpr ⟨hx, adm_pre a⟩, List.mem_filterMap.mpr ⟨y.toNat, List.mem_range.mpr (by omega), ?_⟩⟩
        have ey : ((y.toNat : Nat) : Int) = y := by omega
        unfold extF
        rw [ey, if_pos ?_]
        unfold canB
        subst hx
        simp only [Bool.and_eq_true, Bool.or_eq_true, decide_eq_true_eq]
        refine ⟨y0, ?_⟩
        by_cases z : y < pt d xs.length
        · exact .inl z
        · have z : y = pt d xs.length := by omega
          obtain ⟨j, e1, e2⟩ := y2 z
          refine .inr ⟨by omega, z, ?_⟩
          have := lastD_at xs j e1
          rw [List.getElem?_append_left (by omega), this] at e2
          injection e2
theorem allL_nodup (d : Int) : ∀ p : Nat, (allL d p).Nodup
  | 0 => by simp [allL]
  | p + 1 => by
    refine List.pairwise_flatMap.mpr ⟨fun ds _ => ?_, ?_⟩
    · refine List.pairwise_filterMap.mpr ?_
      refine (List.pairwise_lt_range (n := 5)).imp fun {a b} hab x hx y hy e => ?_
      obtain ⟨_, rfl⟩ := extF_some hx
      obtain ⟨_, rfl⟩ := extF_some hy
      have := (List.append_inj' e rfl).2
      have : (a : Int) = b := by injection this
      omega
    · refine (allL_nodup d p).imp fun {a b} hab x hx y hy e => hab ?_
      obtain ⟨_, _, h1⟩ := List.mem_filterMap.mp hx
      obtain ⟨_, _, h2⟩ := List.mem_filterMap.mp hy
      obtain ⟨_, rfl⟩ := extF_some h1
      obtain ⟨_, rfl⟩ := extF_some h2
      exact (List.append_inj' e rfl).1
def valR (d : Int) (r : List Int) : Int := vl d 0 r.reverse
theorem adm_hd {d y : Int} {b : List Int} (h : Adm d (y :: b).reverse) : Adm d b.reverse := by
  rw [List.reverse_cons] at h
  exact adm_pre h
theorem lex_lt {d : Int} (hd : d ∈ roots) : ∀ (a b : List Int), a.length = b.length → Adm d a.reverse → Adm d b.reverse → valR d b < valR d a → b < a
  | [], [], _, _, _, h => absurd h (Int.lt_irrefl _)
  | x :: a, y :: b, hl, ha, hb, h => by
    have hl2 : a.length = b.length := by
      have : a.length + 1 = b.length + 1 := hl
      omega
    have a1 := adm_hd ha
    have b1 := adm_hd hb
    have va := adm_lt hd _ a.reverse rfl a1
    have vb0 := vl_nn hd b.reverse 0 (adm_nn b1)
    have vb := adm_lt hd _ b.reverse rfl b1
    have va0 := vl_nn hd a.reverse 0 (adm_nn a1)
    rw [List.length_reverse] at va vb
    unfold valR at h
    rw [List.reverse_cons, List.reverse_cons, vl_snoc, vl_snoc, List.length_reverse, List.length_reverse, Nat.zero_add, Nat.zero_add, hl2] at h
    rw [hl2] at va
    have q1 := (qs_ok hd b.length).1
    rw [List.cons_lt_cons_iff]
    rcases Int.lt_trichotomy y x with z | z | z
    · exact .inl z
    · subst z
      exact .inr ⟨rfl, lex_lt hd a b hl2 a1 b1 (by unfold valR; omega)⟩
    · have := Int.mul_le_mul_of_nonneg_right (show x + 1 ≤ y by omega) (show 0 ≤ qs d b.length by omega)
      rw [Int.add_mul, Int.one_mul] at this
      omega
def srtL (d : Int) (p : Nat) : List (List Int) := ((allL d p).map List.reverse).mergeSort fun a b => decide (a ≤ b)
theorem srtL_mem {d : Int} (hd : d ∈ roots) (p : Nat) (x : List Int) : x ∈ srtL d p ↔ x.length = p ∧ Adm d x.reverse := by
  unfold srtL
  rw [(List.mergeSort_perm _ _).mem_iff, List.mem_map]
  constructor
  · rintro ⟨y, hy, rfl⟩
    rw [List.length_reverse, List.reverse_reverse]
    exact (mem_allL hd p y).mp hy
  · rintro ⟨h1, h2⟩
    exact ⟨x.reverse, (mem_allL hd p _).mpr ⟨by rw [List.length_reverse]; exact h1, h2⟩, List.reverse_reverse x⟩
theorem srtL_asc {d : Int} (hd : d ∈ roots) (p : Nat) : ((srtL d p).map (valR d)).Pairwise (· < ·) := by
  rw [List.pairwise_map]
  have h1 : (srtL d p).Pairwise fun a b => decide (a ≤ b) = true := by
    unfold srtL
    refine List.pairwise_mergeSort (le := fun a b : List Int => decide (a ≤ b)) (fun a b c h1 h2 => decide_eq_true (List.le_trans (of_decide_eq_true h1) (of_decide_eq_true h2))) (fun a b => ?_) _
    rcases List.le_total (α := Int) a b with h | h
    · rw [decide_eq_true h]; rfl
    · rw [decide_eq_true h, Bool.or_true]
  have h2 : (srtL d p).Nodup := by
    unfold srtL
    rw [(List.mergeSort_perm _ _).nodup_iff]
    refine List.pairwise_map.mpr ((allL_nodup d p).imp fun {a b} h e => h ?_)
    rw [← List.reverse_reverse a, e, List.reverse_reverse]
  refine (h1.and h2).imp_of_mem fun {a b} ma mb ⟨h1, h2⟩ => ?_
  obtain ⟨la, aa⟩ := (srtL_mem hd p a).mp ma
  obtain ⟨lb, ab⟩ := (srtL_mem hd p b).mp mb
  have h1 : ¬ b < a := of_decide_eq_true h1
  have h3 : ¬ valR d b < valR d a := fun z => h1 (lex_lt hd a b (by omega) aa ab z)
  have h4 : valR d a ≠ valR d b := fun z => h2 (by
    have ea := adm_gr hd p a.reverse (by rw [List.length_reverse]; exact la) aa
    have eb := adm_gr hd p b.reverse (by rw [List.length_reverse]; exact lb) ab
    unfold valR at z
    rw [← z, ← ea] at eb
    rw [← List.reverse_reverse a, ← eb, List.reverse_reverse])
  omega
theorem map_congr_id {α : Type} {l : List α} {f : α → α} (h : ∀ x ∈ l, f x = x) : l.map f = l := by
  induction l with
  | nil => rfl
  | cons a l ih => rw [List.map_cons, h a (List.mem_cons_self ..), ih fun x hx => h x (List.mem_cons_of_mem _ hx)]
theorem srtL_eq {d : Int} (hd : d ∈ roots) (p : Nat) : (srtL d p).map List.reverse = (List.range (qs d p).toNat).map fun n : Nat => gr d p n := by
  have q1 := (qs_ok hd p).1
  have h : (srtL d p).map (valR d) = fromI 0 (qs d p).toNat := asc_ext (srtL_asc hd p) (fromI_asc _ _) fun v => by
    rw [mem_fromI, List.mem_map]
    constructor
    · rintro ⟨x, hx, rfl⟩
      obtain ⟨l, a⟩ := (srtL_mem hd p x).mp hx
      have h1 := adm_lt hd p _ (by rw [List.length_reverse]; exact l) a
      have h2 := vl_nn hd _ 0 (adm_nn a)
      unfold valR
      omega
    · rintro ⟨h1, h2⟩
      have h2 : v < qs d p := by omega
      refine ⟨(gr d p v).reverse, (srtL_mem hd p _).mpr ⟨by rw [List.length_reverse, gr_len], by rw [List.reverse_reverse]; exact gr_adm hd p v h1 h2⟩, ?_⟩
      unfold valR
      rw [List.reverse_reverse]
      exact gr_val hd p v h1 h2
  have e : (srtL d p).map List.reverse = ((srtL d p).map (valR d)).map (gr d p) := by
    rw [List.map_map]
    refine List.map_congr_left fun x hx => ?_
    obtain ⟨l, a⟩ := (srtL_mem hd p x).mp hx
    exact adm_gr hd p x.reverse (by rw [List.length_reverse]; exact l) a
  rw [e, h]
  unfold fromI
  rw [List.map_map]
  refine List.map_congr_left fun n _ => ?_
  show gr d p (0 + (n : Int)) = gr d p n
  rw [Int.zero_add]
theorem allL_len {d : Int} (hd : d ∈ roots) (p : Nat) : (allL d p).length = (qs d p).toNat := by
  have h := congrArg List.length (srtL_eq hd p)
  rw [List.length_map, List.length_map, List.length_range] at h
  rw [← h]
  unfold srtL
  rw [List.length_mergeSort, List.length_map]
theorem split0 : ∀ (n : Nat) (ds : List Int), ds.length = n → ∃ es k, ds = es ++ List.replicate k 0 ∧ Trm es
  | 0, ds, h => ⟨[], 0, by rw [List.length_eq_zero_iff.mp h]; rfl, fun xs y e => by cases xs <;> cases e⟩
  | n + 1, ds, h => by
    rcases List.eq_nil_or_concat ds with rfl | ⟨xs, y, rfl⟩
    · cases h
    · rw [List.concat_eq_append] at *
      rw [List.length_append] at h
      have h : xs.length + 1 = n + 1 := h
      by_cases z : y = 0
      · subst z
        obtain ⟨es, k, e, t⟩ := split0 n xs (by omega)
        exact ⟨es, k + 1, by rw [List.replicate_succ', ← List.append_assoc, ← e], t⟩
      · exact ⟨xs ++ [y], 0, by rw [List.replicate_zero, List.append_nil], fun zs w e => by
          have := (List.append_inj' e rfl).2
          have : y = w := by injection this
          rw [← this]; exact z⟩
theorem zeros_from {es : List Int} (t : Trm es) (k at' : Nat) (h : at' ≤ es.length + k) : (es ++ List.replicate k 0).drop at' = List.replicate (es.length + k - at') 0 ↔ es.length ≤ at' := by
  constructor
  · intro e
    refine Nat.le_of_not_lt fun z => ?_
    rcases List.eq_nil_or_concat es with rfl | ⟨xs, y, rfl⟩
    · cases z
    · rw [List.concat_eq_append] at *
      rw [List.length_append] at z
      have z : at' < xs.length + 1 := z
      refine t xs y rfl ?_
      have hm : y ∈ (xs ++ [y] ++ List.replicate k 0).drop at' := by
        rw [List.append_assoc, List.drop_append_of_le_length (by omega)]
        exact List.mem_append.mpr (.inr (List.mem_append.mpr (.inl (List.mem_singleton.mpr rfl))))
      rw [e] at hm
      exact (List.mem_replicate.mp hm).2
  · intro e
    rw [List.drop_append, List.drop_eq_nil_of_le e, List.nil_append, List.drop_replicate]
    congr 1
    omega
theorem count_from {m : Nat} (g : Nat → V) : ∀ k : Nat, ((List.range (m + k)).filterMap fun i => if m ≤ i then some (g i) else none).length = k
  | 0 => by
    rw [List.length_eq_zero_iff, List.filterMap_eq_nil_iff]
    intro i hi
    rw [Nat.add_zero, List.mem_range] at hi
    exact if_neg (by omega)
  | k + 1 => by
    rw [← Nat.add_assoc, List.range_succ, List.filterMap_append, List.length_append, count_from g k, List.filterMap_cons, if_pos (show m ≤ m + k by omega)]
    rfl
section
variable {σ : L2.St} {H : Hp} {Q : VK} {ta : TE}
def LrgB (n : Int) (H : Hp) (Q : VK) : Prop := RgOk 0 n ∧ ∀ q, H q = none → Q (.ref q) (upd H q (.lst (rgV 0 n)))
theorem rd_lstRg (h : ta σ H fun x H1 => ∃ n, x = .int n ∧ LrgB n H1 Q) : tLstRg (tRg1 ta) σ H Q := h
theorem rd_lrgB {n : Int} (h0 : 0 ≤ n) (h1 : n ≤ 100000) (q : ∀ p H2, H p = none → Same H H2 → H2 p = some (.lst ((List.range n.toNat).map fun i : Nat => V.int i)) → Q (.ref p) H2) : LrgB n H Q := by
  refine ⟨RgOk.of_le (by decide) (by omega) (by decide) h0, fun p hp => ?_⟩
  have e : rgV 0 n = (List.range n.toNat).map fun i : Nat => V.int i := by
    unfold rgV
    rw [Int.sub_zero]
    refine List.map_congr_left fun i _ => ?_
    rw [Int.zero_add]
  rw [e]
  exact q p _ hp (Same.new hp) upd_same
end
def LawInv07 (a b c : Addr) (ms : List Int) (_ : Nat) (σ : L2.St) (H : Hp) : Prop := ∃ o2 o3 o4 o5 o6 o7 o8 o9 o10 o11 o12 o13 o14 o15 : Option V, σ = [some (.ref a), some (.ref b), o2, o3, o4, o5, o6, o7, o8, o9, o10, o11, o12, o13, o14, o15] ∧ Bag b c ms H
theorem len_flat {α β : Type} {f : α → List β} {m : Nat} : ∀ (l : List α), (∀ x ∈ l, (f x).length ≤ m) → (l.flatMap f).length ≤ m * l.length
  | [], _ => Nat.zero_le _
  | x :: l, h => by
    rw [List.flatMap_cons, List.length_append, List.length_cons, Nat.mul_succ]
    have h1 := h x (List.mem_cons_self ..)
    have h2 := len_flat l fun y hy => h y (List.mem_cons_of_mem _ hy)
    omega
theorem fm_map {β γ : Type} (l : List β) (f : β → γ) {n : Nat} (h : n = l.length) : (List.range n).filterMap (fun i : Nat => l[i]?.map f) = l.map f := by
  subst h
  have e : (fun i : Nat => l[i]?.map f) = fun i : Nat => l[i]?.bind fun x => some (f x) := funext fun i => by cases l[i]? <;> rfl
  rw [e, range_opt, List.filterMap_eq_map']
theorem cut_drop (xs : List V) {k : Nat} (h : k ≤ xs.length) : cutV xs (some (k : Int)) none = xs.drop k := by
  unfold cutV
  have e1 : HT.sIx xs.length xs.length none = xs.length := rfl
  rw [e1, HT.sIx_nat, Nat.min_eq_left h]
  exact List.take_of_length_le (by rw [List.length_drop]; omega)
theorem rep_ints (m : Nat) : (List.replicate m [V.int 0]).flatten = (List.replicate m (0 : Int)).map V.int := by
  induction m with
  | zero => rfl
  | succ m ih =>
    rw [List.replicate_succ, List.flatten_cons, ih]
    rfl
theorem eqv_ints2 : ∀ a b : List Int, PyData.eqv (.list (a.map .int)) (.list (b.map .int)) = decide (a = b)
  | [], [] => rfl
  | [], _ :: _ => rfl
  | _ :: _, [] => rfl
  | x :: a, y :: b => by
    show (PyData.eqv (.int x) (.int y) && PyData.eqv (.list (a.map .int)) (.list (b.map .int))) = _
    rw [eqv_ints2 a b, show PyData.eqv (.int x) (.int y) = decide (x = y) by show (x == y) = _; by_cases h : x = y <;> simp [h]]
    by_cases h : x = y
    · by_cases g : a = b <;> simp [h, g]
    · simp [h]
theorem qs_301 {d : Int} (hd : d ∈ roots) : 301 < qs d 20 ∧ qs d 1 ≤ 301 := by
  rcases roots_cases hd with rfl | rfl | rfl | rfl | rfl <;> decide +kernel
theorem ok_law (T : Txt K mg) (h_law_bag : Ok P w K mg base 1 "_law_bag" ["_law_script"] (spBag K)) (h_law_pull : Ok P w K mg base 1 "_law_pull" ["_law_bag_here", "_law_sides"] spPull) (h_law_root : Ok P w K mg base 3 "_law_root" ["_law_bag_here"] spLRoot)
    (hc_Field_1 : OkC0 P w K mg base 3 (finitA K) ["self", "root"] [] (spFInit K)) (h_law_steps : Ok P w K mg base 2 "_law_steps" ["_law_root_here", "_law_many"] spLSteps) (h_law_can : Ok P w K mg base 2 "_law_can" ["_law_root_here", "_law_place", "_law_digit", "_law_before"] spCan)
    (h_Field_digits : OkF P w K mg base 4 (fieldM K "digits") ["self", "number"] (spDigitsFT K)) (h_Field_value : OkF P w K mg base 2 (fieldM K "value") ["self", "digits"] (spValueA K)) (h_Field_step : OkF P w K mg base 2 (fieldM K "step") ["self", "place"] (spStepF K))
    (h_law_same : Ok P w K mg base 2 "_law_same" ["_law_found", "_law_due"] (spSame 1)) : Ok P w K mg base 10 "law" ["_law_script"] (spLaw K) := by
  refine Ok.mk T.F_law T.g_law sc_law (fun _ _ _ _ _ _ us hl => match us, hl with | [_], _ => rfl) (fun vs H Q E h => ?_) (fun cdv A outer s H vs Q E hr h => ?_)
  · obtain ⟨a, ns, rfl, _⟩ := h
    rfl
  · obtain ⟨a, ns, rfl, hS, kk⟩ := h
    refine ⟨_, (pss_cons (ps_set (i := 1) sc_law.nd rfl (.inl rfl) (pe_ok h_law_bag (hr.mono (by omega)) (by rfl) (pa_cons (pv 0) pa_nil)))
      (pss_cons (ps_for PassesOwn.never rfl (pi_range1 (by rfl) T.b_range (pa_cons pe_int pa_nil)) (pg_name (i := 2) sc_law.nd rfl (.inl rfl)) (pss_cons (ps_set (i := 3) sc_law.nd rfl (.inr rfl) (pe_ok h_law_root (hr.mono (by omega)) (by rfl) (pa_cons (pv 1) pa_nil)))
      (pss_cons (ps_asg (pe_tup (pa_cons (pe_oc0 T.mk_Field hc_Field_1 (hr.mono (by omega)) (by rfl) T.g_Field (pa_cons (pv 3) pa_nil)) (pa_cons pe_int pa_nil))) (pg_tup rfl (pgs_cons (pg_name (i := 4) sc_law.nd rfl (.inr rfl)) (pgs_cons (pg_name (i := 5) sc_law.nd rfl (.inl rfl)) pgs_nil))))
      (pss_cons (ps_set (i := 6) sc_law.nd rfl (.inl rfl) (pe_op op_add pe_int (pe_ok h_law_pull (hr.mono (by omega)) (by rfl) (pa_cons (pv 1) (pa_cons pe_int pa_nil)))))
      (pss_cons (ps_while PassesOwn.never (pt_cmpR op_le (pe_ix ix_list (pe_ok h_law_steps (hr.mono (by omega)) (by rfl) (pa_cons (pv 3) (pa_cons (pe_op op_add (pv 5) pe_int) pa_nil))) (pe_un un_neg pe_int) (fun _ _ => rfl)) (pv 6) (nomark _)) (pss_one (ps_set (i := 5) sc_law.nd rfl (.inl rfl) (pe_op op_add (pv 5) pe_int))))
      (pss_cons (ps_set (i := 7) sc_law.nd rfl (.inl rfl) (pe_lst (pa_cons (pe_lst pa_nil) pa_nil)))
      (pss_cons (ps_for PassesOwn.never rfl (pi_range1 (by rfl) T.b_range (pa_cons (pv 5) pa_nil)) (pg_name (i := 8) sc_law.nd rfl (.inr rfl)) (pss_cons (ps_set (i := 9) sc_law.nd rfl (.inl rfl) (pe_lst pa_nil))
      (pss_cons (ps_for PassesOwn.never rfl (pi_list (pv 7)) (pg_name (i := 10) sc_law.nd rfl (.inr rfl)) (pss_cons (ps_set (i := 11) sc_law.nd rfl (.inr rfl) (pe_ifExp (pt_cmpR (op_neD hr.units) (pv 10) (pe_lst pa_nil) (nomark _)) (pe_ix ix_list (pv 10) (pe_un un_neg pe_int) (fun _ _ => rfl)) pe_int))
      (pss_one (ps_set (i := 9) sc_law.nd rfl (.inl rfl) (pe_op op_cat (pv 9) (pe_lc (own := [("_law_digit", 14)]) (by rfl) sc_law.nd (pi_range1 (by rfl) T.b_range (pa_cons pe_int pa_nil)) (blkOk_by (own := [("_law_digit", 14)]) (N := ["_law_script", "_law_bag_here", "_law_turn", "_law_root_here", "_law_field", "_law_places", "_law_room", "_law_lists", "_law_place", "_law_longer", "_law_some", "_law_before", "_law_number", "_law_many", "_law_digit", "_law_at"]) (sc := defScope s_law) (by decide +kernel)) (fun _ _ _ _ _ => (pg_name (i := 14) sc_law.nd rfl (.inl rfl))) (fun _ _ _ _ _ => (pts_one (pt_val (pe_ok h_law_can (hr.mono (by omega)) (by rfl) (pa_cons (pv 3) (pa_cons (pv 8) (pa_cons (pv 14) (pa_cons (pv 11) pa_nil)))))))) (fun _ _ _ _ _ => (pe_op op_cat (pv 10) (pe_lst (pa_cons (pv 14) pa_nil))))))))))
      (pss_one (ps_set (i := 7) sc_law.nd rfl (.inl rfl) (pv 9))))))
      (pss_cons (ps_setLc (i := 7) (own := [("_law_some", 10)]) (by rfl) sc_law.nd rfl rfl (sw_true rfl rfl rfl (by decide +kernel)) (pi_list (pe_callB (cr_sortedLs hr.units) (by rfl) T.b_sorted (by decide +kernel) (pa_cons (pe_lc (own := [("_law_some", 10)]) (by rfl) sc_law.nd (pi_list (pv 7)) (blkOk_by (own := [("_law_some", 10)]) (N := ["_law_script", "_law_bag_here", "_law_turn", "_law_root_here", "_law_field", "_law_places", "_law_room", "_law_lists", "_law_place", "_law_longer", "_law_some", "_law_before", "_law_number", "_law_many", "_law_digit", "_law_at"]) (sc := defScope s_law) (by decide +kernel)) (fun _ _ _ _ _ => (pg_name (i := 10) sc_law.nd rfl (.inl rfl))) (fun _ _ _ _ _ => pts_nil) (fun _ _ _ _ _ => (pe_revLK (K := K) rfl (pv 10)))) pa_nil))) (blkOk_by (own := [("_law_some", 10)]) (N := ["_law_script", "_law_bag_here", "_law_turn", "_law_root_here", "_law_field", "_law_places", "_law_room", "_law_lists", "_law_place", "_law_longer", "_law_some", "_law_before", "_law_number", "_law_many", "_law_digit", "_law_at"]) (sc := defScope s_law) (by decide +kernel)) (fun _ _ _ _ _ => (pg_name (i := 10) sc_law.nd rfl (.inl rfl))) (fun _ _ _ _ _ => pts_nil) (fun _ _ _ _ _ => (pe_revLK (K := K) rfl (pv 10))))
      (pss_cons (ps_if (pt_not (pt_val (pe_ok h_law_same (hr.mono (by omega)) (by rfl) (pa_cons (pe_lc (own := [("_law_some", 10)]) (by rfl) sc_law.nd (pi_list (pv 7)) (blkOk_by (own := [("_law_some", 10)]) (N := ["_law_script", "_law_bag_here", "_law_turn", "_law_root_here", "_law_field", "_law_places", "_law_room", "_law_lists", "_law_place", "_law_longer", "_law_some", "_law_before", "_law_number", "_law_many", "_law_digit", "_law_at"]) (sc := defScope s_law) (by decide +kernel)) (fun _ _ _ _ _ => (pg_name (i := 10) sc_law.nd rfl (.inl rfl))) (fun _ _ _ _ _ => pts_nil) (fun _ _ _ _ _ => (pe_om (pv 4) T.cl_Field T.me_Field_value h_Field_value (hr.mono (by omega)) (pa_cons (pv 10) pa_nil)))) (pa_cons (pe_listRg rfl (by rfl) T.b_list (prg_1 (by rfl) T.b_range (pe_callB c_len (by rfl) T.b_len (by decide +kernel) (pa_cons (pv 7) pa_nil)))) pa_nil))))) (pss_one (ps_ret pe_bl)) pss_nil)
      (pss_cons (ps_if (pt_cmpR op_ne (pe_callB c_len (by rfl) T.b_len (by decide +kernel) (pa_cons (pv 7) pa_nil)) (pe_om (pv 4) T.cl_Field T.me_Field_step h_Field_step (hr.mono (by omega)) (pa_cons (pv 5) pa_nil)) (nomark _)) (pss_one (ps_ret pe_bl)) pss_nil)
      (pss_one (ps_for PassesOwn.never rfl (pi_range1 (by rfl) T.b_range (pa_cons (pe_callB c_len (by rfl) T.b_len (by decide +kernel) (pa_cons (pv 7) pa_nil)) pa_nil)) (pg_name (i := 12) sc_law.nd rfl (.inl rfl)) (pss_cons (ps_set (i := 10) sc_law.nd rfl (.inr rfl) (pe_ix ix_list (pv 7) (pv 12) (fun _ _ => rfl)))
      (pss_cons (ps_set (i := 13) sc_law.nd rfl (.inl rfl) (pe_op op_sub (pe_callB c_len (by rfl) T.b_len (by decide +kernel) (pa_cons (pv 10) pa_nil)) (pe_callB c_len (by rfl) T.b_len (by decide +kernel) (pa_cons (pe_lc (own := [("_law_at", 15)]) (by rfl) sc_law.nd (pi_range1 (by rfl) T.b_range (pa_cons (pe_callB c_len (by rfl) T.b_len (by decide +kernel) (pa_cons (pv 10) pa_nil)) pa_nil)) (blkOk_by (own := [("_law_at", 15)]) (N := ["_law_script", "_law_bag_here", "_law_turn", "_law_root_here", "_law_field", "_law_places", "_law_room", "_law_lists", "_law_place", "_law_longer", "_law_some", "_law_before", "_law_number", "_law_many", "_law_digit", "_law_at"]) (sc := defScope s_law) (by decide +kernel)) (fun _ _ _ _ _ => (pg_name (i := 15) sc_law.nd rfl (.inl rfl))) (fun _ _ _ _ _ => (pts_one (pt_cmpR (op_eqDK (K := K) rfl hr.units) (pe_slice (sl_listK (K := K) rfl) (pv 10) (po_some (pv 15)) po_none) (pe_op op_rep (pe_lst (pa_cons pe_int pa_nil)) (pe_op op_sub (pe_callB (c_lenK (K := K) rfl) (by rfl) T.b_len (by decide +kernel) (pa_cons (pv 10) pa_nil)) (pv 15))) (nomark _)))) (fun _ _ _ _ _ => (pv 15))) pa_nil))))
      (pss_one (ps_if (pt_cmpR (op_neD hr.units) (pe_om (pv 4) T.cl_Field T.me_Field_digits h_Field_digits (hr.mono (by omega)) (pa_cons (pv 12) pa_nil)) (pe_slice sl_list (pv 10) po_none (po_some (pv 13))) (nomark _)) (pss_one (ps_ret pe_bl)) pss_nil))))))))))))))))
      (pss_one (ps_ret pe_bl)))), ?_⟩
    walk_at "st"
    walk_at "r"
    refine ⟨a, ns, rfl, hS, fun b c ms H1 s1 B1 => ?_⟩
    walk_at "r"
    refine rd_wkR ⟨by decide, by decide⟩ ?_
    refine fo_it (walk_range (lo := 0) (n := 2)) (LawInv07 a b c ms) ⟨_, _, _, _, _, _, _, _, _, _, _, _, _, _, rfl, B1⟩ (fun _ _ _ _ _ => trivial) ?_ ?_
    · rintro i0 y σ1 H2 H3 hi ⟨o2, o3, o4, o5, o6, o7, o8, o9, o10, o11, o12, o13, o14, o15, rfl, B2⟩ ⟨rfl, rfl⟩
      walk_at "r"
      refine ⟨b, c, ms, rfl, B2, fun d G1 hd x1 B3 => ?_⟩
      walk_at "r"
      refine rd_mkF ⟨hd, fun fa G2 s2 hF => ?_⟩
      walk_at "a"
      rename_i tt G4 _ s4 h4
      refine rd_gTup (sqT_of h4) rfl ?_
      walk_at "a"
      have y4 : Same G1 G4 := s2.trans s4
      have F4 := hF.same s4
      have B4 := B3.same y4
      clear B3 x1 hF B2 y4 s2 s4 h4
      refine ⟨b, c, ms, _, rfl, B4, by decide, by decide, fun rm G5 r0 r1 x5 B5 => ?_⟩
      have F5 := F4.ext x5
      clear F4 B4 x5
      walk_at "r"
      obtain ⟨q20, q1⟩ := qs_301 hd
      refine ⟨fun m σ1 H8 => ∃ p : Nat, 1 ≤ p ∧ p ≤ 20 ∧ m = 20 - p ∧ qs d p ≤ 301 ∧ σ1 = [some (V.ref a), some (V.ref b), some (V.int (0 + (i0 : Int))), some (V.int d), some (V.ref fa), some (V.int p), some (V.int (2 + rm)), o7, o8, o9, o10, o11, o12, o13, o14, o15] ∧ Same G5 H8, ⟨19, 1, by decide, by decide, rfl, q1, rfl, .refl _⟩, ?_⟩
      rintro m σ1 H8 ⟨p, p1, p20, rfl, qp, rfl, s8⟩
      walk_at "r"
      refine ⟨d, _, rfl, hd, by omega, by omega, fun l H9 nl s9 u9 => ?_⟩
      walk_at "r"
      refine rd_ixL (sqL_of u9) (atI_steps d _) ?_
      rw [show ((p : Int) + 1).toNat = p + 1 by omega]
      walk_at "r"
      refine rd_dec (fun z => ⟨_, fun _ _ y => y, ?_⟩) (fun z => ?_)
      · have p19 : p < 19 := by
          refine Nat.lt_of_not_ge fun c => ?_
          have := qs_le hd (show 20 ≤ p + 1 by omega)
          omega
        walk_at "r"
        exact ⟨20 - (p + 1), by omega, p + 1, by omega, by omega, rfl, by omega, by rw [show ((p + 1 : Nat) : Int) = (p : Int) + 1 by omega], s8.trans s9⟩
      clear u9
      have F9 := (F5.same s8).same s9
      have B9 := (B5.same s8).same s9
      clear F5 B5 s8 s9 nl
      walk_at "a"
      rename_i l0 G6 n0 s6 u6 l1 G7 n1 s7 u7
      have F7 := (F9.same s6).same s7
      have B7 := (B9.same s6).same s7
      have P0 : Paired (LsV G7) [V.ref l0] (allL d 0) := .cons ⟨l0, rfl, s7 _ _ u6⟩ .nil
      clear F9 B9 s6 s7 u6 n0 n1
      refine rd_wkR ⟨by omega, by omega⟩ ?_
      rw [show ((p : Nat) : Int).toNat = p by omega]
      have len301 : ∀ i, i ≤ p → (allL d i).length ≤ 301 := fun i hi => by
        rw [allL_len hd]
        have := qs_le hd hi
        omega
      refine fo_it (walk_range (lo := 0) (n := p)) (fun i σ1 H3 => ∃ (o8 o9 o10 o11 : Option V) (L : Addr) (xs : List V), σ1 = [some (V.ref a), some (V.ref b), some (V.int (0 + (i0 : Int))), some (V.int d), some (V.ref fa), some (V.int p), some (V.int (2 + rm)), some (V.ref L), o8, o9, o10, o11, o12, o13, o14, o15] ∧ Same G7 H3 ∧ H3 L = some (.lst xs) ∧ Paired (LsV H3) xs (allL d i)) ⟨_, _, _, _, l1, _, rfl, .refl _, u7, P0⟩ (fun _ _ _ _ _ => trivial) ?_ ?_
      · rintro i y σ1 H4 H5 hip ⟨o8, o9, o10, o11, L, xs, rfl, s4, uL, pL⟩ ⟨rfl, rfl⟩
        walk_at "a"
        rename_i M0 H6 nM sM uM
        have PL := pimp pL fun _ _ h => LsV.same sM h
        replace uL := sM _ _ uL
        clear pL
        refine rd_wkL (sqL_of uL) ?_
        refine fo_it walk_list (fun j σ2 H7 => ∃ (o10 o11 : Option V) (M : Addr) (ys : List V), σ2 = [some (V.ref a), some (V.ref b), some (V.int (0 + (i0 : Int))), some (V.int d), some (V.ref fa), some (V.int p), some (V.int (2 + rm)), some (V.ref L), some (V.int (0 + (i : Int))), some (V.ref M), o10, o11, o12, o13, o14, o15] ∧ Same H6 H7 ∧ H7 M = some (.lst ys) ∧ Paired (LsV H7) ys (((allL d i).take j).flatMap (extB d i))) ⟨_, _, M0, _, rfl, .refl _, uM, .nil⟩ (fun _ σ2 H7 _ ⟨_, _, _, _, _, s7, _⟩ => sqL_of (s7 _ _ uL)) ?_ ?_
        · rintro j y σ2 H7 H8' hj ⟨o10, o11, M, ys, rfl, s7, uY, pY⟩ ⟨rfl, hy⟩
          obtain ⟨ds, hds, t, rfl, ut⟩ := paired_get (pimp PL fun _ _ h => LsV.same s7 h) hy
          have lds : ds.length = i := ((mem_allL hd i ds).mp (List.mem_of_getElem? hds)).1
          walk_at "r"
          refine rd_newL (by show 0 ≤ sizeLine; decide) fun le G9 ne9 s9 u9 => ?_
          have ut9 := s9 _ _ ut
          refine rd_neD (n := 1) (m := 1) (by decide) (by decide) (dn_ints ut9 (by omega)) (Dn.lst (n := 0) u9 rfl .nil (by simp)) ?_
          rw [eqv_nilI]
          rcases List.eq_nil_or_concat ds with e0 | ⟨xs', y', e0⟩
          · rw [show ds.isEmpty = true by rw [e0]; rfl]
            have hbf : ∀ k, canB d i k 0 = canB d i k (lastD ds) := fun k => by rw [e0]; rfl
            walk_at "r"
            walk_at "r"
            refine rd_wkR ⟨by decide, by decide⟩ ?_
            refine lc_rel (walk_range (lo := 0) (n := 5)) (fun _ _ => trivial) (extF d i ds) LsV LsV.keep (by decide) (fun k x J2 J3 D Q' N' hk w2 hacc y q1 q2 => ?_) (fun D J2 zs nD w2 t2 pr => ?_)
            · obtain ⟨rfl, rfl⟩ := y
              walk_at "r"
              refine ⟨d, _, _, _, rfl, hd, by omega, fun J4 w4 => ?_⟩
              rw [show (0 + (i : Int)).toNat = i by omega, show (0 + (k : Int)) = k by omega, hbf]
              cases hc : canB d i (k : Int) (lastD ds) with
              | true =>
                walk_at "a"
                rename_i p5 J5 n5 w5 u5
                have ut5 := w5 _ _ (w4 _ _ (w2 _ _ ut9))
                refine rd_cat ut5 u5 (by rw [List.length_map]; exact sz_small (by simp; omega)) fun p6 J6 n6 w6 u6 => ?_
                refine q1 _ J6 _ (by unfold extF; rw [if_pos hc]) ((w4.trans w5).trans w6) ⟨p6, rfl, by rw [u6, List.map_append]; rfl⟩ (fun e => ?_)
                obtain ⟨acc, hacc⟩ := hacc
                have e : p6 = D := by injection e
                subst e
                rw [w5 _ _ (w4 _ _ hacc)] at n6
                cases n6
              | false =>
                walk_at "r"
                exact q2 J4 (by unfold extF; rw [if_neg (by rw [hc]; decide)]) w4
            · walk_at "r"
              have uY9 := w2 _ _ (s9 _ _ uY)
              have ly : ys.length ≤ 1505 := by
                rw [pY.length]
                refine Nat.le_trans (len_flat (m := 5) _ fun x _ => Nat.le_trans (List.length_filterMap_le _ _) (by simp)) ?_
                have := len301 i (by omega)
                have := List.length_take_le' j (allL d i)
                omega
              have lz : zs.length ≤ 5 := by
                rw [pr.length]
                exact Nat.le_trans (List.length_filterMap_le _ _) (by simp)
              refine rd_cat uY9 t2 (sz_small (by omega)) fun p6 J6 n6 w6 u6 => ?_
              walk_at "r"
              have s79 := (s9.trans w2).trans w6
              refine ⟨_, _, p6, _, rfl, s7.trans s79, u6, ?_⟩
              rw [List.take_succ, hds, List.flatMap_append]
              refine paired_app (pimp pY fun _ _ h => LsV.same s79 h) ?_
              show Paired _ zs (List.flatMap (extB d i) [ds])
              rw [List.flatMap_cons, List.flatMap_nil, List.append_nil]
              exact pimp pr fun _ _ h => LsV.same w6 h
          · rw [List.concat_eq_append] at e0
            rw [show ds.isEmpty = false by rw [e0]; cases xs' <;> rfl]
            have hbf : ∀ k, canB d i k y' = canB d i k (lastD ds) := fun k => by rw [e0, lastD_snoc]
            walk_at "r"
            have ut10 := ut9
            rw [e0, List.map_append] at ut10
            refine rd_ixL (sqL_of ut10) (atI_last _ _) ?_
            walk_at "r"
            refine rd_wkR ⟨by decide, by decide⟩ ?_
            refine lc_rel (walk_range (lo := 0) (n := 5)) (fun _ _ => trivial) (extF d i ds) LsV LsV.keep (by decide) (fun k x J2 J3 D Q' N' hk w2 hacc y q1 q2 => ?_) (fun D J2 zs nD w2 t2 pr => ?_)
            · obtain ⟨rfl, rfl⟩ := y
              walk_at "r"
              refine ⟨d, _, _, _, rfl, hd, by omega, fun J4 w4 => ?_⟩
              rw [show (0 + (i : Int)).toNat = i by omega, show (0 + (k : Int)) = k by omega, hbf]
              cases hc : canB d i (k : Int) (lastD ds) with
              | true =>
                walk_at "a"
                rename_i p5 J5 n5 w5 u5
                have ut5 := w5 _ _ (w4 _ _ (w2 _ _ ut9))
                refine rd_cat ut5 u5 (by rw [List.length_map]; exact sz_small (by simp; omega)) fun p6 J6 n6 w6 u6 => ?_
                refine q1 _ J6 _ (by unfold extF; rw [if_pos hc]) ((w4.trans w5).trans w6) ⟨p6, rfl, by rw [u6, List.map_append]; rfl⟩ (fun e => ?_)
                obtain ⟨acc, hacc⟩ := hacc
                have e : p6 = D := by injection e
                subst e
                rw [w5 _ _ (w4 _ _ hacc)] at n6
                cases n6
              | false =>
                walk_at "r"
                exact q2 J4 (by unfold extF; rw [if_neg (by rw [hc]; decide)]) w4
            · walk_at "r"
              have uY9 := w2 _ _ (s9 _ _ uY)
              have ly : ys.length ≤ 1505 := by
                rw [pY.length]
                refine Nat.le_trans (len_flat (m := 5) _ fun x _ => Nat.le_trans (List.length_filterMap_le _ _) (by simp)) ?_
                have := len301 i (by omega)
                have := List.length_take_le' j (allL d i)
                omega
              have lz : zs.length ≤ 5 := by
                rw [pr.length]
                exact Nat.le_trans (List.length_filterMap_le _ _) (by simp)
              refine rd_cat uY9 t2 (sz_small (by omega)) fun p6 J6 n6 w6 u6 => ?_
              walk_at "r"
              have s79 := (s9.trans w2).trans w6
              refine ⟨_, _, p6, _, rfl, s7.trans s79, u6, ?_⟩
              rw [List.take_succ, hds, List.flatMap_append]
              refine paired_app (pimp pY fun _ _ h => LsV.same s79 h) ?_
              show Paired _ zs (List.flatMap (extB d i) [ds])
              rw [List.flatMap_cons, List.flatMap_nil, List.append_nil]
              exact pimp pr fun _ _ h => LsV.same w6 h
        · rintro σ2 H7 ⟨o10, o11, M, ys, rfl, s7, uY, pY⟩
          walk_at "r"
          refine ⟨_, _, _, _, M, ys, rfl, (s4.trans sM).trans s7, uY, ?_⟩
          rw [PL.length, List.take_length] at pY
          exact pY
      · rintro σ1 H3 ⟨o8, o9, o10, o11, L, xs, rfl, s3, uL, pL⟩
        have lxs : xs.length = (allL d p).length := pL.length
        have l301 := len301 p (Nat.le_refl _)
        have F3 := F7.same s3
        have B3 := B7.same s3
        clear F7 B7 P0 len301 u7 s3
        walk_at "r"
        refine rd_wkL (sqL_of uL) ?_
        refine lc_rel walk_list (fun H' s' => sqL_of (s' _ _ uL)) (fun i => (allL d p)[i]?.map List.reverse) LsV LsV.keep (by omega) (fun i x J2 J3 D Q' N' hi w2 hacc y q1 q2 => ?_) (fun D J2 zs nD w2 t2 pr => ?_)
        · obtain ⟨rfl, hy⟩ := y
          obtain ⟨ds, hds, t, rfl, ut⟩ := paired_get (pimp pL fun _ _ h => LsV.same w2 h) hy
          walk_at "r"
          refine rd_revB (sqL_of ut) fun p6 J6 n6 w6 u6 => ?_
          refine q1 _ J6 _ (by rw [hds]; rfl) w6 ⟨p6, rfl, by rw [u6, List.map_reverse]⟩ (fun e => ?_)
          obtain ⟨acc, hacc⟩ := hacc
          have e : p6 = D := by injection e
          subst e
          rw [hacc] at n6
          cases n6
        rw [fm_map _ _ lxs] at pr
        walk_at "r"
        refine rd_sortLs (sqL_of t2) pr (by rw [List.length_map]; omega) fun L3 ys3 J3 n3 w3 t3 pr3 => ?_
        have pS : Paired (LsV J3) ys3 (srtL d p) := pr3
        have lS : (srtL d p).length = (allL d p).length := by unfold srtL; rw [List.length_mergeSort, List.length_map]
        have ly3 : ys3.length = (srtL d p).length := pS.length
        walk_at "r"
        refine rd_wkL (sqL_of t3) ?_
        refine lc_rel walk_list (fun H' s' => sqL_of (s' _ _ t3)) (fun i => (srtL d p)[i]?.map List.reverse) LsV LsV.keep (by omega) (fun i x J4 J5 D Q' N' hi w4 hacc y q1 q2 => ?_) (fun D2 J4 zs2 nD2 w4 t4 pr4 => ?_)
        · obtain ⟨rfl, hy⟩ := y
          obtain ⟨ds, hds, t, rfl, ut⟩ := paired_get (pimp pS fun _ _ h => LsV.same w4 h) hy
          walk_at "r"
          refine rd_revB (sqL_of ut) fun p6 J6 n6 w6 u6 => ?_
          refine q1 _ J6 _ (by rw [hds]; rfl) w6 ⟨p6, rfl, by rw [u6, List.map_reverse]⟩ (fun e => ?_)
          obtain ⟨acc, hacc⟩ := hacc
          have e : p6 = D := by injection e
          subst e
          rw [hacc] at n6
          cases n6
        rw [fm_map _ _ ly3, srtL_eq hd] at pr4
        have F4 := ((F3.same w2).same w3).same w4
        have B4 := ((B3.same w2).same w3).same w4
        clear F3 B3 w2 w3 w4 t2 t3 pr pr3 pS lS ly3 nD n3 nD2 uL pL lxs
        obtain ⟨N, hN⟩ : ∃ N : Nat, N = (qs d p).toNat := ⟨_, rfl⟩
        have qp1 := (qs_ok hd p).1
        have N301 : N ≤ 301 := by omega
        rw [← hN] at pr4
        have lz2 : zs2.length = N := by rw [pr4.length, List.length_map, List.length_range]
        have at2 : ∀ {J : Hp} {i : Nat} {x : V}, Same J4 J → zs2[i]? = some x → i < N ∧ ∃ t, x = V.ref t ∧ J t = some (.lst ((gr d p i).map V.int)) := fun {J i x} w hx => by
          obtain ⟨ds, hds, t, e, ut⟩ := paired_get pr4 hx
          rw [List.getElem?_map] at hds
          obtain ⟨i', hi', rfl⟩ := Option.map_eq_some_iff.mp hds
          obtain ⟨hlt, hi'⟩ := List.getElem?_eq_some_iff.mp hi'
          rw [List.getElem_range] at hi'
          subst hi'
          rw [List.length_range] at hlt
          exact ⟨hlt, t, e, w _ _ ut⟩
        have gA : ∀ i : Nat, i < N → Adm d (gr d p i) ∧ vl d 0 (gr d p i) = i := fun i hi => ⟨gr_adm hd p _ (by omega) (by omega), gr_val hd p _ (by omega) (by omega)⟩
        walk_at "r"
        refine rd_wkL (sqL_of t4) ?_
        refine lc_pure walk_list (fun H' s' => sqL_of (s' _ _ t4)) (fun i => some (V.int (i : Nat))) (by omega) (fun i x J5 J6 Q' N' hi w5 y q1 q2 => ?_) (fun D J5 nD w5 t5 => ?_)
        · obtain ⟨rfl, hy⟩ := y
          obtain ⟨hiN, t, rfl, ut⟩ := at2 w5 hy
          obtain ⟨a1, a2⟩ := gA i hiN
          walk_at "r"
          refine FieldAt.me (F4.same w5) ?_
          walk_at "r"
          refine ⟨false, fa, t, d, _, rfl, F4.same w5, ut, a1, by rw [gr_len]; omega, fun J7 w7 => ?_⟩
          rw [a2]
          exact q1 _ J7 rfl w7
        walk_at "r"
        have tN : (List.range zs2.length).filterMap (fun i : Nat => some (V.int i)) = (((List.range N).map fun i : Nat => (i : Int)).map V.int) := by
          rw [lz2, List.map_map, List.filterMap_eq_map']
          rfl
        rw [tN] at t5
        refine rd_lstRg ?_
        walk_at "r"
        refine rd_lenL (sqL_of (w5 _ _ t4)) ?_
        refine ⟨_, rfl, rd_lrgB (by omega) (by omega) fun L6 J6 n6 w6 t6 => ?_⟩
        rw [show ((zs2.length : Nat) : Int).toNat = N by omega, show (List.range N).map (fun i : Nat => V.int i) = (((List.range N).map fun i : Nat => (i : Int)).map V.int) by rw [List.map_map]; rfl] at t6
        walk_at "r"
        refine ⟨_, _, _, rfl, dn_ints (w6 _ _ t5) (by rw [List.length_map, List.length_range]; omega), dn_ints t6 (by rw [List.length_map, List.length_range]; omega), fun J7 w7 => ?_⟩
        have w47 := (w5.trans w6).trans w7
        clear t5 t6 tN
        walk_at "r"
        refine rd_lenL (sqL_of (w47 _ _ t4)) ?_
        walk_at "r"
        refine FieldAt.me (F4.same w47) ?_
        walk_at "r"
        refine ⟨fa, d, _, rfl, F4.same w47, by omega, by omega, fun J8 w8 => ?_⟩
        rw [show ((p : Nat) : Int).toNat = p by omega]
        walk_at "r"
        rw [show decide (V.int (zs2.length : Nat) = V.int (qs d p)) = true from decide_eq_true (by congr 1; omega)]
        walk_at "r"
        have w48 := w47.trans w8
        refine rd_lenL (sqL_of (w48 _ _ t4)) ?_
        walk_at "r"
        refine rd_wkR ⟨by omega, by omega⟩ ?_
        rw [show ((zs2.length : Nat) : Int).toNat = N by omega]
        refine fo_it (walk_range (lo := 0) (n := N)) (fun i σ1 H5 => ∃ (o10 o12 o13 : Option V), σ1 = [some (V.ref a), some (V.ref b), some (V.int (0 + (i0 : Int))), some (V.int d), some (V.ref fa), some (V.int p), some (V.int (2 + rm)), some (V.ref D2), o8, o9, o10, o11, o12, o13, o14, o15] ∧ Same J8 H5) ⟨_, _, _, rfl, .refl _⟩ (fun _ _ _ _ _ => trivial) ?_ ?_
        · rintro n y σ1 H5 H6 hn ⟨o10, o12, o13, rfl, s5⟩ ⟨rfl, rfl⟩
          have w4H := w48.trans s5
          have F5 := F4.same w4H
          obtain ⟨x, hx⟩ : ∃ x, zs2[n]? = some x := ⟨_, List.getElem?_eq_getElem (by omega)⟩
          obtain ⟨_, t, rfl, ut⟩ := at2 w4H hx
          obtain ⟨ga, gv⟩ := gA n hn
          have gl := gr_len d p n
          generalize gr d p n = ds at ut ga gv gl
          obtain ⟨es, k, rfl, tr⟩ := split0 _ ds rfl
          have eA : Adm d es := adm_pre ga
          rw [vl_zeros] at gv
          rw [List.length_append, List.length_replicate] at gl
          walk_at "r"
          refine rd_ixL (sqL_of (w4H _ _ t4)) (by rw [Int.zero_add]; exact atI_nat hx) ?_
          walk_at "r"
          refine rd_lenL (sqL_of ut) ?_
          walk_at "r"
          refine rd_lenL (sqL_of ut) ?_
          have ll : ((es ++ List.replicate k 0).map V.int).length = es.length + k := by rw [List.length_map, List.length_append, List.length_replicate]
          rw [ll]
          walk_at "r"
          refine rd_wkR ⟨by omega, by omega⟩ ?_
          rw [show ((es.length + k : Nat) : Int).toNat = es.length + k by omega]
          refine lc_pure (walk_range (lo := 0) (n := es.length + k)) (fun _ _ => trivial) (fun i => if es.length ≤ i then some (V.int (i : Nat)) else none) (by omega) (fun i x J2 J3 Q' N' hi w2 y q1 q2 => ?_) (fun D J2 nD w2 t2 => ?_)
          · obtain ⟨rfl, rfl⟩ := y
            walk_at "r"
            have ut2 := w2 _ _ ut
            refine rd_slL (sqL_of ut2) fun l9 J9 n9 w9 u9 => ?_
            rw [show (0 + (i : Int)) = ((i : Nat) : Int) by omega, cut_drop _ (by rw [ll]; omega), ← List.map_drop] at u9
            walk_at "a"
            rename_i l10 J10 n10 w10 u10
            refine rd_lenL (sqL_of (w10 _ _ (w9 _ _ ut2))) ?_
            rw [ll]
            walk_at "r"
            refine rd_repQ u10 (by omega) (by omega) (by decide) fun l11 J11 n11 w11 u11 => ?_
            rw [show (((es.length + k : Nat) : Int) - (0 + (i : Int))).toNat = es.length + k - i by omega, rep_ints] at u11
            refine rd_eqD (n := 1) (m := 1) (by decide) (by decide) (dn_ints (w11 _ _ (w10 _ _ u9)) (by rw [List.length_drop, List.length_append, List.length_replicate]; omega)) (dn_ints u11 (by rw [List.length_replicate]; omega)) ?_
            rw [eqv_ints2]
            have wz := (w9.trans w10).trans w11
            by_cases hz : es.length ≤ i
            · rw [decide_eq_true ((zeros_from tr k i (by omega)).mpr hz)]
              walk_at "r"
              exact q1 _ J11 (by rw [if_pos hz, Int.zero_add]) wz
            · rw [decide_eq_false fun e => hz ((zeros_from tr k i (by omega)).mp e)]
              walk_at "r"
              exact q2 J11 (if_neg hz) wz
          walk_at "r"
          refine rd_lenL (sqL_of t2) ?_
          rw [count_from]
          walk_at "r"
          refine FieldAt.me (F5.same w2) ?_
          walk_at "r"
          refine ⟨fa, d, _, rfl, F5.same w2, by omega, by omega, fun l3 ds3 J3 n3 w3 u3 dg tr3 => ?_⟩
          walk_at "r"
          have ut3 := w3 _ _ (w2 _ _ ut)
          refine rd_slL (sqL_of ut3) fun l9 J9 n9 w9 u9 => ?_
          rw [show (((es.length + k : Nat) : Int) - (k : Nat)) = ((es.length : Nat) : Int) by omega, cut_take, ← List.map_take, List.take_left' rfl] at u9
          have e3 : ds3 = es := adm_uniq hd dg.1 eA tr3 tr (by rw [dg.2.1, gv, Int.zero_add])
          subst e3
          refine rd_neD (n := 1) (m := 1) (by decide) (by decide) (dn_ints (w9 _ _ u3) (by omega)) (dn_ints u9 (by omega)) ?_
          rw [eqv_ints2, decide_eq_true rfl]
          walk_at "r"
          exact ⟨_, _, _, rfl, ((s5.trans w2).trans w3).trans w9⟩
        · rintro σ1 H5 ⟨o10, o12, o13, rfl, s5⟩
          walk_at "r"
          exact ⟨_, _, _, _, _, _, _, _, _, _, _, _, _, _, rfl, B4.same (w48.trans s5)⟩
    · rintro σ1 H2 ⟨o2, o3, o4, o5, o6, o7, o8, o9, o10, o11, o12, o13, o14, o15, rfl, B2⟩
      walk_at "r"
      exact kk _
end
theorem txt_mk {h : Heap} {K : PySem.W.Frag} {mg : Str → Option Value} (X : K.In h) (G : h.Ns mainGlobals mg) (c : SaysY fa fn ex K) : Txt K mg :=
  ⟨He.glo_ok X G (c.a.fact 0 (f := .glo "is_integer") rfl),
   He.glo_ok X G (c.a.fact 1 (f := .glo "is_number") rfl),
   He.glo_ok X G (c.a.fact 2 (f := .glo "need_number") rfl),
   He.glo_ok X G (c.a.fact 3 (f := .glo "is_root") rfl),
   He.glo_ok X G (c.a.fact 4 (f := .glo "steps_up_to") rfl),
   He.glo_ok X G (c.a.fact 5 (f := .glo "can_stand") rfl),
   He.glo_ok X G (c.a.fact 6 (f := .glo "_law_bag") rfl),
   He.glo_ok X G (c.a.fact 7 (f := .glo "_law_pull") rfl),
   He.glo_ok X G (c.a.fact 8 (f := .glo "_law_of") rfl),
   He.glo_ok X G (c.a.fact 9 (f := .glo "_law_same") rfl),
   He.glo_ok X G (c.a.fact 10 (f := .glo "_law_period") rfl),
   He.glo_ok X G (c.a.fact 11 (f := .glo "_law_steps") rfl),
   He.glo_ok X G (c.a.fact 12 (f := .glo "_law_can") rfl),
   He.glo_ok X G (c.a.fact 13 (f := .glo "_law_root") rfl),
   He.glo_ok X G (c.a.fact 14 (f := .glo "law") rfl),
   He.glo_ok X G (c.a.fact 15 (f := .glo "Field") rfl),
   He.free_ok X G (c.a.fact 16 (f := .free "abs") rfl),
   He.free_ok X G (c.a.fact 17 (f := .free "all") rfl),
   He.free_ok X G (c.a.fact 18 (f := .free "bool") rfl),
   He.free_ok X G (c.a.fact 19 (f := .free "enumerate") rfl),
   He.free_ok X G (c.a.fact 20 (f := .free "int") rfl),
   He.free_ok X G (c.a.fact 21 (f := .free "isinstance") rfl),
   He.free_ok X G (c.a.fact 22 (f := .free "len") rfl),
   He.free_ok X G (c.a.fact 23 (f := .free "list") rfl),
   He.free_ok X G (c.a.fact 24 (f := .free "range") rfl),
   He.free_ok X G (c.a.fact 25 (f := .free "sorted") rfl),
   He.free_ok X G (c.a.fact 26 (f := .free "str") rfl),
   He.free_ok X G (c.a.fact 27 (f := .free "tuple") rfl),
   He.free_ok X G (c.a.fact 28 (f := .free "zip") rfl),
   He.glo_ok X G (c.a.fact 29 (f := .glo "ROOTS") rfl),
   He.int_ok X G (c.a.fact 30 (f := .int "MOST_NUMBER" (10000000000000000000000000000000000000000)) rfl),
   He.int_ok X G (c.a.fact 31 (f := .int "MOST_PLACE" (1000)) rfl),
   He.glo_ok X G (c.a.fact 32 (f := .glo "PERIODS") rfl),
   He.cls_ok (c.a.fact 33 (f := .cls "Field") rfl),
   He.mkr_ok (c.a.fact 34 (f := .mkr "Field") rfl),
   He.noat_ok (c.a.fact 35 (f := .noat "Field" "own_root") rfl),
   He.noat_ok (c.a.fact 36 (f := .noat "Field" "own_period") rfl),
   He.noat_ok (c.a.fact 37 (f := .noat "Field" "relations") rfl),
   He.meth_ok (c.a.fact 38 (f := .meth "Field" "step") rfl),
   He.meth_ok (c.a.fact 39 (f := .meth "Field" "digits") rfl),
   He.meth_ok (c.a.fact 40 (f := .meth "Field" "value") rfl),
   c.a.def_ 0 (d := d_is_integer) rfl,
   c.a.def_ 1 (d := d_is_number) rfl,
   c.a.def_ 2 (d := d_need_number) rfl,
   c.a.def_ 3 (d := d_is_root) rfl,
   c.a.def_ 4 (d := d_steps_up_to) rfl,
   c.a.def_ 5 (d := d_can_stand) rfl,
   c.a.def_ 6 (d := d_Field__init_) rfl,
   c.a.def_ 7 (d := d_Field_step) rfl,
   c.a.def_ 8 (d := d_Field_digits) rfl,
   c.a.def_ 9 (d := d_Field_value) rfl,
   c.a.def_ 10 (d := d_law_bag) rfl,
   c.a.def_ 11 (d := d_law_pull) rfl,
   c.a.def_ 12 (d := d_law_of) rfl,
   c.a.def_ 13 (d := d_law_same) rfl,
   c.a.def_ 14 (d := d_law_period) rfl,
   c.a.def_ 15 (d := d_law_steps) rfl,
   c.a.def_ 16 (d := d_law_can) rfl,
   c.a.def_ 17 (d := d_law_root) rfl,
   c.a.def_ 18 (d := d_law) rfl,
   fun H => He.tupB_ok (c.ex 0 (f := fun K => He.tupB K "ROOTS" [.int 2, .int 3, .int 5, .int 6, .int 13]) rfl) H,
   idctB_ok (c.ex 1 (f := idctB "PERIODS" [(2, [2]), (3, [1, 2]), (5, [1]), (6, [2, 4]), (13, [3])]) rfl)⟩
theorem ok_all {P : Program} {w : World} {K : PySem.W.Frag} {mg : Str → Option Value} {base : Heap} (T : Txt K mg) : Ok P w K mg base 10 "law" ["_law_script"] (spLaw K) := by
  have h1 : Ok P w K mg base 1 "_law_pull" _ spPull := ok_law_pull T
  have h2 : Ok P w K mg base 2 "_law_of" _ (spOf K) := ok_law_of T h1
  have g1 : Ok P w K mg base 1 "is_integer" _ spInteger := ok_is_integer T
  have g2 := ok_is_root (P := P) (w := w) (base := base) T g1
  have pe := ok_law_period (P := P) (w := w) (base := base) T
  exact ok_law T (ok_law_bag T) h1 (ok_law_root T h2) (ok_mkF T g2) (ok_law_steps T pe) (ok_law_can T pe) (okT_digitsF T (ok_need_number T (ok_is_number T g1)) (ok_steps_up_to T)) (okA_valueF T g1 (ok_can_stand T)) (ok_stepF T g1) (ok_law_same T 1 (by decide))

theorem facts {P : Program} {w : World} {K : PySem.W.Frag} {h : Heap} {mg : Str → Option Value} {f : Addr} (X : K.In h) (G : h.Ns mainGlobals mg) (hfa : mg ("law" : Str) = some (.ref f)) (c : SaysY fa fn ex K) :
    ∃ fd : FuncData, (∀ (s : Shared) (v : Value), BindsTo s fd ⟨[v], []⟩ [("_law_script", v)]) ∧ ∀ base : Heap, K.In base → base.Ns mainGlobals mg → FnOk P w K mg base CX0 10 f fd ["_law_script"] (spLaw K) := by
  have T := txt_mk X G c
  obtain ⟨fd, F⟩ := T.F_law
  have e := hfa.symm.trans T.g_law
  cases e
  have b := FunD.bindsA (ps := ["_law_script"]) F fun _ _ _ _ _ _ us hl => match us, hl with | [_], _ => rfl
  exact ⟨fd, fun s v => b s [v] rfl, fun base _ _ => (ok_all T).at F T.g_law⟩
end RF
open PySem PySem.W PySem.Calls PyProof.Rows
theorem PySem.Challenge.cw_rootfloor_k07_whole_each_number_has_one_holds : PySem.Challenge.rw_rootfloor_k07_whole_each_number_has_one.Holds := by
  w_on; o_law
  refine HandSHeadRun.head_any (r := OpenLaw.row PySem.Challenge.rw_rootfloor_k07_whole_each_number_has_one) (q := view (OpenLaw.row PySem.Challenge.rw_rootfloor_k07_whole_each_number_has_one).prog [34]) (H := RF.hk) (ob := RF.ob) (M := 12000) (loose := RF.names) (d := HandSHeadRun.topDef (OpenLaw.row PySem.Challenge.rw_rootfloor_k07_whole_each_number_has_one).prog 34) (kwd := []) RF.ob_eq
    (by kernel_rfl) (fun s => by kernel_rfl) RF.run (by kernel_rfl) (by kernel_rfl) (by kernel_rfl) (by rfl) (by first | assumption | decide +kernel) (by decide +kernel) ⟨rfl, rfl, rfl, rfl, rfl, by decide +kernel⟩ ?hw ?hc
  case hw => w_witness2
  case hc =>
    refine L2.walk_ofE (l := PySem.Challenge.rw_rootfloor_k07_whole_each_number_has_one) (n := 63) (k := 10) (x := "_law_script") (CX := L2.CX0) rfl (by decide) (by kernel_rfl) ⟨rfl, by decide, by decide⟩ ?F (fun _ _ _ _ z => z)
    intro w mg fa h Y G hmg0
    obtain ⟨K, KX, c⟩ := Y
    have hmg : mg ("law" : PySem.Str) = some (.ref fa) := by
      have e : (HandSHeadRun.topDef (OpenLaw.row PySem.Challenge.rw_rootfloor_k07_whole_each_number_has_one).prog 34).name = ("law" : PySem.Str) := by kernel_rfl
      rw [← e]
      exact hmg0
    obtain ⟨fd, hb, hF⟩ := RF.facts (P := (PySem.Challenge.rw_rootfloor_k07_whole_each_number_has_one).prog) (w := w) KX G hmg c
    exact ⟨K, fd, RF.spLaw K, KX, hb, fun H a ns hl _ hS => ⟨a, ns, rfl, hS, fun _ => rfl⟩, hF⟩
