import PyProof.Rows.All
import Wide.All
import OpenK.AllK
import Wide.FinOn
import KE.KStateDown
import HandS.ForMost
import HandS.More
import HandS.Exc
import HandS.WordsExc
import HandS.Defaults
import HandS.IsInst
import HandS.TupAny
import HandS.Style
import HandS.Zip
import HandS.Conv
import HandS.Evl
import HandS.Walk
import HandS.Steps
import HandS.Wide
import HandS.WideBits
import HandS.Head0
import HandS.Head1
import HandS.Head2
import HandS.HeadEnd
import HandS.HeadHook1
import HandS.HeadHook2
import HandS.Property
import HandS.ClsMeth
import HandS.SlotsOwn
import HandS.MakeKwOnly
import HandS.HeadNt
import KE.KOpsOwn
import KE.GoesMore
import KE.GoesZip
import HandS.SortRule
import KE.GoesMore
import KE.GoesZip
import HandS.SortRule
import HandS.Small
import HandS.Deep
import KE.KUnpackStar
import HandS.FStr
import HandS.Text
import PySem.Challenge.RW_rootfloor_k31_texts_of_sayings
set_option Elab.async false
set_option linter.all false
set_option maxRecDepth 100000
set_option maxHeartbeats 4000000
namespace RF
open PySem PySem.Spec PyProof.Rows L2
/-! ## the common layer: heaps that grow, readings step by step, defs by name -/
section heaps
/-- a bag: the law's own list of four -/
def isBag : HO → Bool
  | .lst [.ref _, .int _, .int _, .int _] => true
  | _ => false
/-- what is no bag stays as it is -/
def Ext (H H' : Hp) : Prop := ∀ b o, H b = some o → isBag o = false → H' b = some o
theorem Ext.refl (H : Hp) : Ext H H := fun _ _ h _ => h
theorem Ext.trans {H H1 H2 : Hp} (a : Ext H H1) (b : Ext H1 H2) : Ext H H2 := fun c o h n => b c o (a c o h n) n
theorem Ext.of {H H1 : Hp} (a : Same H H1) : Ext H H1 := fun c o h _ => a c o h
theorem Ext.get {H H' : Hp} {b : Addr} {o : HO} (e : Ext H H') (h : H b = some o) (n : isBag o = false) : H' b = some o := e b o h n
theorem Same.get {H H' : Hp} {b : Addr} {o : HO} (e : Same H H') (h : H b = some o) : H' b = some o := e b o h
theorem Same.new {H : Hp} {p : Addr} {o : HO} (h : H p = none) : Same H (upd H p o) := fun a u e => by
  rw [upd_ne (ne_of_none e h)]
  exact e
theorem bag_ints (ns : List Int) : isBag (.lst (ns.map V.int)) = false := by
  cases ns with
  | nil => rfl
  | cons a l => rfl
theorem bag_refs (ps : List Addr) : isBag (.lst (ps.map V.ref)) = false := by
  match ps with
  | [] => rfl
  | [_] => rfl
  | _ :: _ :: _ => rfl
theorem bag_strs (ps : List Str) : isBag (.lst (ps.map V.str)) = false := by
  cases ps with
  | nil => rfl
  | cons a l => rfl
theorem bag_bls (ps : List Bool) : isBag (.lst (ps.map V.bl)) = false := by
  cases ps with
  | nil => rfl
  | cons a l => rfl
theorem SqL.ext {K : PySem.W.Frag} {H H' : Hp} {a : Addr} {xs : List V} (e : Ext H H') (h : SqL K H a xs) (n : isBag (.lst xs) = false) : SqL K H' a xs := by
  rcases h with (h | ⟨o, h⟩) | h
  · exact .inl (.inl (e _ _ h n))
  · exact .inl (.inr ⟨o, e _ _ h rfl⟩)
  · exact .inr h
theorem SqT.ext {K : PySem.W.Frag} {H H' : Hp} {a : Addr} {xs : List V} (e : Ext H H') (h : SqT K H a xs) : SqT K H' a xs := by
  rcases h with (h | ⟨o, h⟩) | h
  · exact .inl (.inl (e _ _ h rfl))
  · exact .inl (.inr ⟨o, e _ _ h rfl⟩)
  · exact .inr h
theorem SqT.same {K : PySem.W.Frag} {H H' : Hp} {a : Addr} {xs : List V} (e : Same H H') (h : SqT K H a xs) : SqT K H' a xs := SqT.ext (.of e) h
theorem sqT_of {K : PySem.W.Frag} {H : Hp} {a : Addr} {xs : List V} (h : H a = some (.tup xs)) : SqT K H a xs := .inl (.inl h)
theorem sqL_of {K : PySem.W.Frag} {H : Hp} {a : Addr} {xs : List V} (h : H a = some (.lst xs)) : SqL K H a xs := .inl (.inl h)
theorem sz_small {n : Nat} (h : n ≤ 100000) : n ≤ sizeLine := Nat.le_trans h (by decide)
theorem sz_smaller {n : Nat} (h : n < 100000) : n < sizeLine := Nat.lt_of_lt_of_le h (by decide)
end heaps

/-- all but p is as it was -/
def Chg (p : Addr) (H H' : Hp) : Prop := ∀ b, b ≠ p → H' b = H b
theorem Chg.of {p : Addr} {H : Hp} {o : HO} : Chg p H (upd H p o) := fun _ h => upd_ne h
theorem Chg.get {p b : Addr} {H H' : Hp} {o u : HO} (c : Chg p H H') (h : H b = some o) (hp : H p = some u) (n : o ≠ u) : H' b = some o := by
  rw [c b (ne_of h hp n)]
  exact h
theorem Chg.ext {p : Addr} {H H' : Hp} {u : HO} (c : Chg p H H') (hp : H p = some u) (hu : isBag u = true) : Ext H H' := fun b o h n => by
  rw [c b fun e => by subst e; rw [hp] at h; cases h; rw [hu] at n; cases n]
  exact h
/-- a new tuple, a new list -/
def NewT (xs : List V) (H : Hp) (Q : VK) : Prop := xs.length ≤ sizeLine ∧ ∀ p, H p = none → Q (.ref p) (upd H p (.tup xs))
def NewL (xs : List V) (H : Hp) (Q : VK) : Prop := xs.length ≤ sizeLine ∧ ∀ p, H p = none → Q (.ref p) (upd H p (.lst xs))
section readings
variable {K : PySem.W.Frag} {σ : L2.St} {H : Hp} {Q : VK} {v x y : V} {ta tb tc te : TE} {tt uu : TT} {QB : Bool → Hp → Prop} {QA : List V → Hp → Prop} {D : Ends} {ts tu : TS} {r r' : R2} {g : TG}
theorem rd_var {i : Nat} (h : σ[i]? = some (some v)) (q : Q v H) : tVar i σ H Q := ⟨v, h, q⟩
theorem rd_c (q : Q v H) : tC v σ H Q := q
theorem rd_op (h : ta σ H fun x H1 => tb σ H1 fun y H2 => r x y H2 Q) : tOp r ta tb σ H Q := h
theorem rd_un {ru : V → Hp → VK → Prop} (h : ta σ H fun x H1 => ru x H1 Q) : tUn ru ta σ H Q := h
theorem rd_I0 {gg : Int → Int → V} {i j : Int} (q : Q (gg i j) H) : rI0 gg (.int i) (.int j) H Q := ⟨i, j, rfl, rfl, q⟩
theorem rd_I {C : Int → Int → Prop} {gg : Int → Int → V} {i j : Int} (c : C i j) (q : Q (gg i j) H) : rI C gg (.int i) (.int j) H Q := ⟨i, j, rfl, rfl, c, q⟩
theorem rd_U {gg : Int → V} {i : Int} (q : Q (gg i) H) : rU gg (.int i) H Q := ⟨i, rfl, q⟩
theorem rd_eq (h : scal x y = true) (q : Q (.bl (decide (x = y))) H) : rEq x y H Q := ⟨h, q⟩
theorem rd_ne (h : scal x y = true) (q : Q (.bl (!decide (x = y))) H) : rNe x y H Q := ⟨h, q⟩
theorem rd_ixL {p : Addr} {xs : List V} {i : Int} (h : SqL K H p xs) (ha : atI xs i = some v) (q : Q v H) : rIxL K (.ref p) (.int i) H Q := ⟨p, xs, i, v, rfl, rfl, h, ha, q⟩
theorem rd_ixT {p : Addr} {xs : List V} {i : Int} (h : SqT K H p xs) (ha : atI xs i = some v) (q : Q v H) : rIxT K (.ref p) (.int i) H Q := ⟨p, xs, i, v, rfl, rfl, h, ha, q⟩
theorem rd_test (h : te σ H fun x H' => ∃ k, x = .bl k ∧ QB k H') : tTest te σ H QB := h
theorem rd_B (h : te σ H fun x H' => ∃ k, x = .bl k ∧ QB k H') : tB te σ H QB := h
theorem rd_bl {P : Bool → Prop} {b : Bool} (q : P b) : ∃ k, V.bl b = .bl k ∧ P k := ⟨b, rfl, q⟩
theorem rd_and (h : tt σ H fun c H1 => if c = true then uu σ H1 QB else QB false H1) : tAnd tt uu σ H QB := h
theorem rd_or (h : tt σ H fun c H1 => if c = true then QB true H1 else uu σ H1 QB) : tOr tt uu σ H QB := h
theorem rd_not (h : tt σ H fun c H1 => QB (!c) H1) : tNot tt σ H QB := h
theorem rd_andV (h : ta σ H fun x H1 => ∃ c, x = .bl c ∧ if c = true then tb σ H1 Q else Q (.bl false) H1) : tAndV ta tb σ H Q := h
theorem rd_orV (h : ta σ H fun x H1 => ∃ c, x = .bl c ∧ if c = true then Q (.bl true) H1 else tb σ H1 Q) : tOrV ta tb σ H Q := h
theorem rd_notV (h : ta σ H fun x H1 => ∃ c, x = .bl c ∧ Q (.bl (!c)) H1) : tNotV ta σ H Q := h
theorem rd_if (h : tt σ H fun c H1 => if c = true then ta σ H1 Q else tb σ H1 Q) : tIf tt ta tb σ H Q := h
theorem rd_chain (h : ta σ H fun x H1 => tb σ H1 fun y H2 => r x y H2 fun z H3 => ∃ k, z = .bl k ∧ (if k = true then tc σ H3 fun w' H4 => r' y w' H4 Q else Q (.bl false) H3)) : tChain r r' ta tb tc σ H Q := h
theorem rd_isN (h : ta σ H fun x H1 => Q (.bl (decide (x = .non))) H1) : tIsN ta σ H Q := h
theorem rd_nil (q : QA [] H) : tNil σ H QA := q
theorem rd_cons {tr : TA} (h : ta σ H fun x H1 => tr σ H1 fun xs H2 => QA (x :: xs) H2) : tCons ta tr σ H QA := h
theorem rd_tup {t : TA} (h : t σ H fun xs H1 => NewT xs H1 Q) : tTup t σ H Q := h
theorem rd_lst {t : TA} (h : t σ H fun xs H1 => NewL xs H1 Q) : tLst t σ H Q := h
theorem rd_newT {xs : List V} (hl : xs.length ≤ sizeLine) (q : ∀ p H2, H p = none → Same H H2 → H2 p = some (.tup xs) → Q (.ref p) H2) : NewT xs H Q := ⟨hl, fun p hp => q p _ hp (Same.new hp) upd_same⟩
theorem rd_newL {xs : List V} (hl : xs.length ≤ sizeLine) (q : ∀ p H2, H p = none → Same H H2 → H2 p = some (.lst xs) → Q (.ref p) H2) : NewL xs H Q := ⟨hl, fun p hp => q p _ hp (Same.new hp) upd_same⟩
theorem rd_seq (h : ts { D with nx := tu D } σ H) : tSeq ts tu D σ H := h
theorem rd_ifS (h : tt σ H fun b H1 => if b = true then ts D σ H1 else tu D σ H1) : tIfS tt ts tu D σ H := h
theorem rd_asg (h : te σ H fun x H1 => g x σ H1 D.nx) : tAsg te g D σ H := h
theorem rd_gName {i : Nat} {N : L2.St → Hp → Prop} (q : N (σ.set i (some v)) H) : gName i v σ H N := q
theorem rd_ret (h : te σ H D.rt) : tRet te D σ H := h
theorem rd_drop (h : te σ H fun _ H1 => D.nx σ H1) : tDrop te D σ H := h
theorem rd_next (q : D.nx σ H) : tNext D σ H := q
theorem rd_CB {rr : List V → Hp → VK → Prop} {t : TA} (h : t σ H fun vs H1 => rr vs H1 Q) : tCB rr t σ H Q := h
theorem rd_call {sp : Sp} {dvs : List V} {E : XK} {t : TA} (h : t σ H fun vs H1 => sp (vs ++ dvs) H1 Q E) : tCall sp dvs E t σ H Q := h
theorem rd_true {A B : Prop} (h : A) : if true = true then A else B := iteT h
theorem rd_false {A B : Prop} (h : B) : if false = true then A else B := iteF h
theorem rd_dec {c A B : Prop} [Decidable c] (h1 : c → A) (h2 : ¬ c → B) : if decide c = true then A else B := by
  by_cases h : c
  · rw [decide_eq_true h]; exact iteT (h1 h)
  · rw [decide_eq_false h]; exact iteF (h2 h)
theorem rd_ndec {c A B : Prop} [Decidable c] (h1 : ¬ c → A) (h2 : c → B) : if (!decide c) = true then A else B := by
  by_cases h : c
  · rw [decide_eq_true h]; exact iteF (h2 h)
  · rw [decide_eq_false h]; exact iteT (h1 h)
theorem rd_bool {b : Bool} {A B : Prop} (h1 : b = true → A) (h2 : b = false → B) : if b = true then A else B := by
  cases b with
  | true => exact iteT (h1 rfl)
  | false => exact iteF (h2 rfl)
theorem rd_gSub {to ti : TE} {tset : TSet} {N : L2.St → Hp → Prop} (h : to σ H fun o H1 => ti σ H1 fun i H2 => tset o i v H2 fun H3 => N σ H3) : gSub to ti tset v σ H N := h
theorem rd_setL {p : Addr} {xs : List V} {k : Int} {j : Nat} {N : Hp → Prop} (h : H p = some (.lst xs)) (hj : ixN xs.length k = some j) (q : ∀ H2, Chg p H H2 → H2 p = some (.lst (xs.set j v)) → N H2) : rSetL (.ref p) (.int k) v H N := ⟨p, xs, k, j, rfl, rfl, h, hj, q _ Chg.of upd_same⟩
theorem rd_gTup {n : Nat} {t : TGs} {a : Addr} {xs : List V} {N : L2.St → Hp → Prop} (h : SqT K H a xs) (hl : xs.length = n) (q : t xs σ H N) : gTup K n t (.ref a) σ H N := ⟨a, xs, rfl, h, hl, q⟩
theorem rd_gCons {t : TG} {u : TGs} {vs : List V} {N : L2.St → Hp → Prop} (q : t v σ H fun σ' H' => u vs σ' H' N) : gCons t u (v :: vs) σ H N := ⟨v, vs, rfl, q⟩
theorem rd_gNil {N : L2.St → Hp → Prop} (q : N σ H) : gNil [] σ H N := ⟨rfl, q⟩
theorem rd_sl {rs : V → Option Int → Option Int → Hp → VK → Prop} {tl th : TO} (h : te σ H fun x H1 => tl σ H1 fun l H2 => th σ H2 fun u H3 => rs x l u H3 Q) : tSl rs te tl th σ H Q := h
theorem rd_noPart {QO : Option Int → Hp → Prop} (q : QO none H) : tNoPart σ H QO := q
theorem rd_part {QO : Option Int → Hp → Prop} (h : te σ H fun x H1 => ∃ i, x = .int i ∧ QO (some i) H1) : tPart te σ H QO := h
theorem rd_int {P : Int → Prop} {i : Int} (q : P i) : ∃ k, V.int i = .int k ∧ P k := ⟨i, rfl, q⟩
end readings

section calls
variable {P : Program} {w : World} {K : PySem.W.Frag} {mg : Str → Option Value} {base : Heap}
/-- the def named x keeps the promise sp -/
def Ok (P : Program) (w : World) (K : PySem.W.Frag) (mg : Str → Option Value) (base : Heap) (k : Nat) (x : Str) (ps : List Str) (sp : Sp) : Prop :=
  ∃ f fd, FnOk P w K mg base CX0 k f fd ps sp ∧ mg x = some (.ref f) ∧ PySem.W.keepIn K (.ref f) = true ∧ Binds K fd ps [] ∧ ∃ oc od osl, K.lookup f = some ⟨oc, od, .func fd, osl⟩
theorem Ok.mono {j k : Nat} {x : Str} {ps : List Str} {sp : Sp} (h : Ok P w K mg base j x ps sp) (l : j ≤ k) : Ok P w K mg base k x ps sp := by
  obtain ⟨f, fd, F, a, b, c⟩ := h
  exact ⟨f, fd, F.mono l, a, b, c⟩
theorem Ok.imp {k : Nat} {x : Str} {ps : List Str} {sp sp' : Sp} (h : Ok P w K mg base k x ps sp) (i : ∀ vs H Q E, sp' vs H Q E → sp vs H Q E) : Ok P w K mg base k x ps sp' := by
  obtain ⟨f, fd, F, a, b, c⟩ := h
  exact ⟨f, fd, F.imp i, a, b, c⟩
theorem pe_ok {X : Cx} {k : Nat} {x : Str} {ps : List Str} {sp : Sp} {e : Expr} {es : List Expr} {t : TA} {p pos : Pos} (h : Ok X.prog X.w X.K X.mg X.base k x ps sp) (hr : Room k X.A) (hg : Gl X x) (ha : PA X (e :: es) t)
    (hdb : (x == ("__debug__" : Str)) = false := by decide) (he : starEach (e :: es) X.env = (false, eval e X.env) :: starEach es X.env := by rfl) (hpl : (backTo pos (starEach es X.env)).any (·.1) = false := by rfl) :
    PE X (.Call (.Name x p) (e :: es) [] pos) (tCall sp [] E0 t) := by
  obtain ⟨f, fd, F, hm, kp, hb, _⟩ := h
  exact pe_call F hr hg hm kp hb .nil pass0 ha (hdb := hdb) (he := he) (hpl := hpl)
/-- a def as the top has left it -/
abbrev FnP (K : PySem.W.Frag) (x : Str) (st : Stmt) (f : Addr) : Prop := ∃ fd, FunD K x x (defArgs st) (defBody st) (defScope st) [] [] f fd
theorem fund_at {K : PySem.W.Frag} {x qual : Str} {params : Arguments} {body : List Stmt} {scope : Scope} {dvs : List V} {kws : List (Str × V)} {f : Addr} {fd : FuncData} (F : FunD K x qual params body scope dvs kws f fd) : ∃ oc od osl, K.lookup f = some ⟨oc, od, .func fd, osl⟩ := by
  obtain ⟨oc, od, _, _, _, _, _, _, _, osl, _, h, _⟩ := F.ex
  exact ⟨oc, od, osl, h⟩
theorem Ok.mk {x : Str} {st : Stmt} {f : Addr} {N ps : List Str} {k : Nat} {sp : Sp} (F : FnP K x st f) (hm : mg x = some (.ref f)) (S : FnScope N ps (defScope st))
    (hb : ∀ (kV doc pm : Value) (an : Option Addr) (cdv ct : Value) (us : List Value), us.length = ps.length → bindArgs (PySem.W.fnOf x x (defArgs st) (defBody st) (defScope st) .none kV doc pm an cdv ct) ⟨us, []⟩ = pure (ps.zip us))
    (len : ∀ vs H Q E, sp vs H Q E → vs.length = ps.length)
    (hbody : ∀ (cdv : Value) (A : Around) (outer : List Env) (s : Shared) (H : Hp) (vs : List V) (Q : VK) (E : XK), Room k (A.deeper (envOfC x (defScope st) s.heap.objs.size f cdv)) → sp vs H Q E →
      ∃ t, PSs (cxOf CX0 P w K mg base N x (defScope st) f cdv A outer s H E).nox (defBody st) t ∧ t { nx := fun _ H' => Q .non H', rt := Q } (start N vs) H) : Ok P w K mg base (k + 1) x ps sp := by
  obtain ⟨fd, F⟩ := F
  exact ⟨f, fd, F.ok S len fun cdv A outer s H vs Q E hr h => by
    obtain ⟨t, a, b⟩ := hbody cdv A outer s H vs Q E hr h
    exact ⟨t, a.nox, b⟩, hm, F.kp, F.bindsN hb, fund_at F⟩
end calls

section builtins
def rLenX (K : PySem.W.Frag) : List V → Hp → VK → Prop := fun xs H Q => ∃ x n, xs = [x] ∧ LenV K x H n ∧ Q (.int n) H
def rAbsX : List V → Hp → VK → Prop := fun xs H Q => ∃ i, xs = [.int i] ∧ Q (.int (if i < 0 then -i else i)) H
def rIntX : List V → Hp → VK → Prop := fun xs H Q => (∃ i, xs = [.int i] ∧ Q (.int i) H) ∨ ∃ k, xs = [.bl k] ∧ Q (.int (if k then 1 else 0)) H
def rBoolX : List V → Hp → VK → Prop := fun xs H Q => (∃ i, xs = [.int i] ∧ Q (.bl (i != 0)) H) ∨ ∃ k, xs = [.bl k] ∧ Q (.bl k) H
def rStrX : List V → Hp → VK → Prop := fun xs H Q => ∃ i, xs = [.int i] ∧ i.natAbs.log2 < 1920 ∧ Q (.str (toString i)) H
def rListX (K : PySem.W.Frag) : List V → Hp → VK → Prop := fun xs H Q => ∃ p ys, xs = [.ref p] ∧ (SqL K H p ys ∨ SqT K H p ys) ∧ ∀ l, H l = none → Q (.ref l) (upd H l (.lst ys))
section
variable {X : Cx}
theorem c_len : CallR X (.builtin "len") (rLenX X.K) := call_len
theorem c_abs : CallR X (.builtin "abs") rAbsX := call_abs
theorem c_int : CallR X (.type "int") rIntX := call_int1
theorem c_bool : CallR X (.type "bool") rBoolX := call_bool1
theorem c_str : CallR X (.type "str") rStrX := call_str_int
theorem c_list : CallR X (.type "list") (rListX X.K) := call_list_of
theorem pe_gint {x : Str} {i : Int} {pos : Pos} (h : ∃ t, X.mg x = some (.int i t)) (hg : Gl X x) (hd : (x == ("__debug__" : Str)) = false := by decide) : PE X (.Name x pos) (tC (.int i)) := by
  obtain ⟨t, h⟩ := h
  exact pe_glob hg h ⟨t, rfl⟩ hd
theorem pe_gstr {x z : Str} {pos : Pos} (h : ∃ t, X.mg x = some (.str z t)) (hg : Gl X x) (hd : (x == ("__debug__" : Str)) = false := by decide) : PE X (.Name x pos) (tC (.str z)) := by
  obtain ⟨t, h⟩ := h
  exact pe_glob hg h ⟨t, rfl⟩ hd
theorem pe_gref {x : Str} {a : Addr} {pos : Pos} (h : X.mg x = some (.ref a)) (hg : Gl X x) (hd : (x == ("__debug__" : Str)) = false := by decide) : PE X (.Name x pos) (tC (.ref a)) := pe_glob hg h rfl hd
theorem pe_gty {x : Str} {T : String} {pos : Pos} (h : X.mg x = none) (hg : Gl X x) (hv : bootBuiltins x = some (.type T)) (hn : x ≠ "__name__" := by decide) (hd : (x == ("__debug__" : Str)) = false := by decide) : PE X (.Name x pos) (tC (.ty T)) := pe_bltn hg h hv rfl hn hd
end
variable {K : PySem.W.Frag} {H : Hp} {Q : VK}
theorem rd_lenL {p : Addr} {xs : List V} (h : SqL K H p xs) (q : Q (.int xs.length) H) : rLenX K [.ref p] H Q := ⟨_, _, rfl, .inl ⟨_, h, rfl⟩, q⟩
theorem rd_lenT {p : Addr} {xs : List V} (h : SqT K H p xs) (q : Q (.int xs.length) H) : rLenX K [.ref p] H Q := ⟨_, _, rfl, .inr ⟨_, h, rfl⟩, q⟩
theorem rd_lenS {x : Str} (h : x.length ≤ sizeLine) (q : Q (.int x.length) H) : rLenX K [.str x] H Q := ⟨_, _, rfl, ⟨h, rfl⟩, q⟩
theorem rd_abs {i : Int} (q : Q (.int i.natAbs) H) : rAbsX [.int i] H Q := ⟨i, rfl, by
  have e : (if i < 0 then -i else i) = (i.natAbs : Int) := by split <;> omega
  rw [e]; exact q⟩
theorem rd_intI {i : Int} (q : Q (.int i) H) : rIntX [.int i] H Q := .inl ⟨i, rfl, q⟩
theorem rd_intB {b : Bool} (q : Q (.int (if b then 1 else 0)) H) : rIntX [.bl b] H Q := .inr ⟨b, rfl, q⟩
theorem rd_list {p : Addr} {ys : List V} (h : SqL K H p ys ∨ SqT K H p ys) (q : ∀ l H2, H l = none → Same H H2 → H2 l = some (.lst ys) → Q (.ref l) H2) : rListX K [.ref p] H Q := ⟨p, ys, rfl, h, fun l hl => q l _ hl (Same.new hl) upd_same⟩
theorem rd_slL {p : Addr} {xs : List V} {lo hi : Option Int} (h : SqL K H p xs) (q : ∀ l H2, H l = none → Same H H2 → H2 l = some (.lst (cutV xs lo hi)) → Q (.ref l) H2) : rSlL K (.ref p) lo hi H Q := ⟨p, xs, rfl, h, fun l hl => q l _ hl (Same.new hl) upd_same⟩
end builtins

/-! ## the law's bag -/
section bag
/-- a bag at a: its cells at c hold ns -/
def Bag (a c : Addr) (ns : List Int) (H : Hp) : Prop := ∃ i g s : Int, H a = some (.lst [.ref c, .int i, .int g, .int s]) ∧ H c = some (.lst (ns.map V.int)) ∧ 0 ≤ i ∧ 0 ≤ g ∧ 0 ≤ s ∧ s < 2147483647
theorem Bag.same {a c : Addr} {ns : List Int} {H H' : Hp} (b : Bag a c ns H) (e : Same H H') : Bag a c ns H' := by
  obtain ⟨i, g, s, h1, h2, h3⟩ := b
  exact ⟨i, g, s, e _ _ h1, e _ _ h2, h3⟩
theorem atI_ints {ns : List Int} {i : Int} (h0 : 0 ≤ i) (h1 : i < (ns.map V.int).length) : ∃ z, atI (ns.map V.int) i = some (.int z) := by
  rw [List.length_map] at h1
  have hl : i.toNat < ns.length := by omega
  have e : ((i.toNat : Nat) : Int) = i := by omega
  have q : atI (ns.map V.int) ((i.toNat : Nat) : Int) = some (.int ns[i.toNat]) := atI_nat (by rw [List.getElem?_map, List.getElem?_eq_getElem hl] <;> rfl)
  rw [e] at q
  exact ⟨_, q⟩
def spBag (K : PySem.W.Frag) : Sp := fun vs H Q _ => ∃ (a : Addr) (ns : List Int), vs = [.ref a] ∧ SqL K H a (ns.map V.int) ∧
  ∀ b c ms H', Same H H' → Bag b c ms H' → Q (.ref b) H'
def spPull : Sp := fun vs H Q _ => ∃ (a c : Addr) (ns : List Int) (n : Int), vs = [.ref a, .int n] ∧ Bag a c ns H ∧ 0 < n ∧ n < 1073741824 ∧
  ∀ d H', 0 ≤ d → d < n → Ext H H' → Bag a c ns H' → Q (.int d) H'
def spOf (K : PySem.W.Frag) : Sp := fun vs H Q _ => ∃ (a c l : Addr) (ns : List Int) (xs : List V), vs = [.ref a, .ref l] ∧ Bag a c ns H ∧ SqL K H l xs ∧ isBag (.lst xs) = false ∧ xs ≠ [] ∧ xs.length < 1073741824 ∧
  ∀ v H', v ∈ xs → Ext H H' → Bag a c ns H' → Q v H'
end bag
section never
variable {P : Program} {w : World} {K : PySem.W.Frag} {mg : Str → Option Value} {base : Heap}
/-- a def that is not called keeps the promise that asks for what can't be -/
theorem Ok.never {x : Str} {st : Stmt} {f : Addr} {ps : List Str} {k : Nat} (F : FnP K x st f) (hm : mg x = some (.ref f))
    (hb : ∀ (kV doc pm : Value) (an : Option Addr) (cdv ct : Value) (us : List Value), us.length = ps.length → bindArgs (PySem.W.fnOf x x (defArgs st) (defBody st) (defScope st) .none kV doc pm an cdv ct) ⟨us, []⟩ = pure (ps.zip us)) : Ok P w K mg base k x ps fun _ _ _ _ => False := by
  obtain ⟨fd, F⟩ := F
  exact ⟨f, fd, ⟨fun _ _ _ _ h => h.elim, fun _ _ _ _ _ _ _ _ _ _ _ _ _ h => h.elim⟩, hm, F.kp, F.bindsN hb, fund_at F⟩
end never

def CalN (n m : Nat) (sp : Sp) (gV : List V → List V → List V) (E : XK) (vs zs : List V) (H : Hp) (Q : VK) : Prop := vs.length = n ∧ zs.length = m ∧ sp (gV vs zs) H Q E
def BmL (K : PySem.W.Frag) (T : String) (r : V → List V → Hp → VK → Prop) (t : TA) (σ : L2.St) (x : V) (H : Hp) (Q : VK) : Prop := tyV K T x H ∧ t σ H fun xs H2 => r x xs H2 Q
def ParB (i j : Nat) (vs : List V) (N : L2.St → Hp → Prop) (σ : L2.St) (H : Hp) : Prop := ∃ v w, vs = [v, w] ∧ N ((σ.set i (some v)).set j (some w)) H
section keywords
/-- the def named x, called with n values by position and the keywords ks -/
def OkK (P : Program) (w : World) (K : PySem.W.Frag) (mg : Str → Option Value) (base : Heap) (k : Nat) (x : Str) (ps : List Str) (n : Nat) (ks : List Str) (gV : List V → List V → List V) (sp : Sp) : Prop :=
  ∃ f fd g, FnOk P w K mg base CX0 k f fd ps sp ∧ mg x = some (.ref f) ∧ PySem.W.keepIn K (.ref f) = true ∧ KBn K fd ps n ks g gV
theorem OkK.mk {P : Program} {w : World} {K : PySem.W.Frag} {mg : Str → Option Value} {base : Heap} {x : Str} {st : Stmt} {f : Addr} {ps ks : List Str} {k n : Nat} {sp : Sp} (h : Ok P w K mg base k x ps sp) (F : FnP K x st f) (hm : mg x = some (.ref f)) (g : {α : Type} → List α → List α → List α)
    (hrel : ∀ {vs zs : List V} {us ws : List Value}, Vals vs us → Vals zs ws → Vals (g vs zs) (g us ws))
    (hb : ∀ (kV doc pm : Value) (an : Option Addr) (cdv ct : Value) (us ws : List Value), us.length = n → ws.length = ks.length → bindArgs (PySem.W.fnOf x x (defArgs st) (defBody st) (defScope st) .none kV doc pm an cdv ct) ⟨us, ks.zip ws⟩ = pure (ps.zip (g us ws))) :
    OkK P w K mg base k x ps n ks g sp := by
  obtain ⟨fd, F⟩ := F
  obtain ⟨f2, fd2, FO, hm2, kp, _, oc2, od2, osl2, l2⟩ := h
  rw [hm] at hm2
  cases hm2
  obtain ⟨oc, od, dV, kV, doc, pm, an, cdv, ct, osl, rfl, lk, hcd, hD, hK⟩ := F.ex
  rw [lk] at l2
  cases l2
  rcases hD with ⟨_, rfl⟩ | ⟨e, _⟩
  · exact ⟨f, _, g, FO, hm, kp, ⟨fun s us ws _ h1 h2 => .of_eq (hb kV doc pm an cdv ct us ws h1 h2), fun r1 r2 => hrel r1 r2⟩⟩
  · exact absurd rfl e
section
variable {X : Cx} {k n : Nat} {x : Str} {ps ks : List Str} {gV : List V → List V → List V} {sp : Sp} {e : Expr} {es : List Expr} {kws : List Keyword} {t tk : TA} {p pos : Pos}
/-- f(k = v, ..) -/
theorem pe_okK0 (h : OkK X.prog X.w X.K X.mg X.base k x ps 0 ks gV sp) (hr : Room k X.A) (hg : Gl X x) (hkw : PK X kws tk)
    (hall : (backToKw pos (keywordEach kws X.env)).all (·.1.isSome) = true := by rfl) (hks : (backToKw pos (keywordEach kws X.env)).filterMap (·.1) = ks := by rfl) (hdb : (x == ("__debug__" : Str)) = false := by decide)
    (hpl : ((backTo pos (starEach [] X.env)).any (·.1) || (backToKw pos (keywordEach kws X.env)).any (·.1.isNone)) = false := by rfl) :
    PE X (.Call (.Name x p) [] kws pos) (L2.tCallN 0 ks.length sp gV E0 tNil tk) := by
  obtain ⟨f, fd, g, F, hm, kp, hb⟩ := h
  refine ⟨fun pins s σ H Q I h => ?_⟩
  refine wpAny_Call_Name_kw (ld_glob I hg hm ?_ hdb)
  refine PySem.W.callWith_KW0 (h₀ := X.base) I.ok.mod.kin kp hall ?_ hpl
  refine thn (hkw.run pos pins s σ H _ I h) fun ws s2 ⟨zs, H2, I2, rz, l1, l2, q2⟩ => ⟨I2.kIn, ?_⟩
  rw [hks]
  exact run_fnN (us := []) (vs := []) F hr hb pass0 I2 .nil rz rfl l2 q2
/-- f(e, .., k = v, ..) -/
theorem pe_okK (h : OkK X.prog X.w X.K X.mg X.base k x ps n ks gV sp) (hr : Room k X.A) (hg : Gl X x) (ha : PA X (e :: es) t) (hkw : PK X kws tk)
    (hall : (backToKw pos (keywordEach kws X.env)).all (·.1.isSome) = true := by rfl) (hks : (backToKw pos (keywordEach kws X.env)).filterMap (·.1) = ks := by rfl) (hdb : (x == ("__debug__" : Str)) = false := by decide)
    (he : starEach (e :: es) X.env = (false, eval e X.env) :: starEach es X.env := by rfl) (hpl : ((backTo pos (starEach (e :: es) X.env)).any (·.1) || (backToKw pos (keywordEach kws X.env)).any (·.1.isNone)) = false := by rfl) :
    PE X (.Call (.Name x p) (e :: es) kws pos) (L2.tCallN n ks.length sp gV E0 t tk) := by
  obtain ⟨f, fd, g, F, hm, kp, hb⟩ := h
  exact pe_callN F hr hg hm kp hb pass0 ha hkw hall hks hdb he hpl
theorem rd_callN {σ : L2.St} {H : Hp} {Q : VK} {E : XK} {m : Nat} (h : t σ H fun vs H1 => tk σ H1 fun zs H2 => CalN n m sp gV E vs zs H2 Q) : L2.tCallN n m sp gV E t tk σ H Q := h
end
end keywords
section tuples
variable {K : PySem.W.Frag} {σ : L2.St} {H : Hp} {Q : VK} {ta : TE}
theorem rd_slA {p : Addr} {xs : List V} {lo hi : Option Int} (h : H p = some (.tup xs)) (q : ∀ b H2, Same H H2 → H2 b = some (.tup (cutV xs lo hi)) → Q (.ref b) H2) : rSlA K (.ref p) lo hi H Q := by
  refine ⟨p, xs, rfl, sqT_of h, fun e => q p H (.refl _) ?_, fun _ b hb => q b _ (Same.new hb) upd_same⟩
  have e2 : cutV xs lo hi = xs := by
    unfold cutV
    rw [e.1, e.2]
    exact List.take_length
  rw [e2]
  exact h
theorem rd_catA {p q : Addr} {xs ys : List V} (h1 : H p = some (.tup xs)) (h2 : H q = some (.tup ys)) (hl : xs.length + ys.length ≤ sizeLine) (k : ∀ b H2, Same H H2 → H2 b = some (.tup (xs ++ ys)) → Q (.ref b) H2) : rCatA K (.ref p) (.ref q) H Q := by
  refine ⟨p, q, xs, ys, rfl, rfl, sqT_of h1, sqT_of h2, hl, fun e => k q H (.refl _) ?_, fun _ e => k p H (.refl _) ?_, fun _ _ b hb => k b _ (Same.new hb) upd_same⟩
  · rw [e]; exact h2
  · rw [e, List.append_nil]; exact h1
theorem rd_then {kk : V → Hp → VK → Prop} (h : ta σ H fun x H1 => kk x H1 Q) : tThen ta kk σ H Q := h
theorem rd_kTupL {p : Addr} {xs : List V} (h : SqL K H p xs) (q : ∀ b H2, H b = none → Same H H2 → H2 b = some (.tup xs) → Q (.ref b) H2) : kTup K (.ref p) H Q := .inl ⟨p, xs, rfl, h, fun b hb => q b _ hb (Same.new hb) upd_same⟩
theorem rd_kTupT {p : Addr} {xs : List V} (h : SqT K H p xs) (q : Q (.ref p) H) : kTup K (.ref p) H Q := .inr ⟨p, xs, rfl, h, q⟩
theorem rd_app {l : Addr} {xs : List V} {y : V} (h : H l = some (.lst xs)) (hl : xs.length < sizeLine) (q : ∀ H2, Chg l H H2 → H2 l = some (.lst (xs ++ [y])) → Q .non H2) : rAppend (.ref l) [y] H Q := ⟨l, xs, y, rfl, rfl, h, hl, q _ Chg.of upd_same⟩
theorem rd_bmL {T : String} {r : V → List V → Hp → VK → Prop} {t : TA} (h : ta σ H fun x H1 => BmL K T r t σ x H1 Q) : tBM K T r ta t σ H Q := h
theorem rd_bml {r : V → List V → Hp → VK → Prop} {t : TA} {l : Addr} {xs : List V} (h : SqL K H l xs) (q : t σ H fun ys H2 => r (.ref l) ys H2 Q) : BmL K "list" r t σ (.ref l) H Q := ⟨.inl ⟨rfl, xs, h⟩, q⟩
theorem rd_par {D : Ends} {i j : Nat} {t : TA} (h : t σ H fun vs H1 => ParB i j vs D.nx σ H1) : tPar i j t D σ H := h
theorem rd_parB {i j : Nat} {v w : V} {N : L2.St → Hp → Prop} (h : N ((σ.set i (some v)).set j (some w)) H) : ParB i j [v, w] N σ H := ⟨v, w, rfl, h⟩
end tuples
section union
theorem Ok.union {P : Program} {w : World} {K : PySem.W.Frag} {mg : Str → Option Value} {base : Heap} {k N : Nat} {x : Str} {ps : List Str} {sp : Nat → Sp} (h : ∀ n, n ≤ N → Ok P w K mg base k x ps (sp n)) : Ok P w K mg base k x ps fun vs H Q E => ∃ n, n ≤ N ∧ sp n vs H Q E := by
  obtain ⟨f, fd, F, a, b, c, oc, od, osl, l⟩ := h 0 (Nat.zero_le _)
  have key : ∀ n, n ≤ N → FnOk P w K mg base CX0 k f fd ps (sp n) := fun n hn => by
    obtain ⟨f', fd', F', a', b', c', oc', od', osl', l'⟩ := h n hn
    rw [a] at a'
    cases a'
    rw [l] at l'
    cases l'
    exact F'
  refine ⟨f, fd, ⟨fun vs H Q E ⟨n, hn, q⟩ => (key n hn).len vs H Q E q, fun A outer s H args us vs Q E hr e0 hb hv ⟨n, hn, q⟩ => (key n hn).run A outer s H args us vs Q E hr e0 hb hv q⟩, a, b, c, oc, od, osl, l⟩
end union
theorem Ok.at {P : Program} {w : World} {K : PySem.W.Frag} {mg : Str → Option Value} {base : Heap} {k : Nat} {x qual : Str} {ps : List Str} {sp : Sp} {params : Arguments} {body : List Stmt} {scope : Scope} {dvs : List V} {kws : List (Str × V)} {f : Addr} {fd : FuncData} (h : Ok P w K mg base k x ps sp) (F : FunD K x qual params body scope dvs kws f fd) (hm : mg x = some (.ref f)) : FnOk P w K mg base CX0 k f fd ps sp := by
  obtain ⟨f', fd', F', a', b', c', oc', od', osl', l'⟩ := h
  rw [hm] at a'
  cases a'
  obtain ⟨oc, od, osl, l⟩ := fund_at F
  rw [l] at l'
  cases l'
  exact F'
/-! ## comprehensions whose turns change nothing; data at any depth -/
section comps
def WkT (K : PySem.W.Frag) (x : V) (H : Hp) (R : It → Hp → Prop) : Prop := ∃ a, x = .ref a ∧ (∃ xs, SqT K H a xs) ∧ R (Itt K a) H
def WkL (K : PySem.W.Frag) (x : V) (H : Hp) (R : It → Hp → Prop) : Prop := ∃ a, x = .ref a ∧ (∃ xs, SqL K H a xs) ∧ R (Itl K a) H
def WkS (x : V) (H : Hp) (R : It → Hp → Prop) : Prop := ∃ z, x = .str z ∧ R (Its z) H
/-- what a comprehension asks behind its iterable -/
def LcB (J : It) (g : TG) (tt : TT) (te : TE) (vs : List Nat) (σ : L2.St) (H : Hp) (Q : VK) : Prop :=
  ∀ D, H D = none → ∃ W : Nat → Nat → Hp → Prop, (∃ m, W 0 m (upd H D (.lst []))) ∧ ∀ i m H', W i m H' →
    (J.stop i H' ∧ Q (.ref D) H') ∨ (J.go i H' ∧ ∃ Nx : Hp → Prop, (∀ H2, Nx H2 → ∃ m', m' < m ∧ W (i + 1) m' H2) ∧ ∀ x H2, J.yld i H' x H2 → g x (wipe σ vs) H2 fun σ2 H3 => wipe σ2 vs = wipe σ vs ∧ tt σ2 H3 fun b H4 =>
      if b = true then te σ2 H4 fun y H5 => ∃ acc, H5 D = some (.lst acc) ∧ acc.length < sizeLine ∧ Nx (upd H5 D (.lst (acc ++ [y]))) else Nx H4)
/-- a comprehension over a walk: turn i gives f i, or nothing; what stood stays -/
theorem lc_pure {J : It} {n : Nat} {G : Hp → Prop} {Y : Nat → Hp → V → Hp → Prop} (wk : Walk J n G Y) {g : TG} {tt : TT} {te : TE} {vs : List Nat} {σ : L2.St} {H : Hp} {Q : VK} (hG : ∀ H', Same H H' → G H') (f : Nat → Option V) (hn : n ≤ 100000)
    (hs : ∀ i x H2 H3 (Q' : VK) (N' : Hp → Prop), i < n → Same H H2 → Y i H2 x H3 → (∀ v H4, f i = some v → Same H2 H4 → Q' v H4) → (∀ H4, f i = none → Same H2 H4 → N' H4) →
      g x (wipe σ vs) H3 fun σ2 H4 => wipe σ2 vs = wipe σ vs ∧ tt σ2 H4 fun b H5 => if b = true then te σ2 H5 Q' else N' H5)
    (hd : ∀ D H', H D = none → Same H H' → H' D = some (.lst ((List.range n).filterMap f)) → Q (.ref D) H') :
    LcB J g tt te vs σ H Q := by
  intro D hD
  have stay : ∀ {H2 : Hp} {o : HO}, Same H H2 → Same H (upd H2 D o) := fun {H2 o} s b u e => by
    rw [upd_ne (ne_of_none e hD)]
    exact s b u e
  refine lc_it wk (Pv := fun i H2 => Same H H2 ∧ H2 D = some (.lst ((List.range i).filterMap f))) ⟨Same.new hD, upd_same⟩ (fun i H2 _ p => hG _ p.1) (fun i x H2 H3 hi p y => ?_) (fun H2 p => hd D H2 hD p.1 p.2)
  refine hs i x H2 H3 _ _ hi p.1 y (fun v H4 hf s4 => ?_) (fun H4 hf s4 => ?_)
  · refine ⟨_, s4 _ _ p.2, ?_, stay (p.1.trans s4), ?_⟩
    · refine Nat.lt_of_le_of_lt (List.length_filterMap_le _ _) ?_
      rw [List.length_range]
      exact sz_smaller (by omega)
    · rw [upd_same, List.range_succ, List.filterMap_append]
      simp [hf]
  · refine ⟨p.1.trans s4, ?_⟩
    rw [s4 _ _ p.2, List.range_succ, List.filterMap_append]
    simp [hf]
section
variable {K : PySem.W.Frag} {σ : L2.St} {H : Hp} {Q : VK} {wi : TI} {g : TG} {tt : TT} {te tl : TE} {vs : List Nat} {QB : Bool → Hp → Prop}
theorem rd_lc (h : wi σ H fun J H1 => LcB J g tt te vs σ H1 Q) : tLc wi g tt te vs σ H Q := h
theorem rd_iTup {R : It → Hp → Prop} (h : tl σ H fun x H1 => WkT K x H1 R) : iTup K tl σ H R := h
theorem rd_iList {R : It → Hp → Prop} (h : tl σ H fun x H1 => WkL K x H1 R) : iList K tl σ H R := h
theorem rd_iStr {R : It → Hp → Prop} (h : tl σ H fun x H1 => WkS x H1 R) : iStr tl σ H R := h
theorem rd_wkT {p : Addr} {xs : List V} {R : It → Hp → Prop} (h : SqT K H p xs) (r : R (Itt K p) H) : WkT K (.ref p) H R := ⟨p, rfl, ⟨xs, h⟩, r⟩
theorem rd_wkL {p : Addr} {xs : List V} {R : It → Hp → Prop} (h : SqL K H p xs) (r : R (Itl K p) H) : WkL K (.ref p) H R := ⟨p, rfl, ⟨xs, h⟩, r⟩
theorem rd_wkS {z : Str} {R : It → Hp → Prop} (r : R (Its z) H) : WkS (.str z) H R := ⟨z, rfl, r⟩
theorem rd_yes (q : QB true H) : tYes σ H QB := q
theorem rd_wipe {σ' : L2.St} {A : Prop} (h : wipe σ vs = wipe σ' vs) (a : A) : wipe σ vs = wipe σ' vs ∧ A := ⟨h, a⟩
end
end comps

section data
theorem rd_nbool {b : Bool} {A B : Prop} (h1 : b = false → A) (h2 : b = true → B) : if (!b) = true then A else B := by
  cases b with
  | true => exact iteF (h2 rfl)
  | false => exact iteT (h1 rfl)
/-- v stands for the datum d, of depth at most n -/
def Dn : Nat → Hp → V → PyData → Prop
  | n, H, v, d => match d with
    | .none => v = .non
    | .bool b => v = .bl b
    | .int i => v = .int i
    | .str x => v = .str x ∧ PyData.strOk x = true ∧ x.length ≤ 16000000
    | .list ds => match n with
      | 0 => False
      | m + 1 => ∃ a xs, v = .ref a ∧ H a = some (.lst xs) ∧ isBag (.lst xs) = false ∧ xs.length ≤ 100000 ∧ Paired (Dn m H) xs ds
    | .tuple ds => match n with
      | 0 => False
      | m + 1 => ∃ a xs, v = .ref a ∧ H a = some (.tup xs) ∧ xs.length ≤ 100000 ∧ Paired (Dn m H) xs ds
    | .dict _ => False
  termination_by structural n => n
theorem pimp {α β : Type} {F G : α → β → Prop} {l : List α} {r : List β} (h : Paired F l r) (f : ∀ a b, F a b → G a b) : Paired G l r := by
  induction h with
  | nil => exact .nil
  | cons a _ ih => exact .cons (f _ _ a) ih
theorem Dn.ext {H H' : Hp} (e : Ext H H') : ∀ {n : Nat} {v : V} {d : PyData}, Dn n H v d → Dn n H' v d := by
  intro n
  induction n with
  | zero =>
    intro v d h
    cases d <;> exact h
  | succ m ih =>
    intro v d h
    cases d with
    | list ds =>
      obtain ⟨a, xs, rfl, h1, h2, hz, h3⟩ := h
      exact ⟨a, xs, rfl, e _ _ h1 h2, h2, hz, pimp h3 fun _ _ q => ih q⟩
    | tuple ds =>
      obtain ⟨a, xs, rfl, h1, hz, h3⟩ := h
      exact ⟨a, xs, rfl, e _ _ h1 rfl, hz, pimp h3 fun _ _ q => ih q⟩
    | _ => exact h
theorem Dn.same {H H' : Hp} {n : Nat} {v : V} {d : PyData} (e : Same H H') (h : Dn n H v d) : Dn n H' v d := Dn.ext (.of e) h
theorem Dn.up1 {H : Hp} : ∀ {n : Nat} {v : V} {d : PyData}, Dn n H v d → Dn (n + 1) H v d := by
  intro n
  induction n with
  | zero =>
    intro v d h
    cases d with
    | list ds => exact h.elim
    | tuple ds => exact h.elim
    | _ => exact h
  | succ m ih =>
    intro v d h
    cases d with
    | list ds =>
      obtain ⟨a, xs, rfl, h1, h2, hz, h3⟩ := h
      exact ⟨a, xs, rfl, h1, h2, hz, pimp h3 fun _ _ q => ih q⟩
    | tuple ds =>
      obtain ⟨a, xs, rfl, h1, hz, h3⟩ := h
      exact ⟨a, xs, rfl, h1, hz, pimp h3 fun _ _ q => ih q⟩
    | _ => exact h
theorem Dn.up {H : Hp} {n m : Nat} {v : V} {d : PyData} (h : Dn n H v d) (l : n ≤ m) : Dn m H v d := by
  induction l with
  | refl => exact h
  | step _ ih => exact ih.up1
theorem Dn.dp {K : PySem.W.Frag} {H : Hp} : ∀ {n : Nat} {v : V} {d : PyData}, Dn n H v d → Dp K H v d ∧ d.canLay0 = true ∧ d.depth ≤ n := by
  intro n
  induction n with
  | zero =>
    intro v d h
    cases d with
    | none => cases (show v = .non from h); exact ⟨.non, rfl, Nat.le_refl _⟩
    | bool b => cases (show v = .bl b from h); exact ⟨.bl b, rfl, Nat.le_refl _⟩
    | int i => cases (show v = .int i from h); exact ⟨.int i, rfl, Nat.le_refl _⟩
    | str x =>
      obtain ⟨rfl, h, _⟩ := h
      exact ⟨.str x, h, Nat.le_refl _⟩
    | _ => exact h.elim
  | succ m ih =>
    intro v d h
    have all : ∀ {xs : List V} {ds : List PyData}, Paired (Dn m H) xs ds → DpAll K H xs ds ∧ PyData.canLayAll0 ds = true ∧ PyData.depthAll ds ≤ m := by
      intro xs ds p
      induction p with
      | nil => exact ⟨.nil, rfl, Nat.zero_le _⟩
      | cons a _ r =>
        obtain ⟨a1, a2, a3⟩ := ih a
        obtain ⟨r1, r2, r3⟩ := r
        refine ⟨.cons a1 r1, ?_, Nat.max_le.mpr ⟨a3, r3⟩⟩
        show (_ && _) = true
        rw [a2, r2] <;> rfl
    cases d with
    | none => cases (show v = .non from h); exact ⟨.non, rfl, Nat.zero_le _⟩
    | bool b => cases (show v = .bl b from h); exact ⟨.bl b, rfl, Nat.zero_le _⟩
    | int i => cases (show v = .int i from h); exact ⟨.int i, rfl, Nat.zero_le _⟩
    | str x =>
      obtain ⟨rfl, h, _⟩ := h
      exact ⟨.str x, h, Nat.zero_le _⟩
    | list ds =>
      obtain ⟨a, xs, rfl, h1, h2, hz, h3⟩ := h
      obtain ⟨b1, b2, b3⟩ := all h3
      exact ⟨.lst (sqL_of h1) b1, b2, Nat.succ_le_succ b3⟩
    | tuple ds =>
      obtain ⟨a, xs, rfl, h1, hz, h3⟩ := h
      obtain ⟨b1, b2, b3⟩ := all h3
      exact ⟨.tup (sqT_of h1) b1, b2, Nat.succ_le_succ b3⟩
    | dict => exact h.elim
theorem Dn.shaped {H : Hp} {n : Nat} {v : V} {d : PyData} (h : Dn n H v d) (l : n ≤ 64) : SeqAt.shaped d = true := by
  obtain ⟨_, a, b⟩ := h.dp (K := [])
  unfold SeqAt.shaped
  rw [a, decide_eq_true (Nat.le_trans b l)] <;> rfl
theorem Dn.len {H : Hp} {n : Nat} {xs : List V} {ds : List PyData} (h : Paired (Dn n H) xs ds) : xs.length = ds.length := h.length
/-- the name of a datum's type -/
def tyN : PyData → String
  | .none => "NoneType" | .bool _ => "bool" | .int _ => "int" | .str _ => "str" | .list _ => "list" | .tuple _ => "tuple" | .dict _ => "dict"
def isA (T : String) (d : PyData) : Bool := (kitB (tyN d) T).getD false
theorem isA_is {T : String} {d : PyData} (hT : T ∈ ["int", "bool", "str", "tuple", "list"]) : kitB (tyN d) T = some (isA T d) := by
  simp only [List.mem_cons, List.not_mem_nil, or_false] at hT
  rcases hT with rfl | rfl | rfl | rfl | rfl <;> cases d <;> kernel_rfl
theorem isA_int (d : PyData) : isA "int" d = match d with | .int _ => true | .bool _ => true | _ => false := by cases d <;> kernel_rfl
theorem isA_bool (d : PyData) : isA "bool" d = match d with | .bool _ => true | _ => false := by cases d <;> kernel_rfl
theorem isA_str (d : PyData) : isA "str" d = match d with | .str _ => true | _ => false := by cases d <;> kernel_rfl
theorem isA_tuple (d : PyData) : isA "tuple" d = match d with | .tuple _ => true | _ => false := by cases d <;> kernel_rfl
theorem isA_list (d : PyData) : isA "list" d = match d with | .list _ => true | _ => false := by cases d <;> kernel_rfl
theorem Dn.ty {K : PySem.W.Frag} {H : Hp} {n : Nat} {v : V} {d : PyData} (h : Dn n H v d) : TyX K H v (.type (tyN d)) := by
  cases d with
  | none => cases n <;> (cases (show v = .non from h); exact .base .non)
  | bool b => cases n <;> (cases (show v = .bl b from h); exact .base (.bl b))
  | int i => cases n <;> (cases (show v = .int i from h); exact .base (.int i))
  | str x => cases n <;> (obtain ⟨rfl, h⟩ := h; exact .base (.str x))
  | list ds =>
    cases n with
    | zero => exact h.elim
    | succ m =>
      obtain ⟨a, xs, rfl, h1, h2, hz, h3⟩ := h
      exact .base (.lst h1)
  | tuple ds =>
    cases n with
    | zero => exact h.elim
    | succ m =>
      obtain ⟨a, xs, rfl, h1, hz, h3⟩ := h
      exact .base (.tup h1)
  | dict => cases n <;> exact h.elim
theorem rd_isi {K : PySem.W.Frag} {H : Hp} {n : Nat} {v : V} {d : PyData} {Q : VK} {T : String} (h : Dn n H v d) (hT : T ∈ ["int", "bool", "str", "tuple", "list"]) (q : Q (.bl (isA T d)) H) : rIsi K [v, .ty T] H Q :=
  ⟨v, .ty T, .type (tyN d), .type T, isA T d, rfl, .ty T, h.ty, kit_ty (isA_is hT), q⟩
theorem Dn.of_tuple {H : Hp} {n : Nat} {v : V} {ds : List PyData} (h : Dn n H v (.tuple ds)) : ∃ m a xs, n = m + 1 ∧ v = .ref a ∧ H a = some (.tup xs) ∧ Paired (Dn m H) xs ds := by
  cases n with
  | zero => exact h.elim
  | succ m =>
    obtain ⟨a, xs, h1, h2, _, h3⟩ := h
    exact ⟨m, a, xs, rfl, h1, h2, h3⟩
theorem Dn.tlen {H : Hp} {n : Nat} {a : Addr} {xs : List V} {ds : List PyData} (h : Dn n H (.ref a) (.tuple ds)) (e : H a = some (.tup xs)) : xs.length ≤ 100000 := by
  cases n with
  | zero => exact h.elim
  | succ m =>
    obtain ⟨a, ys, h1, h2, h3, _⟩ := h
    cases h1
    rw [e] at h2
    cases h2
    exact h3
theorem Dn.llen {H : Hp} {n : Nat} {a : Addr} {xs : List V} {ds : List PyData} (h : Dn n H (.ref a) (.list ds)) (e : H a = some (.lst xs)) : xs.length ≤ 100000 := by
  cases n with
  | zero => exact h.elim
  | succ m =>
    obtain ⟨a, ys, h1, h2, _, h3, _⟩ := h
    cases h1
    rw [e] at h2
    cases h2
    exact h3
theorem Dn.of_list {H : Hp} {n : Nat} {v : V} {ds : List PyData} (h : Dn n H v (.list ds)) : ∃ m a xs, n = m + 1 ∧ v = .ref a ∧ H a = some (.lst xs) ∧ isBag (.lst xs) = false ∧ Paired (Dn m H) xs ds := by
  cases n with
  | zero => exact h.elim
  | succ m =>
    obtain ⟨a, xs, h1, h2, hb, _, h3⟩ := h
    exact ⟨m, a, xs, rfl, h1, h2, hb, h3⟩
theorem Dn.int {H : Hp} {n : Nat} (i : Int) : Dn n H (.int i) (.int i) := by cases n <;> exact rfl
theorem Dn.bl {H : Hp} {n : Nat} (b : Bool) : Dn n H (.bl b) (.bool b) := by cases n <;> exact rfl
theorem Dn.non {H : Hp} {n : Nat} : Dn n H .non .none := by cases n <;> exact rfl
theorem Dn.str {H : Hp} {n : Nat} {x : Str} (h : PyData.strOk x = true) (l : x.length ≤ 16000000) : Dn n H (.str x) (.str x) := by cases n <;> exact ⟨rfl, h, l⟩
theorem Dn.tup {H : Hp} {n : Nat} {a : Addr} {xs : List V} {ds : List PyData} (h : H a = some (.tup xs)) (p : Paired (Dn n H) xs ds) (l : ds.length ≤ 100000 := by decide) : Dn (n + 1) H (.ref a) (.tuple ds) := ⟨a, xs, rfl, h, by rw [Dn.len p]; exact l, p⟩
theorem Dn.lst {H : Hp} {n : Nat} {a : Addr} {xs : List V} {ds : List PyData} (h : H a = some (.lst xs)) (b : isBag (.lst xs) = false) (p : Paired (Dn n H) xs ds) (l : ds.length ≤ 100000 := by decide) : Dn (n + 1) H (.ref a) (.list ds) := ⟨a, xs, rfl, h, b, by rw [Dn.len p]; exact l, p⟩
theorem pat {α β : Type} {F : α → β → Prop} {l : List α} {r : List β} (h : Paired F l r) {i : Nat} {x : α} (hx : l[i]? = some x) : ∃ y, r[i]? = some y ∧ F x y := by
  induction h generalizing i with
  | nil => cases hx
  | cons a _ ih =>
    cases i with
    | zero => cases hx; exact ⟨_, rfl, a⟩
    | succ j => exact ih (i := j) hx
end data
theorem eqv_str (d : PyData) (z : Str) : PyData.eqv d (.str z) = match d with | .str w => w == z | _ => false := by
  cases d <;> rfl
theorem rd_neD {K : PySem.W.Frag} {H : Hp} {Q : VK} {n m : Nat} {x y : V} {d e : PyData} (hn : n ≤ 64) (hm : m ≤ 64) (h1 : Dn n H x d) (h2 : Dn m H y e) (q : Q (.bl (!PyData.eqv d e)) H) : rNeD K x y H Q := ⟨d, e, h1.dp.1, h2.dp.1, h1.shaped hn, h2.shaped hm, q⟩
theorem rd_eqD {K : PySem.W.Frag} {H : Hp} {Q : VK} {n m : Nat} {x y : V} {d e : PyData} (hn : n ≤ 64) (hm : m ≤ 64) (h1 : Dn n H x d) (h2 : Dn m H y e) (q : Q (.bl (PyData.eqv d e)) H) : rEqD K x y H Q := ⟨d, e, h1.dp.1, h2.dp.1, h1.shaped hn, h2.shaped hm, q⟩
theorem Dn.two {H : Hp} {n : Nat} {xs : List V} {ds : List PyData} (h : Paired (Dn n H) xs ds) (l : xs.length = 2) : ∃ x1 x2 d1 d2, xs = [x1, x2] ∧ ds = [d1, d2] ∧ Dn n H x1 d1 ∧ Dn n H x2 d2 := by
  cases h with
  | nil => cases l
  | cons a h =>
    cases h with
    | nil => cases l
    | cons b h =>
      cases h with
      | nil => exact ⟨_, _, _, _, rfl, rfl, a, b⟩
      | cons c h => simp at l
theorem Dn.three {H : Hp} {n : Nat} {xs : List V} {ds : List PyData} (h : Paired (Dn n H) xs ds) (l : xs.length = 3) : ∃ x1 x2 x3 d1 d2 d3, xs = [x1, x2, x3] ∧ ds = [d1, d2, d3] ∧ Dn n H x1 d1 ∧ Dn n H x2 d2 ∧ Dn n H x3 d3 := by
  cases h with
  | nil => cases l
  | cons a h =>
    cases h with
    | nil => cases l
    | cons b h =>
      cases h with
      | nil => cases l
      | cons c h =>
        cases h with
        | nil => exact ⟨_, _, _, _, _, _, rfl, rfl, a, b, c⟩
        | cons d h => simp at l
theorem Dn.eq_int {H : Hp} {n : Nat} {v : V} {i : Int} (h : Dn n H v (.int i)) : v = .int i := by cases n <;> exact h
theorem Dn.eq_str {H : Hp} {n : Nat} {v : V} {x : Str} (h : Dn n H v (.str x)) : v = .str x := by cases n <;> exact h.1
/-- what a for asks behind its iterable -/
def FoB (J : It) (g : TG) (tb : TS) (D : Ends) (σ : L2.St) (H : Hp) : Prop := ∃ W : Nat → Nat → L2.St → Hp → Prop, (∃ m, W 0 m σ H) ∧ ∀ i m σ1 H1, W i m σ1 H1 →
  (J.stop i H1 ∧ D.nx σ1 H1) ∨ (J.go i H1 ∧ ∃ N : L2.St → Hp → Prop, (∀ σ2 H2, N σ2 H2 → ∃ m', m' < m ∧ W (i + 1) m' σ2 H2) ∧ ∀ x H2, J.yld i H1 x H2 → g x σ1 H2 fun σ3 H3 => tb { D with nx := N, ct := N, bk := D.nx } σ3 H3)
theorem rd_for {wi : TI} {g : TG} {tb : TS} {D : Ends} {σ : L2.St} {H : Hp} (h : wi σ H fun J H1 => FoB J g tb D σ H1) : tFor wi g tb D σ H := h
theorem fo_it {J : It} {n : Nat} {G : Hp → Prop} {Y : Nat → Hp → V → Hp → Prop} (wk : Walk J n G Y) {g : TG} {tb : TS} {D : Ends} {σ : L2.St} {H : Hp} (Pv : Nat → L2.St → Hp → Prop) (h0 : Pv 0 σ H) (hG : ∀ i σ1 H1, i ≤ n → Pv i σ1 H1 → G H1)
    (hs : ∀ i x σ1 H1 H2, i < n → Pv i σ1 H1 → Y i H1 x H2 → g x σ1 H2 fun σ3 H3 => tb { D with nx := Pv (i + 1), ct := Pv (i + 1), bk := D.nx } σ3 H3) (hd : ∀ σ1 H1, Pv n σ1 H1 → D.nx σ1 H1) : FoB J g tb D σ H := for_it wk Pv h0 hG hs hd
def WkR (vs : List V) (H : Hp) (R : It → Hp → Prop) : Prop := ∃ j : Int, vs = [.int j] ∧ -(2 ^ 62) ≤ j ∧ j < 2 ^ 62 ∧ R (Itr 0 j.toNat) H
theorem rd_iRng1 {ta : TA} {σ : L2.St} {H : Hp} {R : It → Hp → Prop} (h : ta σ H fun vs H1 => WkR vs H1 R) : iRng1 ta σ H R := h
theorem rd_wkR {j : Int} {H : Hp} {R : It → Hp → Prop} (h : -1000000000 ≤ j ∧ j ≤ 1000000000) (r : R (Itr 0 j.toNat) H) : WkR [.int j] H R := ⟨j, rfl, by omega, by omega, r⟩
theorem walk_zipT {K : PySem.W.Frag} {a b : Addr} {xs ys : List V} {n : Nat} (hn : n = min xs.length ys.length) : Walk (RZ.ItzT K a b) n (fun H => SqT K H a xs ∧ SqT K H b ys) (YPair (fun i => xs[i]?) (fun i => ys[i]?)) := by
  subst hn
  refine ⟨fun i H hi q => ?_, fun H q => ⟨xs, ys, q.1, q.2, by omega⟩, fun i H v H' _ q y => ?_⟩
  · have h1 : i < xs.length := by omega
    have h2 : i < ys.length := by omega
    exact ⟨xs, ys, xs[i], ys[i], q.1, q.2, List.getElem?_eq_getElem h1, List.getElem?_eq_getElem h2⟩
  · obtain ⟨T, x, z, h1, h2, h3, h4, h5⟩ := y
    exact ⟨T, x, z, h1, h2, h3, h4 xs q.1, h5 ys q.2⟩
def WkZ (K : PySem.W.Frag) (vs : List V) (H : Hp) (R : It → Hp → Prop) : Prop := ∃ a b xs ys, vs = [.ref a, .ref b] ∧ ((SqL K H a xs ∧ SqL K H b ys ∧ R (Itz K a b) H) ∨ (SqT K H a xs ∧ SqT K H b ys ∧ R (RZ.ItzT K a b) H))
theorem rd_iZipA {K : PySem.W.Frag} {ta : TA} {σ : L2.St} {H : Hp} {R : It → Hp → Prop} (h : ta σ H fun vs H1 => WkZ K vs H1 R) : RZ.iZipA K ta σ H R := h
theorem rd_wkZL {K : PySem.W.Frag} {a b : Addr} {xs ys : List V} {H : Hp} {R : It → Hp → Prop} (h1 : SqL K H a xs) (h2 : SqL K H b ys) (r : R (Itz K a b) H) : WkZ K [.ref a, .ref b] H R := ⟨a, b, xs, ys, rfl, .inl ⟨h1, h2, r⟩⟩
theorem rd_wkZT {K : PySem.W.Frag} {a b : Addr} {xs ys : List V} {H : Hp} {R : It → Hp → Prop} (h1 : SqT K H a xs) (h2 : SqT K H b ys) (r : R (RZ.ItzT K a b) H) : WkZ K [.ref a, .ref b] H R := ⟨a, b, xs, ys, rfl, .inr ⟨h1, h2, r⟩⟩
theorem rd_isiLT {K : PySem.W.Frag} {H : Hp} {n : Nat} {v : V} {d : PyData} {Q : VK} {tp : Addr} (h : Dn n H v d) (ht : H tp = some (.tup [.ty "list", .ty "tuple"])) (q : Q (.bl (isA "list" d || isA "tuple" d)) H) : rIsiT K [v, .ref tp] H Q := by
  refine ⟨v, tp, _, .type (tyN d), [.type "list", .type "tuple"], isA "list" d || isA "tuple" d, rfl, ht, .cons (.ty _) (.cons (.ty _) .nil), h.ty, ?_, q⟩
  refine kitAny_cons (kit_ty (isA_is (by decide))) (fun e => ?_) (fun e => by rw [e] <;> rfl)
  rw [e, Bool.false_or]
  refine kitAny_cons (kit_ty (isA_is (by decide))) (fun e2 => ?_) (fun e2 => e2)
  rw [e2]
  exact kitAny_nil
/-- both stand for the same datum: True -/
def spSame (n : Nat) : Sp := fun vs H Q _ => ∃ (v1 v2 : V) (d : PyData), vs = [v1, v2] ∧ Dn n H v1 d ∧ Dn n H v2 d ∧ ∀ H', Same H H' → Q (.bl true) H'
theorem all_yes (n : Nat) : (List.range n).filterMap (fun _ => some (V.bl true)) = ((List.range n).map fun _ => true).map V.bl := by
  rw [List.map_map]
  generalize List.range n = l
  induction l with
  | nil => rfl
  | cons a l ih => rw [List.filterMap_cons, List.map_cons, ← ih] <;> rfl
theorem all_yes2 (n : Nat) : (((List.range n).map fun _ => true).all id) = true := by
  rw [List.all_map, List.all_eq_true]
  exact fun _ _ => rfl
section tupdata
/-- tuples stay -/
def Tps (H H' : Hp) : Prop := ∀ b xs, H b = some (.tup xs) → H' b = some (.tup xs)
theorem Tps.of {H H' : Hp} (e : Ext H H') : Tps H H' := fun b xs h => e b _ h rfl
theorem Tps.chg {l : Addr} {H H' : Hp} {xs : List V} (c : Chg l H H') (h : H l = some (.lst xs)) : Tps H H' := fun b ys e => by
  rw [c b fun q => by subst q; rw [h] at e; cases e]
  exact e
theorem Tps.trans {H H1 H2 : Hp} (a : Tps H H1) (b : Tps H1 H2) : Tps H H2 := fun c xs h => b c xs (a c xs h)
/-- v stands for the datum d, made of tuples alone, of depth at most n -/
def Dt : Nat → Hp → V → PyData → Prop
  | n, H, v, d => match d with
    | .none => v = .non
    | .bool b => v = .bl b
    | .int i => v = .int i
    | .str x => v = .str x ∧ PyData.strOk x = true ∧ x.length ≤ 16000000
    | .tuple ds => match n with
      | 0 => False
      | m + 1 => ∃ a xs, v = .ref a ∧ H a = some (.tup xs) ∧ xs.length ≤ 100000 ∧ Paired (Dt m H) xs ds
    | _ => False
  termination_by structural n => n
theorem Dt.keep {H H' : Hp} (e : Tps H H') : ∀ {n : Nat} {v : V} {d : PyData}, Dt n H v d → Dt n H' v d := by
  intro n
  induction n with
  | zero =>
    intro v d h
    cases d <;> exact h
  | succ m ih =>
    intro v d h
    cases d with
    | tuple ds =>
      obtain ⟨a, xs, rfl, h1, hz, h3⟩ := h
      exact ⟨a, xs, rfl, e _ _ h1, hz, pimp h3 fun _ _ q => ih q⟩
    | _ => exact h
theorem Dt.dn {H : Hp} : ∀ {n : Nat} {v : V} {d : PyData}, Dt n H v d → Dn n H v d := by
  intro n
  induction n with
  | zero =>
    intro v d h
    cases d <;> first | exact h | exact h.elim
  | succ m ih =>
    intro v d h
    cases d with
    | tuple ds =>
      obtain ⟨a, xs, rfl, h1, hz, h3⟩ := h
      exact ⟨a, xs, rfl, h1, hz, pimp h3 fun _ _ q => ih q⟩
    | list => exact h.elim
    | dict => exact h.elim
    | _ => exact h
theorem Dt.up1 {H : Hp} : ∀ {n : Nat} {v : V} {d : PyData}, Dt n H v d → Dt (n + 1) H v d := by
  intro n
  induction n with
  | zero =>
    intro v d h
    cases d with
    | tuple ds => exact h.elim
    | _ => exact h
  | succ m ih =>
    intro v d h
    cases d with
    | tuple ds =>
      obtain ⟨a, xs, rfl, h1, hz, h3⟩ := h
      exact ⟨a, xs, rfl, h1, hz, pimp h3 fun _ _ q => ih q⟩
    | _ => exact h
theorem Dt.up {H : Hp} {n m : Nat} {v : V} {d : PyData} (h : Dt n H v d) (l : n ≤ m) : Dt m H v d := by
  induction l with
  | refl => exact h
  | step _ ih => exact ih.up1
theorem Dt.int {H : Hp} {n : Nat} (i : Int) : Dt n H (.int i) (.int i) := by cases n <;> exact rfl
theorem Dt.str {H : Hp} {n : Nat} {x : Str} (h : PyData.strOk x = true) (l : x.length ≤ 16000000) : Dt n H (.str x) (.str x) := by cases n <;> exact ⟨rfl, h, l⟩
theorem Dt.tup {H : Hp} {n : Nat} {a : Addr} {xs : List V} {ds : List PyData} (h : H a = some (.tup xs)) (p : Paired (Dt n H) xs ds) (l : ds.length ≤ 100000 := by decide) : Dt (n + 1) H (.ref a) (.tuple ds) := ⟨a, xs, rfl, h, by rw [p.length]; exact l, p⟩
end tupdata
theorem Ext.chg {q : Addr} {H H3 H4 : Hp} (e : Ext H H3) (c : Chg q H3 H4) (h0 : H q = none) : Ext H H4 := fun b o h n => by
  rw [c b (ne_of_none h h0)]
  exact e b o h n
theorem Bag.chg {a c q : Addr} {ns : List Int} {H H' : Hp} (b : Bag a c ns H) (g : Chg q H H') (h1 : a ≠ q) (h2 : c ≠ q) : Bag a c ns H' := by
  obtain ⟨i, x, s, e1, e2, r⟩ := b
  exact ⟨i, x, s, by rw [g a h1]; exact e1, by rw [g c h2]; exact e2, r⟩
theorem Bag.free {a c q : Addr} {ns : List Int} {H : Hp} (b : Bag a c ns H) (h : H q = none) : a ≠ q ∧ c ≠ q := by
  obtain ⟨i, x, s, e1, e2, r⟩ := b
  exact ⟨ne_of_none e1 h, ne_of_none e2 h⟩
theorem Ext.free {H H' : Hp} (e : Ext H H') {q : Addr} (h : H' q = none) {o : HO} (n : isBag o = false) : H q ≠ some o := fun z => by
  rw [e _ _ z n] at h
  cases h
/-! ### the terms that the law draws -/
def GItem (nms : List Str) (rec : PyData → Prop) (d : PyData) : Prop := ∃ f x, d = .tuple [.int f, x] ∧ -9 ≤ f ∧ f ≤ 9 ∧ f ≠ 0 ∧
  ((∃ z, x = .str z ∧ z ∈ nms) ∨ ∃ i j k t, x = .tuple [.str "floor", .tuple [.int i, .int j, .int k], t] ∧ (-9 ≤ i ∧ i ≤ 9 ∧ -3 ≤ j ∧ j ≤ 3 ∧ 1 ≤ k ∧ k ≤ 4) ∧ rec t)
def GT (nms : List Str) (rec : PyData → Prop) (d : PyData) : Prop := ∃ its c, d = .tuple [.tuple its, .int c] ∧ its.length ≤ 4 ∧ -1000 ≤ c ∧ c ≤ 1000 ∧ ∀ x ∈ its, GItem nms rec x
def GTerm (nms : List Str) : Nat → PyData → Prop
  | 0 => GT nms fun _ => False
  | n + 1 => GT nms (GTerm nms n)
def GRec (nms : List Str) : Nat → PyData → Prop
  | 0 => fun _ => False
  | n + 1 => GTerm nms n
theorem GTerm_eq (nms : List Str) (n : Nat) : GTerm nms n = GT nms (GRec nms n) := by cases n <;> rfl
def spAnySlope : Sp := fun vs H Q _ => ∃ (a c : Addr) (ns : List Int), vs = [.ref a] ∧ Bag a c ns H ∧
  ∀ v i j k H', (-9 ≤ i ∧ i ≤ 9 ∧ -3 ≤ j ∧ j ≤ 3 ∧ 1 ≤ k ∧ k ≤ 4) → Ext H H' → Bag a c ns H' → Dt 1 H' v (.tuple [.int i, .int j, .int k]) → Q v H'
def goodNames (nms : List Str) : Prop := nms.length ≤ 100 ∧ ∀ z ∈ nms, PyData.strOk z = true ∧ z.length ≤ 16000000
def spAnyTerm (n : Nat) : Sp := fun vs H Q _ => ∃ (a c l : Addr) (ns : List Int) (nms : List Str), vs = [.ref a, .ref l, .int (n : Int)] ∧ Bag a c ns H ∧ H l = some (.lst (nms.map V.str)) ∧ goodNames nms ∧
  ∀ v d H', Ext H H' → Bag a c ns H' → Dt (3 + 4 * n) H' v d → GTerm nms n d → Q v H'
theorem eqv_nil (l : List Str) : PyData.eqv (.list (l.map PyData.str)) (.list []) = l.isEmpty := by cases l <;> rfl
theorem dn_strs {H : Hp} {l : Addr} {nms : List Str} (h : H l = some (.lst (nms.map V.str))) (g : goodNames nms) : Dn 1 H (.ref l) (.list (nms.map PyData.str)) := by
  refine ⟨l, _, rfl, h, bag_strs _, by rw [List.length_map]; have := g.1; omega, ?_⟩
  have g2 := g.2
  clear g h
  induction nms with
  | nil => exact .nil
  | cons z r ih => exact .cons ⟨rfl, g2 z (List.mem_cons_self ..)⟩ (ih fun y hy => g2 y (List.mem_cons_of_mem _ hy))
theorem cut4 (xs : List V) (h : xs.length ≤ 4) : cutV xs none (some 4) = xs := by
  unfold cutV
  have e1 : HT.sIx xs.length 0 none = 0 := rfl
  have e2 : HT.sIx xs.length xs.length (some 4) = xs.length := by
    have := HT.sIx_nat xs.length xs.length 4
    rw [show ((4 : Nat) : Int) = 4 from rfl] at this
    rw [this]
    omega
  rw [e1, e2]
  exact List.take_length
/-- between two turns of the loop that draws a term's items -/
def TermInv (a c l q : Addr) (ns : List Int) (nms : List Str) (n : Nat) (H : Hp) (i : Nat) (σ : L2.St) (H' : Hp) : Prop := ∃ (o5 o6 : Option V) (ps : List Addr) (ds : List PyData),
  σ = [some (.ref a), some (.ref l), some (.int (n : Int)), some (.ref q), o5, o6] ∧ Ext H H' ∧ Bag a c ns H' ∧ H' q = some (.lst (ps.map V.ref)) ∧ Paired (Dt (1 + 4 * n) H') (ps.map V.ref) ds ∧ ds.length ≤ i ∧ ∀ d ∈ ds, GItem nms (GRec nms n) d
theorem TermInv.put {a c l q : Addr} {ns : List Int} {nms : List Str} {n : Nat} {H : Hp} {i : Nat} {ps : List Addr} {ds : List PyData} (nq : H q = none) (aq : a ≠ q) (cq : c ≠ q) (ld : ds.length ≤ i) (hi : i ≤ 100) (gd : ∀ d ∈ ds, GItem nms (GRec nms n) d)
    {p : Addr} {d : PyData} {H5 : Hp} {N : L2.St → Hp → Prop} {o o' : Option V} (x5 : Ext H H5) (B5 : Bag a c ns H5) (h5 : H5 q = some (.lst (ps.map V.ref))) (pd5 : Paired (Dt (1 + 4 * n) H5) (ps.map V.ref) ds) (dd : Dt (1 + 4 * n) H5 (.ref p) d) (gg : GItem nms (GRec nms n) d)
    (hN : ∀ σ' H', TermInv a c l q ns nms n H (i + 1) σ' H' → N σ' H') : rAppend (.ref q) [.ref p] H5 fun _ H6 => N [some (.ref a), some (.ref l), some (.int (n : Int)), some (.ref q), o, o'] H6 := by
  refine rd_app h5 ?_ fun H6 c6 h6 => hN _ _ ?_
  · have : (ps.map V.ref).length = ds.length := pd5.length
    exact sz_smaller (by omega)
  · have t6 : Tps H5 H6 := Tps.chg c6 h5
    refine ⟨_, _, ps ++ [p], ds ++ [d], rfl, x5.chg c6 nq, B5.chg c6 aq cq, ?_, ?_, ?_, ?_⟩
    · rw [List.map_append]; exact h6
    · rw [List.map_append]
      exact (pimp pd5 fun _ _ z => z.keep t6).snoc (dd.keep t6)
    · rw [List.length_append]; exact Nat.succ_le_succ ld
    · intro e he
      rcases List.mem_append.mp he with he | he
      · exact gd e he
      · rw [List.mem_singleton.mp he]; exact gg
section isd
/-- v stands for some datum of depth at most k -/
def IsD (k : Nat) (H : Hp) (v : V) : Prop := ∃ d, Dn k H v d
def AllD (k : Nat) (H : Hp) (xs : List V) : Prop := ∀ x ∈ xs, IsD k H x
theorem AllD.nil {k : Nat} {H : Hp} : AllD k H [] := fun x h => by cases h
theorem AllD.cons {k : Nat} {H : Hp} {x : V} {xs : List V} (h : IsD k H x) (r : AllD k H xs) : AllD k H (x :: xs) := fun y hy => by
  rcases List.mem_cons.mp hy with e | hy
  · rw [e]; exact h
  · exact r y hy
theorem AllD.app {k : Nat} {H : Hp} {xs ys : List V} (h : AllD k H xs) (r : AllD k H ys) : AllD k H (xs ++ ys) := fun y hy => by
  rcases List.mem_append.mp hy with hy | hy
  · exact h y hy
  · exact r y hy
theorem AllD.cut {k : Nat} {H : Hp} {xs : List V} (h : AllD k H xs) (lo hi : Option Int) : AllD k H (cutV xs lo hi) := fun y hy => h y (List.mem_of_mem_drop (List.mem_of_mem_take hy))
theorem AllD.paired {k : Nat} {H : Hp} : ∀ {xs : List V}, AllD k H xs → ∃ ds, Paired (Dn k H) xs ds
  | [], _ => ⟨[], .nil⟩
  | x :: xs, h => by
    obtain ⟨d, hd⟩ := h x (List.mem_cons_self ..)
    obtain ⟨ds, p⟩ := AllD.paired fun y hy => h y (List.mem_cons_of_mem _ hy)
    exact ⟨d :: ds, .cons hd p⟩
theorem IsD.ext {k : Nat} {H H' : Hp} {v : V} (e : Ext H H') (h : IsD k H v) : IsD k H' v := by
  obtain ⟨d, h⟩ := h
  exact ⟨d, h.ext e⟩
theorem IsD.same {k : Nat} {H H' : Hp} {v : V} (e : Same H H') (h : IsD k H v) : IsD k H' v := h.ext (.of e)
theorem AllD.ext {k : Nat} {H H' : Hp} {xs : List V} (e : Ext H H') (h : AllD k H xs) : AllD k H' xs := fun y hy => (h y hy).ext e
theorem AllD.same {k : Nat} {H H' : Hp} {xs : List V} (e : Same H H') (h : AllD k H xs) : AllD k H' xs := h.ext (.of e)
theorem IsD.up {k m : Nat} {H : Hp} {v : V} (h : IsD k H v) (l : k ≤ m) : IsD m H v := by
  obtain ⟨d, h⟩ := h
  exact ⟨d, h.up l⟩
theorem AllD.up {k m : Nat} {H : Hp} {xs : List V} (h : AllD k H xs) (l : k ≤ m) : AllD m H xs := fun y hy => (h y hy).up l
theorem IsD.int {k : Nat} {H : Hp} (i : Int) : IsD k H (.int i) := ⟨_, Dn.int i⟩
theorem IsD.bl {k : Nat} {H : Hp} (b : Bool) : IsD k H (.bl b) := ⟨_, Dn.bl b⟩
theorem IsD.non {k : Nat} {H : Hp} : IsD k H .non := ⟨_, Dn.non⟩
theorem IsD.str {k : Nat} {H : Hp} {x : Str} (h : PyData.strOk x = true) (l : x.length ≤ 16000000) : IsD k H (.str x) := ⟨_, Dn.str h l⟩
theorem IsD.tup {k : Nat} {H : Hp} {a : Addr} {xs : List V} (h : H a = some (.tup xs)) (l : xs.length ≤ 100000) (p : AllD k H xs) : IsD (k + 1) H (.ref a) := by
  obtain ⟨ds, p⟩ := p.paired
  exact ⟨_, Dn.tup h p (by rw [← Dn.len p]; exact l)⟩
theorem IsD.lst {k : Nat} {H : Hp} {a : Addr} {xs : List V} (h : H a = some (.lst xs)) (b : isBag (.lst xs) = false) (l : xs.length ≤ 100000) (p : AllD k H xs) : IsD (k + 1) H (.ref a) := by
  obtain ⟨ds, p⟩ := p.paired
  exact ⟨_, Dn.lst h b p (by rw [← Dn.len p]; exact l)⟩
theorem cut_len (xs : List V) (lo hi : Option Int) : (cutV xs lo hi).length ≤ xs.length := cutV_length xs lo hi
def spBent : Sp := fun vs H Q _ => ∃ (a c t : Addr) (ns : List Int) (x1 x2 : V), vs = [.ref a, .ref t] ∧ Bag a c ns H ∧ H t = some (.tup [x1, x2]) ∧ IsD 25 H x1 ∧ IsD 25 H x2 ∧
  ∀ v H', Ext H H' → Bag a c ns H' → IsD 30 H' v → Q v H'
end isd
theorem bag_len {xs : List V} (h : xs.length ≠ 4) : isBag (.lst xs) = false := by
  unfold isBag
  split
  · rename_i e
    cases e
    exact absurd rfl h
  · rfl
def spLaw (K : PySem.W.Frag) : Sp := fun vs H Q _ => ∃ (a : Addr) (ns : List Int), vs = [.ref a] ∧ SqL K H a (ns.map V.int) ∧ ∀ H', Q (.bl true) H'
theorem Dt.of_tuple {H : Hp} {n : Nat} {v : V} {ds : List PyData} (h : Dt n H v (.tuple ds)) : ∃ m a xs, n = m + 1 ∧ v = .ref a ∧ H a = some (.tup xs) ∧ xs.length ≤ 100000 ∧ Paired (Dt m H) xs ds := by
  cases n with
  | zero => exact h.elim
  | succ m =>
    obtain ⟨a, xs, h1, h2, h4, h3⟩ := h
    exact ⟨m, a, xs, rfl, h1, h2, h4, h3⟩
theorem Dt.eq_int {H : Hp} {n : Nat} {v : V} {i : Int} (h : Dt n H v (.int i)) : v = .int i := by cases n <;> exact h
theorem dt_all {H : Hp} {n : Nat} {xs : List V} {ds : List PyData} (h : Paired (Dt n H) xs ds) : AllD n H xs := by
  induction h with
  | nil => exact .nil
  | cons a _ ih => exact .cons ⟨_, a.dn⟩ ih
theorem bag_allref {xs : List V} (h : ∀ x ∈ xs, ∃ a, x = V.ref a) : isBag (.lst xs) = false := by
  unfold isBag
  split
  · rename_i e
    cases e
    obtain ⟨a, e⟩ := h _ (List.mem_cons_of_mem _ (List.mem_cons_self ..))
    cases e
  · rfl
theorem dt_refs {H : Hp} {n : Nat} {xs : List V} {ds : List PyData} (h : Paired (Dt n H) xs ds) (g : ∀ d ∈ ds, ∃ es, d = PyData.tuple es) : ∀ x ∈ xs, ∃ a, x = V.ref a := by
  induction h with
  | nil => exact fun x hx => by cases hx
  | cons a _ ih =>
    intro x hx
    rcases List.mem_cons.mp hx with rfl | hx
    · obtain ⟨es, rfl⟩ := g _ (List.mem_cons_self ..)
      obtain ⟨_, p, _, _, e, _⟩ := a.of_tuple
      exact ⟨p, e⟩
    · exact ih (fun d hd => g d (List.mem_cons_of_mem _ hd)) x hx
/-- a drawn term as it stands -/
theorem GTerm.parts {nms : List Str} {n m : Nat} {H : Hp} {v : V} {d : PyData} (g : GTerm nms n d) (h : Dt m H v d) : ∃ t t1 xs its c, v = .ref t ∧ H t = some (.tup [.ref t1, .int c]) ∧ H t1 = some (.tup xs) ∧ xs.length ≤ 4 ∧ AllD m H xs ∧ isBag (.lst xs) = false ∧ d = .tuple [.tuple its, .int c] ∧ -1000 ≤ c ∧ c ≤ 1000 := by
  rw [GTerm_eq] at g
  obtain ⟨its, c, rfl, hl, c0, c1, gi⟩ := g
  obtain ⟨m1, t, ys, rfl, rfl, h1, _, p⟩ := h.of_tuple
  cases p with
  | cons a p =>
    cases p with
    | cons b p =>
      cases p
      obtain ⟨m2, t1, xs, rfl, rfl, h2, _, p2⟩ := a.of_tuple
      have ec := b.eq_int
      subst ec
      refine ⟨t, t1, xs, its, c, rfl, h1, h2, by rw [p2.length]; exact hl, (dt_all p2).up (by omega), bag_allref (dt_refs p2 fun e he => by obtain ⟨f, x, rfl, _⟩ := gi e he; exact ⟨_, rfl⟩), rfl, c0, c1⟩
def DD : Nat → PyData
  | 0 => .tuple [.tuple [], .int 1]
  | i + 1 => .tuple [.tuple [.tuple [.int 1, .tuple [.str "floor", .tuple [.int 1, .int 0, .int 1], DD i]]], .int 0]
/-! ## the head: what is told of the top's end -/
section heads
open PySem.W (Frag)
def paOf (K : Frag) (C f : Str) : Addr := match PySem.W.findIn K (.ref (He.ga K C)) f with
  | some (some (.ref p)) => p
  | _ => 0
def pgOf (K : Frag) (C f : Str) : Addr := match PySem.W.recIn K (paOf K C f) "property" with
  | some (.ref g :: _) => g
  | _ => 0
def propB (C f : Str) (K : Frag) : Bool := He.eqO (PySem.W.findIn K (.ref (He.ga K C)) f) (some (some (.ref (paOf K C f)))) && (He.eqO (PySem.W.specialIn K (.ref (paOf K C f)) "__get__") (some (some (.builtin "property.__get__"))) && (decide (PySem.W.takesIn K (.ref (paOf K C f)) = some true) && (match PySem.W.recIn K (paOf K C f) "property" with
  | some (.ref _ :: _) => true
  | _ => false)))
theorem propB_ok {K : Frag} {C f : Str} (h : propB C f K = true) : PropOf K (He.ga K C) f (paOf K C f) (pgOf K C f) := by
  obtain ⟨h1, h⟩ := He.ba h
  obtain ⟨h2, h⟩ := He.ba h
  obtain ⟨h3, h4⟩ := He.ba h
  refine ⟨He.eqO_ok h1, He.eqO_ok h2, of_decide_eq_true h3, ?_⟩
  unfold pgOf
  split at h4
  · rename_i g r e
    exact ⟨r, by rw [e]⟩
  · cases h4
def selfB (C : Str) (K : Frag) : Bool := PySem.W.selfFirst K (He.ga K C)
def readB (C : Str) (K : Frag) : Bool := PySem.W.readsIn K (He.ga K C) (.type "type") && He.eqO (PySem.W.specialIn K (.ref (He.ga K C)) "__getattribute__") (some (some (.builtin "type.__getattribute__")))
theorem readB_ok {K : Frag} {C : Str} (h : readB C K = true) : ClX.CRead K (He.ga K C) (.type "type") := ⟨(He.ba h).1, He.eqO_ok (He.ba h).2⟩
def statB (C m : Str) (K : Frag) : Bool := He5.wrapB K (He.ga K C) "staticmethod" "staticmethod.__get__" m
/-- what isinstance asks of the class at C -/
def isiB (C : Str) (K : Frag) : Bool := He.eqO (PySem.W.findIn K (.ref (He.ga K C)) "__class__") (some (some (.builtin "object.__class__"))) && (He.eqO (PySem.W.specialIn K (.builtin "object.__class__") "__get__") (some (some (.builtin "getset_descriptor.__get__"))) &&
  (decide (PySem.W.takesIn K (.builtin "object.__class__") = some true) && (decide (PySem.W.mroIn K (He.ga K C) (.type "object") = some true) && decide (PySem.W.kitOne K (.ref (He.ga K C)) (.ref (He.ga K C)) = some true))))
structure IsiC (K : Frag) (C : Addr) : Prop where
  ca : PySem.W.findIn K (.ref C) "__class__" = some (some (.builtin "object.__class__"))
  cn : PySem.W.specialIn K (.builtin "object.__class__") "__get__" = some (some (.builtin "getset_descriptor.__get__"))
  ct : PySem.W.takesIn K (.builtin "object.__class__") = some true
  cm : PySem.W.mroIn K C (.type "object") = some true
  me : PySem.W.kitOne K (.ref C) (.ref C) = some true
theorem isiB_ok {K : Frag} {C : Str} (h : isiB C K = true) : IsiC K (He.ga K C) := by
  obtain ⟨h1, h⟩ := He.ba h
  obtain ⟨h2, h⟩ := He.ba h
  obtain ⟨h3, h⟩ := He.ba h
  obtain ⟨h4, h5⟩ := He.ba h
  exact ⟨He.eqO_ok h1, He.eqO_ok h2, of_decide_eq_true h3, of_decide_eq_true h4, of_decide_eq_true h5⟩
abbrev AlY : Type := He.AlD × Bool
def obsY (n : Nat) (fa : List He.Fa) (fn : List He5.DefA) (ex : List (Frag → Bool)) (g : Addr → Option Obj) : AlY := (He5.obsA fa fn (He.frG g (He5.asA g n)), ex.all fun f => f (He.frG g (He5.asA g n)))
structure SaysY (fa : List He.Fa) (fn : List He5.DefA) (ex : List (Frag → Bool)) (K : Frag) : Prop where
  a : He5.SaysA fa fn K
  e : ex.all (fun f => f K) = true
theorem SaysY.ex {fa : List He.Fa} {fn : List He5.DefA} {ex : List (Frag → Bool)} {K : Frag} (c : SaysY fa fn ex K) (i : Nat) {f : Frag → Bool} (h : ex[i]? = some f := by rfl) : f K = true := List.all_eq_true.mp c.e f (List.mem_of_getElem? h)
def hookY (n : Nat) (fa : List He.Fa) (fn : List He5.DefA) (ex : List (Frag → Bool)) : PySem.W.Hook where
  α := AlY
  obs := fun s => obsY n fa fn ex s.heap.get?
  val := fun _ => (He5.valA fn, true)
  says := fun _ h => ∃ K : Frag, K.In h ∧ SaysY fa fn ex K
  of := fun _ _ e => ⟨_, He.frG_in, ⟨congrArg (fun z : AlY => z.1) e, congrArg (fun z : AlY => z.2) e⟩⟩
  keeps := fun _ _ _ ⟨K, hK, c⟩ k => ⟨K, PySem.W.Frag.In.keeps hK k, c⟩
theorem obsY_eq {n : Nat} {fa : List He.Fa} {fn : List He5.DefA} {ex : List (Frag → Bool)} {g : Addr → Option Obj} {s : Shared} (h : ∀ a, g a = s.heap.get? a) : obsY n fa fn ex g = (hookY n fa fn ex).obs s := by
  have e : g = s.heap.get? := funext h
  rw [e] <;> rfl
end heads
/-! ## classes: methods, properties, static methods, operators of one's own -/
def MeB (C : Addr) (m : Str) (sp : Sp) (dvs : List V) (E : XK) (t : TA) (σ : L2.St) (x : V) (H : Hp) (Q : VK) : Prop := ∃ a dx fs, x = .ref a ∧ H a = some (.ins C dx fs) ∧ fs.lookup m = none ∧ t σ H fun vs H2 => sp (x :: (vs ++ dvs)) H2 Q E
def FdB (K : PySem.W.Frag) (f : Str) (x : V) (H : Hp) (Q : VK) : Prop := ∃ a C dx fs v, x = .ref a ∧ H a = some (.ins C dx fs) ∧ Cls K C ∧ NoAttr K C f ∧ fs.lookup f = some v ∧ Q v H
def PrB (C : Addr) (sp : Sp) (dvs : List V) (E : XK) (x : V) (H : Hp) (Q : VK) : Prop := ∃ a dx fs, x = .ref a ∧ H a = some (.ins C dx fs) ∧ sp (.ref a :: dvs) H Q E
section classes
variable {X : Cx}
/-- the def at f keeps the promise sp (all its parameters are given) -/
def OkF (P : Program) (w : World) (K : PySem.W.Frag) (mg : Str → Option Value) (base : Heap) (k : Nat) (f : Addr) (ps : List Str) (sp : Sp) : Prop := ∃ fd, FnOk P w K mg base CX0 k f fd ps sp ∧ Binds K fd ps []
theorem OkF.mono {P : Program} {w : World} {K : PySem.W.Frag} {mg : Str → Option Value} {base : Heap} {j k : Nat} {f : Addr} {ps : List Str} {sp : Sp} (h : OkF P w K mg base j f ps sp) (l : j ≤ k) : OkF P w K mg base k f ps sp := by
  obtain ⟨fd, F, B⟩ := h
  exact ⟨fd, F.mono l, B⟩
theorem OkF.mk {P : Program} {w : World} {K : PySem.W.Frag} {mg : Str → Option Value} {base : Heap} {x qual : Str} {st : Stmt} {f : Addr} {kws : List (Str × V)} {N ps : List Str} {k : Nat} {sp : Sp} (F : ∃ fd, FunD K x qual (defArgs st) (defBody st) (defScope st) [] kws f fd) (S : FnScope N ps (defScope st))
    (hb : ∀ (kV doc pm : Value) (an : Option Addr) (cdv ct : Value) (us : List Value), us.length = ps.length → bindArgs (PySem.W.fnOf x qual (defArgs st) (defBody st) (defScope st) .none kV doc pm an cdv ct) ⟨us, []⟩ = pure (ps.zip us))
    (len : ∀ vs H Q E, sp vs H Q E → vs.length = ps.length)
    (hbody : ∀ (cdv : Value) (A : Around) (outer : List Env) (s : Shared) (H : Hp) (vs : List V) (Q : VK) (E : XK), Room k (A.deeper (envOfC qual (defScope st) s.heap.objs.size f cdv)) → sp vs H Q E →
      ∃ t, PSs (cxOf CX0 P w K mg base N qual (defScope st) f cdv A outer s H E).nox (defBody st) t ∧ t { nx := fun _ H' => Q .non H', rt := Q } (start N vs) H) : OkF P w K mg base (k + 1) f ps sp := by
  obtain ⟨fd, F⟩ := F
  exact ⟨fd, F.ok S len fun cdv A outer s H vs Q E hr h => by
    obtain ⟨t, a, b⟩ := hbody cdv A outer s H vs Q E hr h
    exact ⟨t, a.nox, b⟩, F.bindsN hb⟩
/-- o.m(e, ..) -/
theorem pe_om {pl : Sem Bool} {k : Nat} {C f : Addr} {m : Str} {ps : List Str} {sp : Sp} {o e : Expr} {es : List Expr} {ta : TE} {t : TA} {apos pos : Pos} (ho : PE X o ta) (c : Cls X.K C) (M : Meth X.K C m f) (h : OkF X.prog X.w X.K X.mg X.base k f ps sp) (hr : Room k X.A) (ha : PA X (e :: es) t)
    (hst : starEach (e :: es) X.env = (false, eval e X.env) :: starEach es X.env := by rfl) (hpl : (backTo pos (starEach es X.env)).any (·.1) = false := by rfl)
    (ht : eval (.Call (.Attribute o m apos) (e :: es) [] pos) X.env = (do let ov ← eval o X.env; standAt apos.atName; let (f, first) ← holding [ov] (getMethod ov m pl); callWith pos f first (backTo pos (starEach (e :: es) X.env)) (backToKw pos (keywordEach [] X.env))) := by rfl) :
    PE X (.Call (.Attribute o m apos) (e :: es) [] pos) (tMeth C m sp [] E0 ta t) := by
  obtain ⟨fd, F, B⟩ := h
  exact pe_meth ho c M F hr B .nil pass0 ha hst hpl ht
/-- o.m() -/
theorem pe_om0 {pl : Sem Bool} {k : Nat} {C f : Addr} {m : Str} {ps : List Str} {sp : Sp} {o : Expr} {ta : TE} {apos pos : Pos} (ho : PE X o ta) (c : Cls X.K C) (M : Meth X.K C m f) (h : OkF X.prog X.w X.K X.mg X.base k f ps sp) (hr : Room k X.A)
    (ht : eval (.Call (.Attribute o m apos) [] [] pos) X.env = (do let ov ← eval o X.env; standAt apos.atName; let (f, first) ← holding [ov] (getMethod ov m pl); callWith pos f first (backTo pos (starEach [] X.env)) (backToKw pos (keywordEach [] X.env))) := by rfl) :
    PE X (.Call (.Attribute o m apos) [] [] pos) (tMeth C m sp [] E0 ta tNil) := by
  obtain ⟨fd, F, B⟩ := h
  exact pe_meth0 ho c M F hr B .nil pass0 ht
/-- o.f, a property -/
theorem pe_op_ {k : Nat} {C p g : Addr} {f : Str} {ps : List Str} {sp : Sp} {e : Expr} {ta : TE} {pos : Pos} (he : PE X e ta) (c : Cls X.K C) (hp : PropOf X.K C f p g) (h : OkF X.prog X.w X.K X.mg X.base k g ps sp) (hr : Room (k + 1) X.A) (hab : attributeBase e f X.env (eval e X.env) = eval e X.env := by rfl) : PE X (.Attribute e f pos) (tProp C sp [] E0 ta) := by
  obtain ⟨fd, F, B⟩ := h
  exact pe_prop he c hp F hr B .nil pass0 hab
section
variable {C : Addr} {m : Str} {sp : Sp} {dvs : List V} {E : XK} {ta : TE} {t : TA} {σ : L2.St} {H : Hp} {Q : VK} {K : PySem.W.Frag} {f : Str}
theorem rd_meth (h : ta σ H fun x H1 => MeB C m sp dvs E t σ x H1 Q) : tMeth C m sp dvs E ta t σ H Q := h
theorem rd_meB {a dx : Addr} {fs : List (Str × V)} (h : H a = some (.ins C dx fs)) (hl : fs.lookup m = none) (q : t σ H fun vs H2 => sp (.ref a :: (vs ++ dvs)) H2 Q E) : MeB C m sp dvs E t σ (.ref a) H Q := ⟨a, dx, fs, rfl, h, hl, q⟩
theorem rd_fld (h : ta σ H fun x H1 => FdB K f x H1 Q) : tFld K ta f σ H Q := h
theorem rd_fdB {a dx : Addr} {fs : List (Str × V)} {v : V} (h : H a = some (.ins C dx fs)) (c : Cls K C) (n : NoAttr K C f) (l : fs.lookup f = some v) (q : Q v H) : FdB K f (.ref a) H Q := ⟨a, C, dx, fs, v, rfl, h, c, n, l, q⟩
theorem rd_prop (h : ta σ H fun x H1 => PrB C sp dvs E x H1 Q) : tProp C sp dvs E ta σ H Q := h
theorem rd_prB {a dx : Addr} {fs : List (Str × V)} (h : H a = some (.ins C dx fs)) (q : sp (.ref a :: dvs) H Q E) : PrB C sp dvs E (.ref a) H Q := ⟨a, dx, fs, rfl, h, q⟩
end
/-- x op y of two instances of the class at C, by its own def -/
def rBin (C : Addr) (sp : Sp) : R2 := fun x y H Q => ∃ a dx fs b dy gs, x = .ref a ∧ y = .ref b ∧ H a = some (.ins C dx fs) ∧ H b = some (.ins C dy gs) ∧ sp [x, y] H Q E0
theorem op_bin {op : Operator} {k : Nat} {C f : Addr} {m : Str} {ps : List Str} {sp : Sp} (hm : PySem.dunder op.info.2 = m) (hc : PySem.W.selfFirst X.K C = true) (M : Meth X.K C m f) (h : OkF X.prog X.w X.K X.mg X.base k f ps sp) (hr : Room k X.A) : OpR X (binaryOp op) (rBin C sp) := by
  intro pins s σ H x y v u Q I rx ry hh
  obtain ⟨fd, F, B⟩ := h
  obtain ⟨a, dx, fs, b, dy, gs, rfl, rfl, ha, hb, q⟩ := hh
  cases (show v = Value.ref a from rx)
  cases (show u = Value.ref b from ry)
  obtain ⟨mA, O, _⟩ := ins_get I.hok ha
  obtain ⟨od, J, _⟩ := O.look
  obtain ⟨mB, O', _⟩ := ins_get I.hok hb
  obtain ⟨od', J', _⟩ := O'.look
  obtain ⟨mm, hF⟩ := I.fr
  refine PySem.W.binop_K hF I.ok.mod.kin J J'.type hc (by rw [hm]; exact M.at_) M.fn ?_
  refine wpAny_mono (run_fn (us := [.ref a, .ref b]) (vs := [.ref a, .ref b]) F hr B .nil pass0 I (.cons rfl (.cons rfl .nil)) q) (fun w s' z => ?_) fun _ _ x => x
  obtain ⟨z', H', I', rz, qz⟩ := z
  exact SlX.cmpback rz ⟨z', H', I', rz, qz⟩
theorem rd_bin {C : Addr} {sp : Sp} {H : Hp} {Q : VK} {a b dx dy : Addr} {fs gs : List (Str × V)} (h1 : H a = some (.ins C dx fs)) (h2 : H b = some (.ins C dy gs)) (q : sp [.ref a, .ref b] H Q E0) : rBin C sp (.ref a) (.ref b) H Q := ⟨a, dx, fs, b, dy, gs, rfl, rfl, h1, h2, q⟩
/-- -x -/
def rNegO (C : Addr) (sp : Sp) : V → Hp → VK → Prop := fun x H Q => ∃ a dx fs, x = .ref a ∧ H a = some (.ins C dx fs) ∧ sp [x] H Q E0
theorem un_negO {k : Nat} {C f : Addr} {ps : List Str} {sp : Sp} (M : Meth X.K C "__neg__" f) (h : OkF X.prog X.w X.K X.mg X.base k f ps sp) (hr : Room k X.A) : UnR X (unaryOp .USub) (rNegO C sp) := by
  intro pins s σ H x v Q I rx hh
  obtain ⟨fd, F, B⟩ := h
  obtain ⟨a, dx, fs, rfl, ha, q⟩ := hh
  cases (show v = Value.ref a from rx)
  obtain ⟨mA, O, _⟩ := ins_get I.hok ha
  obtain ⟨od, J, _⟩ := O.look
  obtain ⟨mm, hF⟩ := I.fr
  exact PySem.W.ksp_neg hF I.ok.mod.kin J M.at_ M.fn (run_fn (us := [.ref a]) (vs := [.ref a]) F hr B .nil pass0 I (.cons rfl .nil) q)
/-- x == y, x an instance of the class at C with its own __eq__; y another thing whose type is told -/
def rEqO (K : PySem.W.Frag) (C : Addr) (sp : Sp) : R2 := fun x y H Q => ∃ a dx fs t, x = .ref a ∧ H a = some (.ins C dx fs) ∧ TyX K H y t ∧ PySem.W.notFirst K C t = true ∧ sp [x, y] H Q E0
theorem op_eqO {k : Nat} {C f : Addr} {ps : List Str} {sp : Sp} (M : Meth X.K C "__eq__" f) (h : OkF X.prog X.w X.K X.mg X.base k f ps sp) (hr : Room k X.A) : OpR X (compareOp .Eq) (rEqO X.K C sp) := by
  intro pins s σ H x y v u Q I rx ry hh
  obtain ⟨fd, F, B⟩ := h
  obtain ⟨a, dx, fs, t, rfl, ha, ty, hn, q⟩ := hh
  cases (show v = Value.ref a from rx)
  obtain ⟨mA, O, _⟩ := ins_get I.hok ha
  obtain ⟨od, J, _⟩ := O.look
  obtain ⟨mm, hF⟩ := I.fr
  obtain ⟨P, Z, p, _⟩ := kit_of I ry ty
  show wpAny _ _ (richCompare .Eq _ _) _ _ _
  refine PySem.W.cmp_K (op := .Eq) hr.units0 hF I.ok.mod.kin J (Z.ty _ _ I.kIn p) hn M.at_ M.fn ?_
  refine wpAny_mono (run_fn (us := [.ref a, u]) (vs := [.ref a, y]) F hr B .nil pass0 I (.cons rfl (.cons ry .nil)) q) (fun w s' z => ?_) fun _ _ x => x
  obtain ⟨z', H', I', rz, qz⟩ := z
  exact SlX.cmpback rz ⟨z', H', I', rz, qz⟩
theorem rd_eqO {K : PySem.W.Frag} {C : Addr} {sp : Sp} {H : Hp} {Q : VK} {a b dx dy : Addr} {fs gs : List (Str × V)} (c : Cls K C) (i : IsiC K C) (h1 : H a = some (.ins C dx fs)) (h2 : H b = some (.ins C dy gs)) (q : sp [.ref a, .ref b] H Q E0) : rEqO K C sp (.ref a) (.ref b) H Q :=
  ⟨a, dx, fs, .ref C, rfl, h1, .base (.ins h2 c i.ca i.cn i.ct i.cm), by unfold PySem.W.notFirst; rw [beq_self_eq_true]; rfl, q⟩
/-- bool(x) of an instance with its own __bool__ -/
def rBoolO (C : Addr) (sp : Sp) : List V → Hp → VK → Prop := fun xs H Q => ∃ a dx fs, xs = [.ref a] ∧ H a = some (.ins C dx fs) ∧ sp [.ref a] H (fun v H' => ∃ b, v = .bl b ∧ Q v H') E0
theorem truthy_own {M : Model} {A : Around} {E : Value → Shared → Prop} {s : Shared} {K : PySem.W.Frag} {x C f : Addr} {ox : Obj} {od : Option Obj} {Q : Bool → Shared → Prop} (X : K.In s.heap) (I : PySem.W.InstAt s.heap x ox C od) (hs : PySem.W.findIn K (.ref C) "__bool__" = some (some (.ref f))) (hf : PySem.W.isFn K (.ref f) = true)
    (h : wpAny M A (call (.ref f) [.ref x]) (fun r s₁ => ∃ b, r = Value.bool b ∧ Q b s₁) E s) : wpAny M A (truthy (.ref x)) Q E s := by
  unfold truthy
  refine wpAny_bind (m := callSpecial? (.ref x) (Str.ofString "__bool__")) (PySem.W.special_fn X I hs (beq_iff_eq.mp hf) (wpAny_mono h (fun r s' hr => ?_) fun _ _ y => y))
  obtain ⟨b, rfl, q⟩ := hr
  exact wpAny_pure q
theorem bool_own {prog : Program} {w : World} {A : Around} {E : Value → Shared → Prop} {s : Shared} {K : PySem.W.Frag} {x C f : Addr} {ox : Obj} {od : Option Obj} {Q : Value → Shared → Prop} (X : K.In s.heap) (I : PySem.W.InstAt s.heap x ox C od) (hs : PySem.W.findIn K (.ref C) "__bool__" = some (some (.ref f))) (hf : PySem.W.isFn K (.ref f) = true)
    (h : wpAny (model prog w) A.in1.in1 (call (.ref f) [.ref x]) (fun r s₁ => ∃ b, r = Value.bool b ∧ Q r s₁) E s) : wpAny (model prog w) A (call (.type "bool") [.ref x]) Q E s := by
  refine callType_codes (T := "bool") (Bi := Builtin.«object.__init__») (Q₁ := fun r s₁ => ∃ b, r = Value.bool b ∧ Q r s₁) PySem.F.called_bool (PySem.F.typeCall_bool_1 _) PySem.F.entry_object_init ?_ ?_
  · refine codeAny_of_tree ?_
    show wpAny _ A.in1.in1 (do checkBuiltinCall "bool.__new__" ⟨[.type "bool", .ref x], []⟩; again (.builtin "bool.__new__" ⟨[.type "bool", .ref x], []⟩)) _ _ s
    refine wpAny_bind (wpAny_of_eq (PySem.F.newCall_bool_1 _) (wpAny_pure ⟨plainId_quiet (by decide +kernel) _, codeAny_builtin PySem.F.entry_bool_new ?_⟩))
    rw [Around.under_plainId (by decide +kernel) _]
    have f1 := PySem.F.conv_sub_bool
    have tr : ∀ {R : Bool → Shared → Prop}, (∀ b s₁, Q (.bool b) s₁ → R b s₁) → wpAny (model prog w) A.in1.in1 (truthy (.ref x)) R (fun e s' => wants (fun r s₁ => ∃ b, r = Value.bool b ∧ Q r s₁) E (.error e) s') s := fun {R} k =>
      truthy_own X I hs hf (wpAny_mono h (fun r s₁ ⟨b, e, q⟩ => ⟨b, e, by subst e; exact k b s₁ q⟩) fun _ _ y => y)
    obtain ⟨hp, g, d, tk, os⟩ := s
    repeat (any_goals (first | assumption | (with_reducible refine tr ?_; intro b s₁ q) | wp_step))
    all_goals exact ⟨_, rfl, q⟩
  · rintro obj s₁ ⟨b, rfl, hq⟩
    exact ⟨rfl, PySem.F.args_object_init_2 _ _, object_init_meets PySem.F.called_bool.init.lookup PySem.F.called_bool.made (by decide) prog w A.in1 _ s₁ ⟨rfl, rfl, hq⟩⟩
theorem c_boolO {k : Nat} {C f : Addr} {ps : List Str} {sp : Sp} (M : Meth X.K C "__bool__" f) (h : OkF X.prog X.w X.K X.mg X.base k f ps sp) (hr : Room (k + 2) X.A) : CallR X (.type "bool") (rBoolO C sp) := by
  intro pins s σ H xs us Q I r hh
  obtain ⟨fd, F, B⟩ := h
  obtain ⟨a, dx, fs, rfl, ha, q⟩ := hh
  obtain ⟨u, rfl, ru⟩ := r.one
  cases (show u = Value.ref a from ru)
  obtain ⟨mA, O, _⟩ := ins_get I.hok ha
  obtain ⟨od, J, _⟩ := O.look
  have hr2 : Room k X.A.in1.in1 := (show Room (k + 1) X.A.in1 from Room.in1 hr).in1
  have hl : ([Value.ref a] ++ []).length = ps.length := F.len _ _ _ _ q
  refine bool_own I.kIn J M.at_ M.fn (wpAny_call (codeAny_mono (F.run X.A.in1.in1 X.stack s H ⟨[.ref a], []⟩ [.ref a] [.ref a] _ E0 hr2 I.env0.in1.in1 (B s [.ref a] I.kIn hl) (.cons rfl .nil) q) fun r s' hq => ?_))
  cases r with
  | error e => exact False.elim hq
  | ok fl =>
    cases fl with
    | ret u =>
      obtain ⟨v, H', I', rv, b, ev, qq⟩ := I.after hq
      subst ev
      cases (show u = Value.bool b from rv)
      exact ⟨b, rfl, .bl b, H', I', rfl, qq⟩
    | next => exact False.elim hq
    | brk => exact False.elim hq
    | cont => exact False.elim hq
theorem rd_boolO {C : Addr} {sp : Sp} {H : Hp} {Q : VK} {a dx : Addr} {fs : List (Str × V)} (h : H a = some (.ins C dx fs)) (q : sp [.ref a] H (fun v H' => ∃ b, v = .bl b ∧ Q v H') E0) : rBoolO C sp [.ref a] H Q := ⟨a, dx, fs, rfl, h, q⟩
/-- C.m(e, ..), m a static method -/
def tStat (C : Addr) (sp : Sp) (ta : TE) (t : TA) : TE := fun σ H Q => ta σ H fun x H1 => x = .ref C ∧ t σ H1 fun vs H2 => sp vs H2 Q E0
theorem pe_stat {pl : Sem Bool} {k : Nat} {C p f : Addr} {m : Str} {ps : List Str} {sp : Sp} {o e : Expr} {es : List Expr} {ta : TE} {t : TA} {apos pos : Pos} (ho : PE X o ta) (r : ClX.CRead X.K C (.type "type")) (at_ : PySem.W.findCls X.K (.ref C) (.type "type") m = some (.get (.builtin "staticmethod.__get__") (.ref p) .none (.ref C)))
    (rc : ∃ rest, PySem.W.recIn X.K p "staticmethod" = some (.ref f :: rest)) (kp : PySem.W.keepIn X.K (.ref f) = true) (h : OkF X.prog X.w X.K X.mg X.base k f ps sp) (hr : Room k X.A) (ha : PA X (e :: es) t)
    (hst : starEach (e :: es) X.env = (false, eval e X.env) :: starEach es X.env := by rfl) (hpl : (backTo pos (starEach es X.env)).any (·.1) = false := by rfl)
    (ht : eval (.Call (.Attribute o m apos) (e :: es) [] pos) X.env = (do let ov ← eval o X.env; standAt apos.atName; let (f, first) ← holding [ov] (getMethod ov m pl); callWith pos f first (backTo pos (starEach (e :: es) X.env)) (backToKw pos (keywordEach [] X.env))) := by rfl) :
    PE X (.Call (.Attribute o m apos) (e :: es) [] pos) (tStat C sp ta t) := by
  obtain ⟨fd, F, B⟩ := h
  obtain ⟨rest, hp⟩ := rc
  refine ⟨fun pins s σ H Q I hh => ?_⟩
  refine PySem.W.methodCall_KW (pl := pl) (thn (ho.run pins s σ H _ I hh) fun u s1 ⟨x, H1, I1, rx, ex, q⟩ => ?_) ht
  subst ex
  obtain rfl : u = Value.ref C := rx
  have I2 := I1.tok (s1.toks + 1)
  refine PySem.W.method_cls I1.kIn r.ga (PySem.W.cls_bind I1.kIn r.rd at_ (wpAny_call (PySem.W.sm_get (s := { s1 with toks := s1.toks + 1 }) I1.kIn hp (PySem.W.handed_on rfl ?_))))
  refine PySem.W.callWith_K (h₀ := X.base) I2.ok.mod.kin kp (thn (ha.run pos pins _ σ H1 _ I2 q) fun us s3 ⟨vs, H2, I3, rv, q2⟩ => ⟨I3.kIn, ?_⟩) hst hpl
  exact run_fn F hr B .nil pass0 I3 rv (by rw [List.append_nil]; exact q2)
theorem rd_stat {C : Addr} {sp : Sp} {ta : TE} {t : TA} {σ : L2.St} {H : Hp} {Q : VK} (h : ta σ H fun x H1 => x = .ref C ∧ t σ H1 fun vs H2 => sp vs H2 Q E0) : tStat C sp ta t σ H Q := h
/-! ### constructors -/
def MkB (C : Addr) (n m : Nat) (sp : Sp) (gV : List V → List V → List V) (vs zs : List V) (H : Hp) (Q : VK) : Prop := vs.length = n ∧ zs.length = m ∧ ∀ x dx, H x = none → H dx = none → dx ≠ x → sp (gV (.ref x :: vs) zs) (upd (upd H dx (.own x)) x (.ins C dx [])) (fun v H3 => v = .non ∧ Q (.ref x) H3) E0
def MkB0 (C : Addr) (sp : Sp) (dvs vs : List V) (H : Hp) (Q : VK) : Prop := ∀ x dx, H x = none → H dx = none → dx ≠ x → sp (.ref x :: (vs ++ dvs)) (upd (upd H dx (.own x)) x (.ins C dx [])) (fun v H3 => v = .non ∧ Q (.ref x) H3) E0
/-- C(e, .., k = v, ..) -/
def OkC (P : Program) (w : World) (K : PySem.W.Frag) (mg : Str → Option Value) (base : Heap) (k : Nat) (C f : Addr) (ps : List Str) (n : Nat) (ks : List Str) (gV : List V → List V → List V) (sp : Sp) : Prop :=
  ∃ fd g, FnOk P w K mg base CX0 k f fd ps sp ∧ KBn K fd ps (n + 1) ks g gV
theorem pe_oc {k n : Nat} {x : Str} {C f : Addr} {ps ks : List Str} {gV : List V → List V → List V} {sp : Sp} {e : Expr} {es : List Expr} {kws : List Keyword} {t tk : TA} {p pos : Pos} (M : Mk X.K C f) (h : OkC X.prog X.w X.K X.mg X.base k C f ps n ks gV sp) (hr : Room (k + 1) X.A) (hg : Gl X x) (hm : X.mg x = some (.ref C)) (ha : PA X (e :: es) t) (hkw : PK X kws tk)
    (hall : (backToKw pos (keywordEach kws X.env)).all (·.1.isSome) = true := by rfl) (hks : (backToKw pos (keywordEach kws X.env)).filterMap (·.1) = ks := by rfl) (hdb : (x == ("__debug__" : Str)) = false := by decide)
    (he : starEach (e :: es) X.env = (false, eval e X.env) :: starEach es X.env := by rfl) (hpl : ((backTo pos (starEach (e :: es) X.env)).any (·.1) || (backToKw pos (keywordEach kws X.env)).any (·.1.isNone)) = false := by rfl) :
    PE X (.Call (.Name x p) (e :: es) kws pos) (tMakeK C n ks.length sp gV E0 t tk) := by
  obtain ⟨fd, g, F, hb⟩ := h
  exact pe_makeK M F hr hg hm hb pass0 ha hkw hall hks hdb he hpl
theorem rd_makeK {C : Addr} {n m : Nat} {sp : Sp} {gV : List V → List V → List V} {t tk : TA} {σ : L2.St} {H : Hp} {Q : VK} (h : t σ H fun vs H1 => tk σ H1 fun zs H2 => MkB C n m sp gV vs zs H2 Q) : tMakeK C n m sp gV E0 t tk σ H Q := h
/-- C(e, ..), defaults behind -/
def OkC0 (P : Program) (w : World) (K : PySem.W.Frag) (mg : Str → Option Value) (base : Heap) (k : Nat) (f : Addr) (ps : List Str) (dvs : List V) (sp : Sp) : Prop :=
  ∃ fd ds, FnOk P w K mg base CX0 k f fd ps sp ∧ Binds K fd ps ds ∧ Vals dvs ds
theorem pe_oc0 {k : Nat} {x : Str} {C f : Addr} {ps : List Str} {dvs : List V} {sp : Sp} {e : Expr} {es : List Expr} {t : TA} {p pos : Pos} (M : Mk X.K C f) (h : OkC0 X.prog X.w X.K X.mg X.base k f ps dvs sp) (hr : Room (k + 1) X.A) (hg : Gl X x) (hm : X.mg x = some (.ref C)) (ha : PA X (e :: es) t)
    (hdb : (x == ("__debug__" : Str)) = false := by decide) (he : starEach (e :: es) X.env = (false, eval e X.env) :: starEach es X.env := by rfl) (hpl : (backTo pos (starEach es X.env)).any (·.1) = false := by rfl) :
    PE X (.Call (.Name x p) (e :: es) [] pos) (tMake C sp dvs E0 t) := by
  obtain ⟨fd, ds, F, hb, hd⟩ := h
  exact pe_make M F hr hg hm hb hd pass0 ha (hdb := hdb) (he := he) (hpl := hpl)
theorem rd_make {C : Addr} {sp : Sp} {dvs : List V} {t : TA} {σ : L2.St} {H : Hp} {Q : VK} (h : t σ H fun vs H1 => MkB0 C sp dvs vs H1 Q) : tMake C sp dvs E0 t σ H Q := h
end classes
/-! ## great ints, while, fields -/
section sizes
/-- i has at most n bits -/
def W (n : Nat) (i : Int) : Prop := i.natAbs < 2 ^ n
variable {a b : Nat} {i j : Int}
theorem W.mono (h : W a i) (l : a ≤ b) : W b i := Nat.lt_of_lt_of_le h (Nat.pow_le_pow_right (by decide) l)
theorem W.le (h : W a j) (l : i.natAbs ≤ j.natAbs) : W a i := Nat.lt_of_le_of_lt l h
theorem W.mul (ha : W a i) (hb : W b j) : W (a + b) (i * j) := wide_lt ha hb
theorem W.add (ha : W a i) (hb : W a j) : W (a + 1) (i + j) := by
  unfold W at *
  have : (2 : Nat) ^ (a + 1) = 2 ^ a * 2 := Nat.pow_succ ..
  omega
theorem W.sub (ha : W a i) (hb : W a j) : W (a + 1) (i - j) := by
  unfold W at *
  have : (2 : Nat) ^ (a + 1) = 2 ^ a * 2 := Nat.pow_succ ..
  omega
theorem W.neg (ha : W a i) : W a (-i) := ha.le (by omega)
theorem W.fdiv (ha : W a i) (j : Int) : W a (i.fdiv j) := ha.le (Int.natAbs_fdiv_le_natAbs i j)
theorem W.log (h : W a i) (h9 : a ≤ 9000) (h0 : 0 < a := by decide) : i.natAbs.log2 < 9000 := Nat.lt_of_lt_of_le (PySem.Flt.log2_lt_of h0 h) h9
theorem W.mulx (ha : W a i) (hb : W b j) (h : a + b ≤ 100000 := by decide) : CMulX i j := mulx_ok ha hb (by omega)
theorem W.small (h : i.natAbs < 1073741824) : W 30 i := h
end sizes
/-- // by a divisor that is not zero -/
def CDivG (_ j : Int) : Prop := j ≠ 0 ∧ j.natAbs.log2 < 9000
section
variable {X : Cx}
theorem op_fdivG : OpR X (binaryOp .FloorDiv) (rI CDivG fun i j => .int (i.fdiv j)) := opI fun i j _ _ _ _ _ hc q => floordiv_int hc.1 q (.inl (PyProof.noPylong_of_log2 hc.2))
end
section
variable {K : PySem.W.Frag} {σ : L2.St} {H : Hp} {Q : VK} {ta tv : TE} {f : Str} {D : Ends}
theorem rd_bits (h : ta σ H fun x H1 => ∃ i, x = .int i ∧ Q (.int (Builtin.Int.intBits i : Nat)) H1) : tBits ta σ H Q := h
def rShl1 : R2 := fun x y H Q => ∃ k : Nat, x = .int 1 ∧ y = .int (k : Int) ∧ k ≤ 134217727 ∧ Q (.int (2 ^ k)) H
theorem op_shl1 {X : Cx} : OpR X (binaryOp .LShift) rShl1 := op_oneShl
theorem rd_shl1 {k : Int} (h : 0 ≤ k) (h2 : k ≤ 134217727) (q : Q (.int (2 ^ k.toNat)) H) : rShl1 (.int 1) (.int k) H Q := ⟨k.toNat, rfl, by rw [Int.toNat_of_nonneg h], by omega, q⟩
theorem rd_in {x : V} {p : Addr} {xs : List V} (h : SqT K H p xs) (fx : flatV x = true) (fs : xs.all flatV = true) (q : Q (.bl (inV x xs)) H) : rIn K false x (.ref p) H Q := ⟨p, xs, rfl, .inr h, fx, fs, q⟩
def SfB (K : PySem.W.Frag) (f : Str) (D : Ends) (σ : L2.St) (y x : V) (H2 : Hp) : Prop := ∃ a C dx fs, x = .ref a ∧ H2 a = some (.ins C dx fs) ∧ Cls K C ∧ NoAttr K C f ∧ fs.length < 1000 ∧ D.nx σ (upd H2 a (.ins C dx (putF f y fs)))
theorem rd_sFld (h : tv σ H fun y H1 => ta σ H1 fun x H2 => SfB K f D σ y x H2) : sFld K ta tv f D σ H := h
theorem rd_sfB {a C dx : Addr} {fs : List (Str × V)} {y : V} (h : H a = some (.ins C dx fs)) (c : Cls K C) (n : NoAttr K C f) (l : fs.length < 1000) (q : ∀ H2, Chg a H H2 → H2 a = some (.ins C dx (putF f y fs)) → D.nx σ H2) : SfB K f D σ y (.ref a) H := ⟨a, C, dx, fs, rfl, h, c, n, l, q _ Chg.of upd_same⟩
end
theorem rd_nT {A B : Prop} (h : B) : if (!true) = true then A else B := iteF h
theorem rd_nF {A B : Prop} (h : A) : if (!false) = true then A else B := iteT h
theorem rd_gNameS {i : Nat} {v : V} {σ σ' : L2.St} {H : Hp} {N : L2.St → Hp → Prop} (hs : σ.set i (some v) = σ') (q : N σ' H) : gName i v σ H N := by
  subst hs
  exact q
theorem rd_parS {i j : Nat} {v w : V} {σ σ' : L2.St} {H : Hp} {N : L2.St → Hp → Prop} (hs : (σ.set i (some v)).set j (some w) = σ') (h : N σ' H) : ParB i j [v, w] N σ H := by
  subst hs
  exact ⟨v, w, rfl, h⟩
/-! ## a dict of the module: ints to tuples of ints -/
section idict
open PySem.W (Frag)
def tupAt (K : Frag) (a : Addr) (vs : List Int) : Bool := match K.lookup a with
  | some ⟨.type c, _, .seq its _, _⟩ => decide (c = "tuple") && (decide (its.size ≤ sizeLine) && He.relAll (vs.map V.int) its.toList)
  | _ => false
theorem tupAt_ok {K : Frag} {a : Addr} {vs : List Int} (h : tupAt K a vs = true) (H : Hp) : SqT K H a (vs.map V.int) := by
  unfold tupAt at h
  cases q : K.lookup a with
  | none =>
    rw [q] at h
    cases h
  | some o =>
    obtain ⟨oc, od, dt, osl⟩ := o
    rw [q] at h
    cases oc with
    | type c =>
      cases dt with
      | seq its n =>
        obtain ⟨h1, h2⟩ := He.ba (show (decide (c = "tuple") && (decide (its.size ≤ sizeLine) && He.relAll (vs.map V.int) its.toList)) = true from h)
        obtain ⟨h3, h4⟩ := He.ba h2
        exact .inr ⟨_, its, n, q, congrArg Value.type (of_decide_eq_true h1), rfl, of_decide_eq_true h3, He.relAll_ok h4⟩
      | _ => cases h
    | _ => cases dt <;> cases h
def rowB (K : Frag) (e : DictEntry) (k : Int) (vs : List Int) : Bool := match e.key, e.val with
  | .int j _, .ref a => decide (j = k) && (decide (e.hash = hashInt k) && tupAt K a vs)
  | _, _ => false
def rowsB (K : Frag) : List DictEntry → List (Int × List Int) → Bool
  | [], [] => true
  | e :: es, q :: r => rowB K e q.1 q.2 && rowsB K es r
  | _, _ => false
def idctB (x : Str) (kvs : List (Int × List Int)) (K : Frag) : Bool := match K.lookup (He.ga K x) with
  | some ⟨.type c, none, .dict es _, sl⟩ => decide (c = "dict") && (sl.isEmpty && rowsB K es.toList kvs)
  | _ => false
theorem rowB_ok {K : Frag} {e : DictEntry} {k : Int} {vs : List Int} (h : rowB K e k vs = true) : ∃ t a, e.key = .int k t ∧ e.hash = hashInt k ∧ e.val = .ref a ∧ ∀ H, SqT K H a (vs.map V.int) := by
  obtain ⟨hh, key, val⟩ := e
  unfold rowB at h
  cases key with
  | int j t =>
    cases val with
    | ref a =>
      obtain ⟨h1, h2⟩ := He.ba (show (decide (j = k) && (decide (hh = hashInt k) && tupAt K a vs)) = true from h)
      obtain ⟨h3, h4⟩ := He.ba h2
      cases of_decide_eq_true h1
      exact ⟨t, a, rfl, of_decide_eq_true h3, rfl, tupAt_ok h4⟩
    | _ => cases h
  | _ => cases val <;> cases h
/-- d[k] is the tuple at u, which holds vs -/
def IGet (K : Frag) (p : Addr) (k : Int) (vs : List Int) (u : Addr) : Prop := ∃ es n, K.lookup p = some ⟨.type "dict", none, .dict es n, #[]⟩ ∧ (∀ e ∈ es.toList, ∃ j t, e.key = .int j t ∧ e.hash = hashInt j) ∧ findBy Value.isInt es k = some (.ref u) ∧ ∀ H, SqT K H u (vs.map V.int)
theorem rows_keys {K : Frag} : ∀ {es : List DictEntry} {kvs : List (Int × List Int)}, rowsB K es kvs = true → ∀ e ∈ es, ∃ j t, e.key = .int j t ∧ e.hash = hashInt j
  | e :: es, q :: r, h, x, hx => by
    obtain ⟨h1, h2⟩ := He.ba (show (rowB K e q.1 q.2 && rowsB K es r) = true from h)
    cases hx with
    | head =>
      obtain ⟨t, a, e1, e2, _⟩ := rowB_ok h1
      exact ⟨_, t, e1, e2⟩
    | tail _ hx => exact rows_keys h2 x hx
theorem rows_find {K : Frag} {k : Int} {vs : List Int} : ∀ {es : List DictEntry} {kvs : List (Int × List Int)}, rowsB K es kvs = true → kvs.lookup k = some vs → ∃ u, (es.find? fun e => Value.isInt k e.key).map (·.val) = some (.ref u) ∧ ∀ H, SqT K H u (vs.map V.int)
  | [], [], _, hl => by cases hl
  | e :: es, q :: r, h, hl => by
    obtain ⟨h1, h2⟩ := He.ba (show (rowB K e q.1 q.2 && rowsB K es r) = true from h)
    obtain ⟨t, a, e1, e2, e3, e4⟩ := rowB_ok h1
    obtain ⟨q1, q2⟩ := q
    by_cases z : k = q1
    · subst z
      have : q2 = vs := by
        have : some q2 = some vs := by
          rw [← hl]
          simp [List.lookup]
        injection this
      subst this
      refine ⟨a, ?_, e4⟩
      rw [List.find?_cons_of_pos (by rw [e1]; simp [Value.isInt])]
      rw [← e3] <;> rfl
    · have hl2 : r.lookup k = some vs := by
        rw [← hl]
        have : (k == q1) = false := by simp [z]
        simp [List.lookup, this]
      obtain ⟨u, f1, f2⟩ := rows_find h2 hl2
      refine ⟨u, ?_, f2⟩
      rw [List.find?_cons_of_neg (by rw [e1]; simp [Value.isInt]; omega)]
      exact f1
theorem idctB_ok {K : Frag} {x : Str} {kvs : List (Int × List Int)} (h : idctB x kvs K = true) : ∀ k vs, kvs.lookup k = some vs → ∃ u, IGet K (He.ga K x) k vs u := by
  intro k vs hl
  unfold idctB at h
  cases q : K.lookup (He.ga K x) with
  | none =>
    rw [q] at h
    cases h
  | some o =>
    obtain ⟨oc, od, dt, osl⟩ := o
    rw [q] at h
    cases oc with
    | type c =>
      cases od with
      | none =>
        cases dt with
        | dict es n =>
          obtain ⟨h1, h2⟩ := He.ba (show (decide (c = "dict") && (osl.isEmpty && rowsB K es.toList kvs)) = true from h)
          obtain ⟨h3, h4⟩ := He.ba h2
          cases of_decide_eq_true h1
          have h5 : osl = #[] := Array.isEmpty_iff.mp h3
          cases h5
          obtain ⟨u, f1, f2⟩ := rows_find h4 hl
          refine ⟨u, es, n, q, rows_keys h4, ?_, f2⟩
          obtain ⟨l⟩ := es
          unfold findBy
          rw [List.find?_toArray]
          exact f1
        | _ => cases h
      | some a => cases dt <;> cases h
    | _ => cases od <;> cases dt <;> cases h
def rIxI (K : Frag) : R2 := fun x y H Q => ∃ p k vs u, x = .ref p ∧ y = .int k ∧ IGet K p k vs u ∧ Q (.ref u) H
theorem ix_idict {X : Cx} : IxR X (rIxI X.K) := by
  intro value slice pins s σ H x y v u Q I rx ry h hs
  obtain ⟨p, k, vs, r, rfl, rfl, ⟨es, n, hl, hk, hf, _⟩, q⟩ := h
  obtain rfl : v = Value.ref p := rx
  obtain ⟨t, rfl⟩ := ry
  have hm : s.heap.MapOf (intKind X.prog X.w) p (fun k => findBy Value.isInt es k) := ⟨_, es, n, I.kIn _ _ hl, ⟨rfl, rfl, rfl⟩, rfl, fun e he => by
    obtain ⟨j, t, e1, e2⟩ := hk e (Array.mem_toList_iff.mpr he)
    exact ⟨j, by rw [e1]; exact intKind_is X.prog X.w j t, e2⟩, fun _ => rfl⟩
  exact tail_any hm.typeIs slot_dict_getitem.lookup (wpAny_getItem_of (intKind_is X.prog X.w k t) hm hf ⟨.ref r, H, I.tok _, rfl, q⟩) hs
theorem rd_ixI {K : Frag} {p u : Addr} {k : Int} {vs : List Int} {H : Hp} {Q : VK} (h : IGet K p k vs u) (q : Q (.ref u) H) : rIxI K (.ref p) (.int k) H Q := ⟨p, k, vs, u, rfl, rfl, h, q⟩
end idict
def top (i : Nat) : Stmt := PySem.Challenge.pw_rootfloor_k31_texts_of_sayings.main.body.getD i (.Pass ⟨0, 0, 0, 0⟩)
abbrev s_numerator_text : Stmt := top 1
abbrev s_slope_text : Stmt := top 2
abbrev s_thing_text : Stmt := top 6
abbrev s_signed : Stmt := top 7
abbrev s_term_text : Stmt := top 8
abbrev s_saying_text : Stmt := top 9
abbrev s_law_bag : Stmt := top 11
abbrev s_law_pull : Stmt := top 12
abbrev s_law_of : Stmt := top 13
abbrev s_law_same : Stmt := top 14
abbrev s_law_any_slope : Stmt := top 15
abbrev s_law_any_name : Stmt := top 16
abbrev s_law_any_term : Stmt := top 17
abbrev s_law_any_atom : Stmt := top 18
abbrev s_law_any_saying : Stmt := top 19
abbrev s_law_saying : Stmt := top 20
abbrev s_law_inner : Stmt := top 21
abbrev s_law_parts : Stmt := top 22
abbrev s_law_step_text : Stmt := top 23
abbrev s_law_thing_text : Stmt := top 24
abbrev s_law_term_text : Stmt := top 25
abbrev s_law_text : Stmt := top 26
abbrev s_law : Stmt := top 27
def d_numerator_text : He5.DefA := ⟨fun K => He.ga K "numerator_text", "numerator_text", "numerator_text", defArgs s_numerator_text, defBody s_numerator_text, defScope s_numerator_text, [], []⟩
def d_slope_text : He5.DefA := ⟨fun K => He.ga K "slope_text", "slope_text", "slope_text", defArgs s_slope_text, defBody s_slope_text, defScope s_slope_text, [], []⟩
def d_thing_text : He5.DefA := ⟨fun K => He.ga K "thing_text", "thing_text", "thing_text", defArgs s_thing_text, defBody s_thing_text, defScope s_thing_text, [], []⟩
def d_signed : He5.DefA := ⟨fun K => He.ga K "signed", "signed", "signed", defArgs s_signed, defBody s_signed, defScope s_signed, [], []⟩
def d_term_text : He5.DefA := ⟨fun K => He.ga K "term_text", "term_text", "term_text", defArgs s_term_text, defBody s_term_text, defScope s_term_text, [], []⟩
def d_saying_text : He5.DefA := ⟨fun K => He.ga K "saying_text", "saying_text", "saying_text", defArgs s_saying_text, defBody s_saying_text, defScope s_saying_text, [], []⟩
def d_law_bag : He5.DefA := ⟨fun K => He.ga K "_law_bag", "_law_bag", "_law_bag", defArgs s_law_bag, defBody s_law_bag, defScope s_law_bag, [], []⟩
def d_law_pull : He5.DefA := ⟨fun K => He.ga K "_law_pull", "_law_pull", "_law_pull", defArgs s_law_pull, defBody s_law_pull, defScope s_law_pull, [], []⟩
def d_law_of : He5.DefA := ⟨fun K => He.ga K "_law_of", "_law_of", "_law_of", defArgs s_law_of, defBody s_law_of, defScope s_law_of, [], []⟩
def d_law_same : He5.DefA := ⟨fun K => He.ga K "_law_same", "_law_same", "_law_same", defArgs s_law_same, defBody s_law_same, defScope s_law_same, [], []⟩
def d_law_any_slope : He5.DefA := ⟨fun K => He.ga K "_law_any_slope", "_law_any_slope", "_law_any_slope", defArgs s_law_any_slope, defBody s_law_any_slope, defScope s_law_any_slope, [], []⟩
def d_law_any_name : He5.DefA := ⟨fun K => He.ga K "_law_any_name", "_law_any_name", "_law_any_name", defArgs s_law_any_name, defBody s_law_any_name, defScope s_law_any_name, [], []⟩
def d_law_any_term : He5.DefA := ⟨fun K => He.ga K "_law_any_term", "_law_any_term", "_law_any_term", defArgs s_law_any_term, defBody s_law_any_term, defScope s_law_any_term, [], []⟩
def d_law_any_atom : He5.DefA := ⟨fun K => He.ga K "_law_any_atom", "_law_any_atom", "_law_any_atom", defArgs s_law_any_atom, defBody s_law_any_atom, defScope s_law_any_atom, [], []⟩
def d_law_any_saying : He5.DefA := ⟨fun K => He.ga K "_law_any_saying", "_law_any_saying", "_law_any_saying", defArgs s_law_any_saying, defBody s_law_any_saying, defScope s_law_any_saying, [], []⟩
def d_law_saying : He5.DefA := ⟨fun K => He.ga K "_law_saying", "_law_saying", "_law_saying", defArgs s_law_saying, defBody s_law_saying, defScope s_law_saying, [], []⟩
def d_law_inner : He5.DefA := ⟨fun K => He.ga K "_law_inner", "_law_inner", "_law_inner", defArgs s_law_inner, defBody s_law_inner, defScope s_law_inner, [], []⟩
def d_law_parts : He5.DefA := ⟨fun K => He.ga K "_law_parts", "_law_parts", "_law_parts", defArgs s_law_parts, defBody s_law_parts, defScope s_law_parts, [], []⟩
def d_law_step_text : He5.DefA := ⟨fun K => He.ga K "_law_step_text", "_law_step_text", "_law_step_text", defArgs s_law_step_text, defBody s_law_step_text, defScope s_law_step_text, [], []⟩
def d_law_thing_text : He5.DefA := ⟨fun K => He.ga K "_law_thing_text", "_law_thing_text", "_law_thing_text", defArgs s_law_thing_text, defBody s_law_thing_text, defScope s_law_thing_text, [], []⟩
def d_law_term_text : He5.DefA := ⟨fun K => He.ga K "_law_term_text", "_law_term_text", "_law_term_text", defArgs s_law_term_text, defBody s_law_term_text, defScope s_law_term_text, [], []⟩
def d_law_text : He5.DefA := ⟨fun K => He.ga K "_law_text", "_law_text", "_law_text", defArgs s_law_text, defBody s_law_text, defScope s_law_text, [], []⟩
def d_law : He5.DefA := ⟨fun K => He.ga K "law", "law", "law", defArgs s_law, defBody s_law, defScope s_law, [], []⟩
def fn : List He5.DefA := [d_numerator_text, d_slope_text, d_thing_text, d_signed, d_term_text, d_saying_text, d_law_bag, d_law_pull, d_law_of, d_law_same, d_law_any_slope, d_law_any_name, d_law_any_term, d_law_any_atom, d_law_any_saying, d_law_saying, d_law_inner, d_law_parts, d_law_step_text, d_law_thing_text, d_law_term_text, d_law_text, d_law]
def fa : List He.Fa := [.glo "numerator_text",
  .glo "slope_text",
  .glo "thing_text",
  .glo "signed",
  .glo "term_text",
  .glo "saying_text",
  .glo "_law_bag",
  .glo "_law_pull",
  .glo "_law_of",
  .glo "_law_same",
  .glo "_law_any_slope",
  .glo "_law_any_name",
  .glo "_law_any_term",
  .glo "_law_any_atom",
  .glo "_law_any_saying",
  .glo "_law_saying",
  .glo "_law_inner",
  .glo "_law_parts",
  .glo "_law_step_text",
  .glo "_law_thing_text",
  .glo "_law_term_text",
  .glo "_law_text",
  .glo "law",
  .free "abs",
  .free "all",
  .free "bool",
  .free "enumerate",
  .free "int",
  .free "isinstance",
  .free "len",
  .free "list",
  .free "range",
  .free "str",
  .free "tuple",
  .free "zip",
  .glo "BINDERS",
  .glo "GROUPS"]
def ex : List (PySem.W.Frag → Bool) := [fun K => He.tupB K "BINDERS" [.str "some", .str "all"],
  fun K => He.tupB K "GROUPS" [.str "and", .str "or"]]
def names : List PySem.Str := (["BINDERS", "GROUPS", "numerator_text", "slope_text", "thing_text", "signed", "term_text", "saying_text", "_law_bag", "_law_pull", "_law_of", "_law_same", "_law_any_slope", "_law_any_name", "_law_any_term"] : List PySem.Str) ++ (["_law_any_atom", "_law_any_saying", "_law_saying", "_law_inner", "_law_parts", "_law_step_text", "_law_thing_text", "_law_term_text", "_law_text"] : List PySem.Str)
abbrev R : PySem.W.OpenRow := PySem.W.OpenLaw.row PySem.Challenge.rw_rootfloor_k31_texts_of_sayings
abbrev hk : PySem.W.Hook := hookY 5 fa fn ex
def ob (s : PySem.W.SharedT) : AlY := obsY 5 fa fn ex (HandSHeadRun.getT s)
theorem ob_eq (s : PySem.W.SharedT) : ob s = hk.obs s.abs := obsY_eq (HandSHeadRun.getT_eq s)

theorem run (w : World) : HandSHeadRun.RunEq R (PySem.W.view R.prog [27]) hk ob 4000 names w := by
  intro os
  kernel_rfl
/-! ## max of a tuple of ints -/
section maxt
theorem max_tupRaw {prog : Program} {w : World} {A : Around} {E : Value → Shared → Prop} {s : Shared} {l : Addr} {its : List Value} {ns : List Int} {Q : Value → Shared → Prop} (hh : A.handled = none) (hl : s.heap.IsTuple l its.toArray) (hi : IntsAre its ns) (hne : 0 < ns.length)
    (h : ∀ h' tk M t', (∀ b o, s.heap.get? b = some o → h'.get? b = some o) → M ∈ ns → (∀ a, a ∈ ns → a ≤ M) → Q (.int M t') { s with heap := h', toks := tk }) : wpAny (model prog w) A (call (.builtin "max") [.ref l]) Q E s := by
  obtain ⟨xs, e⟩ := hi.allInts.items
  have hn : numsOf (intItems xs).toList = ns := by rw [← e]; exact hi.numsOf
  rw [nums_intItems] at hn
  subst hn
  rw [e] at hl
  have hsz : 0 < xs.size := by simpa using hne
  have hlt : l < s.heap.objs.size := by obtain ⟨_, e, _⟩ := hl; exact Heap.lt_size e
  have hfp : ∀ b ∈ [s.heap.objs.size, l], b < (s.heap.push { cls := .type "tuple_iterator", data := .fields #[.ref l, .int 0 0] }).objs.size := fun b hb => by
    rw [Heap.size_push]
    rcases List.mem_cons.mp hb with rfl | hb
    · exact Nat.lt_succ_self _
    · rcases List.mem_cons.mp hb with rfl | hb
      · exact Nat.lt_succ_of_lt hlt
      · cases hb
  refine PySem.call_max_walk (wpAny_pyIter_tuple hl ?_)
  refine ⟨_, _, _, _, _, _, _, rfl, Walks.tuple (A := A.in1) hh _ l (Nat.ne_of_lt hlt) (intItems xs), ⟨⟨_, Heap.get?_push_size _ rfl, rfl, rfl⟩, hl.push _⟩, hfp, by simpa [intItems] using hsz, CmpOf.ints_gt (numAt xs) (fun _ _ => intItems_at), fun v h' tk hP hk => ?_⟩
  have hv : (intItems xs)[argBest (fun i j => decide (numAt xs i > numAt xs j)) (xs.size - 1)]? = some v := by simpa [intItems] using hP
  obtain ⟨t, rfl⟩ := intItems_at hv
  obtain ⟨h1, h2⟩ := argBest_gt (numAt xs) (xs.size - 1)
  refine h h' tk _ t (fun b o e => ?_) ?_ fun a ha => ?_
  · refine hk b o (fun hm => ?_) (Heap.get?_push_of_some _ e)
    rcases List.mem_cons.mp hm with e1 | hm
    · exact absurd (e1 ▸ Heap.lt_size e) (Nat.lt_irrefl _)
    · cases hm
  · rw [numAt_eq]; exact PySem.getD_mem (by rw [List.length_map, Array.length_toList]; omega)
  · obtain ⟨j, hj, rfl⟩ := mem_getD ha
    rw [List.length_map, Array.length_toList] at hj
    rw [← numAt_eq]; exact h2 j (by omega)
def rMaxT (K : PySem.W.Frag) : List V → Hp → VK → Prop := fun vs H Q => ∃ (a : Addr) (ns : List Int), vs = [V.ref a] ∧ SqT K H a (ns.map V.int) ∧ 0 < ns.length ∧ ∀ m, m ∈ ns → (∀ y, y ∈ ns → y ≤ m) → Q (.int m) H
theorem cr_maxT {X : Cx} (hc : X.calm = true) : CallR X (.builtin "max") (rMaxT X.K) := by
  intro pins s σ H vs us Q I r h
  obtain ⟨a, ns, rfl, hs, hne, q⟩ := h
  obtain ⟨its, rv, hl, _⟩ := I.tuple hs
  rw [Vals.ref1 r]
  exact max_tupRaw (I.ok.hd hc) hl rv.ints hne fun h' tk m t' hk h1 h2 => ⟨.int _, H, I.kept hk, ⟨_, rfl⟩, q m h1 h2⟩
end maxt
theorem units1 {n : Nat} (h : n + 64 < cLine) : n + 1 < cLine := Nat.lt_of_le_of_lt (by omega) h
/-! ## terms, in plain Lean -/
section terms
def isIntD : PyData → Bool
  | .int _ => true
  | _ => false
theorem isIntD_eq (d : PyData) : isIntD d = (isA "int" d && !isA "bool" d) := by
  rw [isA_int, isA_bool]
  cases d <;> rfl
def withinD (d : PyData) (lo hi : Int) : Bool := match d with
  | .int i => decide (lo ≤ i) && decide (i ≤ hi)
  | _ => false
def slopeD (d : PyData) : Bool := match d with
  | .tuple [a, b, c] => withinD a (-9) 9 && withinD b (-3) 3 && withinD c 1 4
  | _ => false
def words : List Str := ["all", "and", "not", "or", "r"]
def letters : Str := "abcdefghijklmnopqrstuvwxyz"
def varS (x : Str) : Bool := decide ((1 : Int) ≤ x.length) && decide ((x.length : Int) ≤ 3) && !inV (.str x) (words.map V.str) && x.cps.toList.all fun c => decide (c ∈ letters.cps.toList)
def varD (d : PyData) : Bool := match d with
  | .str x => varS x
  | _ => false
def floorD (rec : PyData → Bool) (d : PyData) : Bool := match d with
  | .tuple [.str w, s, t] => decide (w = "floor") && slopeD s && rec t
  | _ => false
def itemD (rec : PyData → Bool) (d : PyData) : Bool := match d with
  | .tuple [.int f, x] => decide (-9 ≤ f) && decide (f ≤ 9) && decide (f ≠ 0) && (varD x || floorD rec x)
  | _ => false
def termF (rec : PyData → Bool) (d : PyData) : Bool := match d with
  | .tuple [.tuple its, c] => decide (its.length ≤ 4) && withinD c (-1000) 1000 && its.all (itemD rec)
  | _ => false
def termD : Nat → PyData → Bool
  | 0 => termF fun _ => false
  | n + 1 => termF (termD n)
end terms
def spInteger : Sp := fun vs H Q _ => ∃ (n : Nat) (v : V) (d : PyData), vs = [v] ∧ Dn n H v d ∧ Q (.bl (isIntD d)) H
def spWithin : Sp := fun vs H Q _ => ∃ (n : Nat) (v : V) (d : PyData) (lo hi : Int), vs = [v, .int lo, .int hi] ∧ Dn n H v d ∧ Q (.bl (withinD d lo hi)) H
/-- a test of a datum of depth at most 60 that changes nothing -/
def spTest (f : PyData → Bool) : Sp := fun vs H Q _ => ∃ (n : Nat) (v : V) (d : PyData), n ≤ 60 ∧ vs = [v] ∧ Dn n H v d ∧ ∀ H', Same H H' → Q (.bl (f d)) H'
def spTestN (k : Nat) (f : PyData → Bool) : Sp := fun vs H Q _ => ∃ (n : Nat) (v : V) (d : PyData), n ≤ 60 ∧ vs = [v, .int (k : Int)] ∧ Dn n H v d ∧ ∀ H', Same H H' → Q (.bl (f d)) H'
theorem all_lst {K : PySem.W.Frag} {H : Hp} {Q : VK} {p : Addr} {xs : List V} {bs : List Bool} (h : H p = some (.lst xs)) (e : xs = bs.map V.bl) (q : Q (.bl (bs.all id)) H) : rAll K [.ref p] H Q := ⟨p, bs, rfl, sqL_of (e ▸ h), q⟩
theorem range_map {α β : Type} (l : List α) (f : α → β) (d : α) : (List.range l.length).filterMap (fun i => some (f (l.getD i d))) = l.map f := by
  induction l with
  | nil => rfl
  | cons a l ih =>
    rw [List.length_cons, List.range_succ_eq_map, List.filterMap_cons, List.filterMap_map]
    show f a :: _ = _
    rw [List.map_cons, ← ih]
    rfl
theorem slope_no {d : PyData} (h : isA "tuple" d = false) : slopeD d = false := by
  rw [isA_tuple] at h
  cases d <;> first | rfl | cases h
theorem slope_len {ds : List PyData} (h : ds.length ≠ 3) : slopeD (.tuple ds) = false := by
  match ds, h with
  | [], _ => rfl
  | [_], _ => rfl
  | [_, _], _ => rfl
  | [_, _, _], h => exact absurd rfl h
  | _ :: _ :: _ :: _ :: _, _ => rfl
theorem within_no {d : PyData} {lo hi : Int} (h : isIntD d = false) : withinD d lo hi = false := by
  cases d <;> first | rfl | cases h
theorem of_isInt {d : PyData} (h : isIntD d = true) : ∃ i, d = .int i := by
  cases d with
  | int i => exact ⟨i, rfl⟩
  | _ => cases h
theorem isTup_of {d : PyData} (h : isA "tuple" d = true) : ∃ ds, d = .tuple ds := by
  rw [isA_tuple] at h
  cases d with
  | tuple ds => exact ⟨ds, rfl⟩
  | _ => cases h
theorem isStr_of {d : PyData} (h : isA "str" d = true) : ∃ x, d = .str x := by
  rw [isA_str] at h
  cases d with
  | str x => exact ⟨x, rfl⟩
  | _ => cases h
theorem rd_inT {K : PySem.W.Frag} {H : Hp} {Q : VK} {p : Addr} {x : V} {xs : List V} (h : SqT K H p xs) (hx : flatV x = true) (ha : xs.all flatV = true) (q : Q (.bl (inV x xs)) H) : rIn K false x (.ref p) H Q := ⟨p, xs, rfl, .inr h, hx, ha, q⟩
theorem rd_inS {H : Hp} {Q : VK} {c : Nat} {z : Str} (q : Q (.bl (decide (c ∈ z.cps.toList))) H) : rInS (.str ⟨#[c]⟩) (.str z) H Q := ⟨c, z, rfl, rfl, q⟩
theorem var_no {d : PyData} (h : isA "str" d = false) : varD d = false := by
  rw [isA_str] at h
  cases d <;> first | rfl | cases h
theorem signs_map (x : Str) (f : Nat → Bool) : (List.range x.cps.size).filterMap (fun i => some (V.bl (f (x.cps.toList.getD i 0)))) = (x.cps.toList.map f).map V.bl := by
  have h := range_map x.cps.toList (fun c => V.bl (f c)) 0
  rw [Array.length_toList] at h
  rw [h, List.map_map]
  rfl
theorem at_toList {x : Str} {i c : Nat} (h : x.cps[i]? = some c) : x.cps.toList.getD i 0 = c := by
  rw [List.getD_eq_getElem?_getD, Array.getElem?_toList, h] <;> rfl
theorem item_no {rec : PyData → Bool} {d : PyData} (h : isA "tuple" d = false) : itemD rec d = false := by
  rw [isA_tuple] at h
  cases d <;> first | rfl | cases h
theorem item_len {rec : PyData → Bool} {ds : List PyData} (h : ds.length ≠ 2) : itemD rec (.tuple ds) = false := by
  match ds, h with
  | [], _ => rfl
  | [a], _ => cases a <;> rfl
  | [_, _], h => exact absurd rfl h
  | a :: _ :: _ :: _, _ => cases a <;> rfl
theorem item_two {rec : PyData → Bool} (f x : PyData) : itemD rec (.tuple [f, x]) = (withinD f (-9) 9 && (match f with | .int i => decide (i ≠ 0) | _ => false) && (varD x || floorD rec x)) := by
  cases f <;> rfl
theorem floor_no {rec : PyData → Bool} {d : PyData} (h : isA "tuple" d = false) : floorD rec d = false := by
  rw [isA_tuple] at h
  cases d <;> first | rfl | cases h
theorem floor_len {rec : PyData → Bool} {ds : List PyData} (h : ds.length ≠ 3) : floorD rec (.tuple ds) = false := by
  match ds, h with
  | [], _ => rfl
  | [a], _ => cases a <;> rfl
  | [a, _], _ => cases a <;> rfl
  | [_, _, _], h => exact absurd rfl h
  | a :: _ :: _ :: _ :: _, _ => cases a <;> rfl
theorem floor_three {rec : PyData → Bool} (a s t : PyData) : floorD rec (.tuple [a, s, t]) = (PyData.eqv a (.str "floor") && slopeD s && rec t) := by
  rw [eqv_str]
  cases a with
  | str w =>
    show (decide (w = "floor") && slopeD s && rec t) = ((w == "floor") && slopeD s && rec t)
    rw [show (w == ("floor" : Str)) = decide (w = "floor") from by by_cases h : w = "floor" <;> simp [h]]
  | _ => rfl
theorem term_no {rec : PyData → Bool} {d : PyData} (h : isA "tuple" d = false) : termF rec d = false := by
  rw [isA_tuple] at h
  cases d <;> first | rfl | cases h
theorem term_len {rec : PyData → Bool} {ds : List PyData} (h : ds.length ≠ 2) : termF rec (.tuple ds) = false := by
  match ds, h with
  | [], _ => rfl
  | [a], _ => cases a <;> rfl
  | [_, _], h => exact absurd rfl h
  | a :: _ :: _ :: _, _ => cases a <;> rfl
theorem term_two {rec : PyData → Bool} {a c : PyData} (h : isA "tuple" a = false) : termF rec (.tuple [a, c]) = false := by
  rw [isA_tuple] at h
  cases a <;> first | rfl | cases h
def recOf : Nat → PyData → Bool
  | 0 => fun _ => false
  | n + 1 => termD n
theorem termD_eq (n : Nat) : termD n = termF (recOf n) := by cases n <;> rfl
theorem term_items {rec : PyData → Bool} (its : List PyData) (c : PyData) : termF rec (.tuple [.tuple its, c]) = (decide (its.length ≤ 4) && withinD c (-1000) 1000 && its.all (itemD rec)) := rfl
theorem data_map (ds : List PyData) (f : PyData → Bool) : (List.range ds.length).filterMap (fun i => some (V.bl (f (ds.getD i .none)))) = (ds.map f).map V.bl := by
  rw [range_map ds (fun c => V.bl (f c)) .none, List.map_map]
  rfl
theorem all_false {α : Type} {l : List α} {f : α → Bool} {i : Nat} {x : α} (h : l[i]? = some x) (e : f x = false) : l.all f = false := by
  rw [List.all_eq_false]
  exact ⟨x, List.mem_of_getElem? h, by rw [e]; exact Bool.false_ne_true⟩
theorem all_true {α : Type} {l : List α} {f : α → Bool} (h : ∀ i x, i < l.length → l[i]? = some x → f x = true) : l.all f = true := by
  rw [List.all_eq_true]
  intro x hx
  obtain ⟨i, hi, e⟩ := List.mem_iff_getElem.mp hx
  exact h i x hi (by rw [List.getElem?_eq_getElem hi, e])
/-! ## square roots and surds, in plain Lean -/
section sqrt
/-- r is the greatest integer whose square is at most n -/
def IsSqrt (n r : Int) : Prop := 0 ≤ r ∧ r * r ≤ n ∧ n < (r + 1) * (r + 1)
theorem sq_lt {a b : Int} (ha : 0 ≤ a) (h : a < b) : a * a < b * b := Int.lt_of_le_of_lt (Int.mul_le_mul_of_nonneg_left (Int.le_of_lt h) ha) (Int.mul_lt_mul_of_pos_right h (Int.lt_of_le_of_lt ha h))
theorem lt_of_sq {a b : Int} (hb : 0 ≤ b) (h : a * a < b * b) : a < b := by
  rcases Int.lt_or_le a b with l | l
  · exact l
  · exact absurd (Int.mul_le_mul l l hb (Int.le_trans hb l)) (by omega)
theorem le_of_sq {a b : Int} (hb : 0 ≤ b) (h : a * a ≤ b * b) : a ≤ b := by
  rcases Int.lt_or_le b a with l | l
  · exact absurd (sq_lt hb l) (by omega)
  · exact l
theorem IsSqrt.uniq {n r s : Int} (h : IsSqrt n r) (g : IsSqrt n s) : r = s := by
  obtain ⟨h0, h1, h2⟩ := h
  obtain ⟨g0, g1, g2⟩ := g
  have a : r < s + 1 := lt_of_sq (by omega) (Int.lt_of_le_of_lt h1 g2)
  have b : s < r + 1 := lt_of_sq (by omega) (Int.lt_of_le_of_lt g1 h2)
  omega
/-- one step of the search from above stays above -/
theorem newton_up {n f : Int} (hn : 0 ≤ n) (hf : 0 < f) : n < ((f + n / f) / 2 + 1) * ((f + n / f) / 2 + 1) := by
  have hq : 0 ≤ n / f := Int.ediv_nonneg hn (by omega)
  have e := Int.mul_ediv_add_emod n f
  have r1 := Int.emod_lt_of_pos n hf
  generalize n / f = q at hq e
  have h1 : f + q + 1 ≤ 2 * ((f + q) / 2 + 1) := by omega
  generalize (f + q) / 2 + 1 = g at h1
  have h2 : (f + q + 1) * (f + q + 1) ≤ (2 * g) * (2 * g) := Int.mul_le_mul h1 h1 (by omega) (by omega)
  have h3 : 4 * (f * (q + 1)) ≤ (f + q + 1) * (f + q + 1) := by
    have z : 0 ≤ (f - (q + 1)) * (f - (q + 1)) := by
      rcases Int.le_total 0 (f - (q + 1)) with l | l
      · exact Int.mul_nonneg l l
      · exact Int.mul_nonneg_of_nonpos_of_nonpos l l
    have e1 : (f + q + 1) * (f + q + 1) - 4 * (f * (q + 1)) = (f - (q + 1)) * (f - (q + 1)) := by
      simp only [Int.add_mul, Int.mul_add, Int.sub_mul, Int.mul_sub, Int.mul_one, Int.one_mul, Int.mul_comm q f]
      omega
    omega
  have h4 : n < f * (q + 1) := by
    rw [Int.mul_add, Int.mul_one]
    omega
  have h5 : (2 * g) * (2 * g) = 4 * (g * g) := by
    rw [Int.mul_assoc, Int.mul_left_comm g 2 g]
    omega
  omega
theorem newton_end {n f : Int} (hf : 0 < f) (h : ¬ (f + n / f) / 2 < f) : f * f ≤ n := by
  have h1 : f ≤ n / f := by omega
  have h2 := Int.mul_le_mul_of_nonneg_left h1 (show 0 ≤ f by omega)
  have e := Int.mul_ediv_add_emod n f
  have r0 := Int.emod_nonneg n (show f ≠ 0 by omega)
  omega
theorem newton_pos {n f : Int} (hn : 2 ≤ n) (hf : 0 < f) : 0 < (f + n / f) / 2 := by
  have hq : 0 ≤ n / f := Int.ediv_nonneg (by omega) (by omega)
  by_cases h1 : f = 1
  · subst h1
    rw [Int.ediv_one]
    omega
  · omega
theorem sqrt_of_end {n f : Int} (hf : 0 < f) (hu : n < (f + 1) * (f + 1)) (h : ¬ (f + n / f) / 2 < f) : IsSqrt n f := ⟨by omega, newton_end hf h, hu⟩
theorem sqrt_small {n : Int} (h0 : 0 ≤ n) (h : n < 2) : IsSqrt n n := by
  have : n = 0 ∨ n = 1 := by omega
  rcases this with rfl | rfl <;> exact ⟨by decide, by decide, by decide⟩
theorem IsSqrt.le {n r x : Int} (h : IsSqrt n r) (hx : 0 ≤ x) : x ≤ r ↔ x * x ≤ n := by
  obtain ⟨h0, h1, h2⟩ := h
  refine ⟨fun l => Int.le_trans (Int.mul_le_mul l l hx h0) h1, fun l => ?_⟩
  have : x < r + 1 := lt_of_sq (by omega) (Int.lt_of_le_of_lt l h2)
  omega
end sqrt
section surds
def roots : List Int := [2, 3, 5, 6, 13]
/-- no square is d times another one -/
theorem no_square_nat (d : Nat) (hd : d = 2 ∨ d = 3 ∨ d = 5 ∨ d = 6 ∨ d = 13) : ∀ n i j : Nat, i ≤ n → i * i = d * (j * j) → i = 0 := by
  intro n
  induction n with
  | zero => intro i j h _; omega
  | succ n ih =>
    intro i j hi e
    -- a prime p of d divides i, then j
    have key : ∀ p q : Nat, d = p * q → 1 < p → (∀ x : Nat, (x * x) % p = 0 → x % p = 0) → (∀ x : Nat, (q * (x * x)) % p = 0 → x % p = 0) → i = 0 := by
      intro p q hpq hp h1 h2
      have a : (i * i) % p = 0 := by
        rw [e, hpq, Nat.mul_assoc]
        exact Nat.mul_mod_right p _
      have b := h1 i a
      obtain ⟨i', rfl⟩ : ∃ i', i = p * i' := ⟨i / p, (Nat.mul_div_cancel' (Nat.dvd_of_mod_eq_zero b)).symm⟩
      have e2 : p * (i' * i') = q * (j * j) := by
        have e3 : p * (p * (i' * i')) = p * (q * (j * j)) := by
          rw [hpq] at e
          have l : p * i' * (p * i') = p * (p * (i' * i')) := by
            rw [Nat.mul_assoc, Nat.mul_left_comm i' p i']
          rw [l, Nat.mul_assoc] at e
          exact e
        exact Nat.eq_of_mul_eq_mul_left (by omega) e3
      have c : j % p = 0 := h2 j (by rw [← e2]; exact Nat.mul_mod_right p _)
      obtain ⟨j', rfl⟩ : ∃ j', j = p * j' := ⟨j / p, (Nat.mul_div_cancel' (Nat.dvd_of_mod_eq_zero c)).symm⟩
      have e4 : i' * i' = d * (j' * j') := by
        have e5 : p * (i' * i') = p * (d * (j' * j')) := by
          rw [e2, hpq]
          have l : p * j' * (p * j') = p * (p * (j' * j')) := by
            rw [Nat.mul_assoc, Nat.mul_left_comm j' p j']
          rw [l]
          rw [Nat.mul_left_comm q p, Nat.mul_left_comm q p, Nat.mul_assoc p q]
        exact Nat.eq_of_mul_eq_mul_left (by omega) e5
      by_cases z : i' = 0
      · rw [z]; rfl
      · have : i' ≤ n := by
          have : 2 * i' ≤ p * i' := Nat.mul_le_mul_right i' hp
          omega
        have := ih i' j' this e4
        omega
    have sq : ∀ (p x : Nat), (x * x) % p = ((x % p) * (x % p)) % p := fun p x => Nat.mul_mod x x p
    have sq2 : ∀ (p q x : Nat), (q * (x * x)) % p = (q % p * (((x % p) * (x % p)) % p)) % p := fun p q x => by rw [Nat.mul_mod, sq]
    have small : ∀ (p q : Nat), 0 < p → (∀ r, r < p → (q % p * ((r * r) % p)) % p = 0 → r = 0) → ∀ x : Nat, (q * (x * x)) % p = 0 → x % p = 0 := fun p q hp h x hx => h (x % p) (Nat.mod_lt x hp) (by rw [← sq2]; exact hx)
    have one : ∀ p : Nat, (∀ x : Nat, (1 * (x * x)) % p = 0 → x % p = 0) → ∀ x : Nat, (x * x) % p = 0 → x % p = 0 := fun p h x hx => h x (by rw [Nat.one_mul]; exact hx)
    rcases hd with rfl | rfl | rfl | rfl | rfl
    · exact key 2 1 rfl (by decide) (one 2 (small 2 1 (by decide) (by decide))) (small 2 1 (by decide) (by decide))
    · exact key 3 1 rfl (by decide) (one 3 (small 3 1 (by decide) (by decide))) (small 3 1 (by decide) (by decide))
    · exact key 5 1 rfl (by decide) (one 5 (small 5 1 (by decide) (by decide))) (small 5 1 (by decide) (by decide))
    · exact key 3 2 rfl (by decide) (one 3 (small 3 1 (by decide) (by decide))) (small 3 2 (by decide) (by decide))
    · exact key 13 1 rfl (by decide) (one 13 (small 13 1 (by decide) (by decide))) (small 13 1 (by decide) (by decide))
theorem no_square {d i j : Int} (hd : d ∈ roots) (h : i * i = j * j * d) : i = 0 ∧ j = 0 := by
  have hd2 : d.natAbs = 2 ∨ d.natAbs = 3 ∨ d.natAbs = 5 ∨ d.natAbs = 6 ∨ d.natAbs = 13 := by
    simp only [roots, List.mem_cons, List.not_mem_nil, or_false] at hd
    rcases hd with rfl | rfl | rfl | rfl | rfl <;> decide
  have e : i.natAbs * i.natAbs = d.natAbs * (j.natAbs * j.natAbs) := by
    have := congrArg Int.natAbs h
    rw [Int.natAbs_mul, Int.natAbs_mul, Int.natAbs_mul, Nat.mul_comm (j.natAbs * j.natAbs)] at this
    exact this
  have z := no_square_nat d.natAbs hd2 i.natAbs i.natAbs j.natAbs (Nat.le_refl _) e
  rw [z] at e
  have hj : j.natAbs * j.natAbs = 0 := by
    rcases Nat.mul_eq_zero.mp e.symm with q | q
    · omega
    · exact q
  have : j.natAbs = 0 := by
    rcases Nat.mul_eq_zero.mp hj with q | q <;> exact q
  exact ⟨by omega, by omega⟩
theorem root_pos {d : Int} (hd : d ∈ roots) : 2 ≤ d ∧ d ≤ 13 := by
  simp only [roots, List.mem_cons, List.not_mem_nil, or_false] at hd
  rcases hd with rfl | rfl | rfl | rfl | rfl <;> decide
/-- the sign of i + j r, by squares -/
def sgn (d i j : Int) : Int := if 0 ≤ i ∧ 0 ≤ j then (if 0 < i ∨ 0 < j then 1 else 0) else if i ≤ 0 ∧ j ≤ 0 then -1 else if 0 < i then (if j * j * d < i * i then 1 else -1) else (if i * i < j * j * d then 1 else -1)
/-- m is the floor of f r -/
def IsMul (d f m : Int) : Prop := (0 ≤ f → IsSqrt (f * f * d) m) ∧ (f < 0 → IsSqrt (f * f * d) (-m - 1))
theorem sgn_eq {d i j m : Int} (hd : d ∈ roots) (h : IsMul d j m) : sgn d i j = if i = 0 ∧ j = 0 then 0 else if 0 ≤ i + m ∧ (j ≠ 0 ∨ 0 < i) then 1 else -1 := by
  have hp := root_pos hd
  have nn : 0 ≤ j * j * d := Int.mul_nonneg (by
    rcases Int.le_total 0 j with l | l
    · exact Int.mul_nonneg l l
    · exact Int.mul_nonneg_of_nonpos_of_nonpos l l) (by omega)
  have ns : ∀ x : Int, x ≠ 0 ∨ j ≠ 0 → x * x ≠ j * j * d := fun x hx e => by
    have := no_square hd e
    omega
  obtain ⟨h1, h2⟩ := h
  unfold sgn
  by_cases a : 0 ≤ i ∧ 0 ≤ j
  · rw [if_pos a]
    have q := h1 a.2
    by_cases b : 0 < i ∨ 0 < j
    · rw [if_pos b, if_neg (by omega), if_pos ⟨by have := q.1; omega, by omega⟩]
    · rw [if_neg b, if_pos (by omega)]
  · rw [if_neg a]
    by_cases b : i ≤ 0 ∧ j ≤ 0
    · rw [if_pos b, if_neg (by omega), if_neg]
      rintro ⟨c, e⟩
      by_cases j0 : j = 0
      · omega
      · have := (h2 (by omega)).1
        omega
    · rw [if_neg b, if_neg (show ¬(i = 0 ∧ j = 0) by omega)]
      by_cases c : 0 < i
      · rw [if_pos c]
        have q := h2 (by omega)
        by_cases e : j * j * d < i * i
        · rw [if_pos e, if_pos]
          refine ⟨?_, by omega⟩
          have : ¬ i ≤ -m - 1 := fun l => by
            have := (q.le (by omega)).mp l
            omega
          omega
        · rw [if_neg e, if_neg]
          rintro ⟨g, _⟩
          have : i * i ≤ j * j * d := by omega
          have := (q.le (by omega)).mpr this
          omega
      · rw [if_neg c]
        have q := h1 (by omega)
        have e0 : (-i) * (-i) = i * i := Int.neg_mul_neg i i
        by_cases e : i * i < j * j * d
        · rw [if_pos e, if_pos]
          refine ⟨?_, by omega⟩
          have := (q.le (x := -i) (by omega)).mpr (by omega)
          omega
        · rw [if_neg e, if_neg]
          rintro ⟨g, _⟩
          have := (q.le (x := -i) (by omega)).mp (by omega)
          have := ns i (by omega)
          omega
theorem sgn_scale {d i j g : Int} (hg : 0 < g) : sgn d (g * i) (g * j) = sgn d i j := by
  have p : ∀ x : Int, 0 ≤ g * x ↔ 0 ≤ x := fun x => ⟨fun h => by
    rcases Int.lt_or_le x 0 with l | l
    · have := Int.mul_neg_of_pos_of_neg hg l
      omega
    · exact l, fun h => Int.mul_nonneg (by omega) h⟩
  have p2 : ∀ x : Int, 0 < g * x ↔ 0 < x := fun x => ⟨fun h => by
    rcases Int.lt_or_le 0 x with l | l
    · exact l
    · have := Int.mul_nonpos_of_nonneg_of_nonpos (show 0 ≤ g by omega) l
      omega, fun h => Int.mul_pos hg h⟩
  have p3 : ∀ x : Int, g * x ≤ 0 ↔ x ≤ 0 := fun x => by
    have := p2 x
    omega
  have e1 : ∀ x : Int, g * x * (g * x) = g * g * (x * x) := fun x => by
    rw [Int.mul_assoc, Int.mul_left_comm x g x, ← Int.mul_assoc]
  have gg : 0 < g * g := Int.mul_pos hg hg
  have q : ∀ x y : Int, g * g * x < g * g * y ↔ x < y := fun x y => ⟨fun h => Int.lt_of_mul_lt_mul_left h (by omega), fun h => Int.mul_lt_mul_of_pos_left h gg⟩
  unfold sgn
  simp only [p, p2, p3, e1, Int.mul_assoc (g * g), q]
theorem sgn_neg {d i j : Int} (hd : d ∈ roots) : sgn d (-i) (-j) = - sgn d i j := by
  have ns : ∀ x : Int, x ≠ 0 ∨ j ≠ 0 → x * x ≠ j * j * d := fun x hx e => by
    have := no_square hd e
    omega
  unfold sgn
  rw [Int.neg_mul_neg, Int.neg_mul_neg]
  have n1 := ns i
  by_cases a : 0 ≤ i ∧ 0 ≤ j
  · rw [if_pos a]
    by_cases b : 0 < i ∨ 0 < j
    · rw [if_pos b, if_neg (by omega), if_pos (by omega)]
    · rw [if_neg b, if_pos (by omega), if_neg (by omega)]
      rfl
  · rw [if_neg a]
    by_cases b : i ≤ 0 ∧ j ≤ 0
    · rw [if_pos b, if_pos (by omega), if_pos (by omega)]
      rfl
    · rw [if_neg b, if_neg (by omega), if_neg (by omega)]
      by_cases c : 0 < i
      · rw [if_pos c, if_neg (by omega)]
        by_cases e : j * j * d < i * i
        · rw [if_pos e, if_neg (by omega)]
        · rw [if_neg e, if_pos (by have := n1 (by omega); omega)]
          rfl
      · rw [if_neg c, if_pos (by omega)]
        by_cases e : i * i < j * j * d
        · rw [if_pos e, if_neg (by omega)]
        · rw [if_neg e, if_pos (by have := n1 (by omega); omega)]
          rfl
end surds
section promises
theorem sqrt_le {n r : Int} (h : IsSqrt n r) : 0 ≤ r ∧ r ≤ n := by
  obtain ⟨h0, h1, _⟩ := h
  refine ⟨h0, ?_⟩
  by_cases z : r = 0
  · have : r * r = 0 := by rw [z]; rfl
    omega
  · have := Int.mul_le_mul_of_nonneg_left (show 1 ≤ r by omega) h0
    rw [Int.mul_one] at this
    omega
theorem sq_nn (f : Int) : 0 ≤ f * f := by
  rcases Int.le_total 0 f with l | l
  · exact Int.mul_nonneg l l
  · exact Int.mul_nonneg_of_nonpos_of_nonpos l l
theorem sqrt_ex {n : Int} (h : 0 ≤ n) : ∃ r, IsSqrt n r := by
  have key : ∀ k : Nat, ∃ r, IsSqrt (k : Int) r := by
    intro k
    induction k with
    | zero => exact ⟨0, by decide, by decide, by decide⟩
    | succ k ih =>
      obtain ⟨r, h0, h1, h2⟩ := ih
      by_cases z : ((k + 1 : Nat) : Int) < (r + 1) * (r + 1)
      · exact ⟨r, h0, by omega, z⟩
      · refine ⟨r + 1, by omega, by omega, ?_⟩
        have := sq_lt (show 0 ≤ r + 1 by omega) (show r + 1 < r + 1 + 1 by omega)
        omega
  obtain ⟨r, hr⟩ := key n.toNat
  rw [Int.toNat_of_nonneg h] at hr
  exact ⟨r, hr⟩
theorem isMul_ex {d f : Int} (hd : d ∈ roots) : ∃ m, IsMul d f m := by
  obtain ⟨r, hr⟩ := sqrt_ex (Int.mul_nonneg (sq_nn f) (show 0 ≤ d by have := root_pos hd; omega))
  by_cases h : 0 ≤ f
  · exact ⟨r, fun _ => hr, fun z => absurd z (by omega)⟩
  · exact ⟨-r - 1, fun z => absurd z h, fun _ => by rw [show -(-r - 1) - 1 = r by omega]; exact hr⟩
theorem IsMul.uniq {d f m m' : Int} (h : IsMul d f m) (g : IsMul d f m') : m = m' := by
  by_cases z : 0 ≤ f
  · exact (h.1 z).uniq (g.1 z)
  · have := (h.2 (by omega)).uniq (g.2 (by omega))
    omega
def spIsRoot : Sp := fun vs H Q _ => ∃ d : Int, vs = [.int d] ∧ d ∈ roots ∧ Q (.bl true) H
def spSqrt : Sp := fun vs H Q _ => ∃ n : Int, vs = [.int n] ∧ 0 ≤ n ∧ W 8000 n ∧ ∀ r, IsSqrt n r → Q (.int r) H
def spMulF : Sp := fun vs H Q _ => ∃ d f : Int, vs = [.int d, .int f] ∧ d ∈ roots ∧ W 3000 f ∧ ∀ m, IsMul d f m → Q (.int m) H
def spFloorS : Sp := fun vs H Q _ => ∃ d i j k : Int, vs = [.int d, .int i, .int j, .int k] ∧ d ∈ roots ∧ W 3000 j ∧ 0 < k ∧ W 3000 k ∧ ∀ m, IsMul d j m → Q (.int ((i + m) / k)) H
def spSignS : Sp := fun vs H Q _ => ∃ d i j : Int, vs = [.int d, .int i, .int j] ∧ d ∈ roots ∧ W 3000 j ∧ Q (.int (sgn d i j)) H
def spGcd : Sp := fun vs H Q _ => ∃ i j : Int, vs = [.int i, .int j] ∧ Q (.int (Int.gcd i j : Nat)) H
theorem root_W {d : Int} (h : d ∈ roots) : W 4 d := by
  have := root_pos h
  unfold W
  omega
/-- the first guess -/
theorem sqrt_first {n : Int} (h : 2 ≤ n) (hw : W 8000 n) : ∃ e : Nat, (((Builtin.Int.intBits n : Nat) : Int) + 1) / 2 = (e : Int) ∧ e ≤ 4001 ∧ n < (2 ^ e + 1) * (2 ^ e + 1) := by
  have hb : Builtin.Int.intBits n = n.natAbs.log2 + 1 := by
    unfold Builtin.Int.intBits
    rw [if_neg]
    intro z
    have := beq_iff_eq.mp z
    omega
  rw [hb]
  have hl : n.natAbs.log2 < 8000 := PySem.Flt.log2_lt_of (by decide) hw
  generalize hL : n.natAbs.log2 = L at hl
  refine ⟨(L + 2) / 2, by omega, by omega, ?_⟩
  have h1 : n.natAbs < 2 ^ (L + 1) := by
    rw [← hL]
    exact Nat.lt_log2_self
  generalize he : (L + 2) / 2 = e
  have h2 : 2 ^ (L + 1) ≤ 2 ^ e * 2 ^ e := by
    rw [← Nat.pow_add]
    exact Nat.pow_le_pow_right (by decide) (by omega)
  have h3 : n < ((2 ^ e * 2 ^ e : Nat) : Int) := by omega
  have h4 : ((2 ^ e * 2 ^ e : Nat) : Int) = 2 ^ e * 2 ^ e := by
    rw [Int.natCast_mul, Int.natCast_pow] <;> rfl
  rw [h4] at h3
  have h5 : (0 : Int) < 2 ^ e := Int.pow_pos (by decide)
  generalize (2 : Int) ^ e = p at h3 h5
  have : p * p < (p + 1) * (p + 1) := sq_lt (by omega) (by omega)
  omega
end promises
/-! ## instances of Surd -/
section surd
theorem kp_of {K : PySem.W.Frag} {x qual : Str} {params : Arguments} {body : List Stmt} {scope : Scope} {dvs : List V} {kws : List (Str × V)} {f : Addr} (F : ∃ fd, FunD K x qual params body scope dvs kws f fd) : PySem.W.keepIn K (.ref f) = true := by
  obtain ⟨fd, F⟩ := F
  exact F.kp
/-- a def with defaults, by its body -/
theorem Fn.mk {P : Program} {w : World} {K : PySem.W.Frag} {mg : Str → Option Value} {base : Heap} {x qual : Str} {st : Stmt} {f : Addr} {dvs : List V} {kws : List (Str × V)} {N ps : List Str} {k : Nat} {sp : Sp} {fd : FuncData} (F : FunD K x qual (defArgs st) (defBody st) (defScope st) dvs kws f fd) (S : FnScope N ps (defScope st))
    (len : ∀ vs H Q E, sp vs H Q E → vs.length = ps.length)
    (hbody : ∀ (cdv : Value) (A : Around) (outer : List Env) (s : Shared) (H : Hp) (vs : List V) (Q : VK) (E : XK), Room k (A.deeper (envOfC qual (defScope st) s.heap.objs.size f cdv)) → sp vs H Q E →
      ∃ t, PSs (cxOf CX0 P w K mg base N qual (defScope st) f cdv A outer s H E).nox (defBody st) t ∧ t { nx := fun _ H' => Q .non H', rt := Q } (start N vs) H) : FnOk P w K mg base CX0 (k + 1) f fd ps sp :=
  F.ok S len fun cdv A outer s H vs Q E hr h => by
    obtain ⟨t, a, b⟩ := hbody cdv A outer s H vs Q E hr h
    exact ⟨t, a.nox, b⟩
/-- the divisor that a surd's maker takes out -/
def nG (i j k : Int) : Int := if k < 0 then -((Int.gcd (Int.gcd i j : Nat) k : Nat) : Int) else ((Int.gcd (Int.gcd i j : Nat) k : Nat) : Int)
theorem nG_dvd (i j k : Int) : nG i j k ∣ i ∧ nG i j k ∣ j ∧ nG i j k ∣ k := by
  have h1 : ((Int.gcd (Int.gcd i j : Nat) k : Nat) : Int) ∣ i := Int.dvd_trans (Int.gcd_dvd_left ..) (Int.gcd_dvd_left ..)
  have h2 : ((Int.gcd (Int.gcd i j : Nat) k : Nat) : Int) ∣ j := Int.dvd_trans (Int.gcd_dvd_left ..) (Int.gcd_dvd_right ..)
  have h3 : ((Int.gcd (Int.gcd i j : Nat) k : Nat) : Int) ∣ k := Int.gcd_dvd_right ..
  unfold nG
  split
  · exact ⟨Int.neg_dvd.mpr h1, Int.neg_dvd.mpr h2, Int.neg_dvd.mpr h3⟩
  · exact ⟨h1, h2, h3⟩
theorem nG_pos {i j k : Int} (h : 0 < k) : 0 < nG i j k := by
  unfold nG
  rw [if_neg (by omega)]
  have : Int.gcd (Int.gcd i j : Nat) k ≠ 0 := fun z => by
    have := (Int.gcd_eq_zero_iff.mp z).2
    omega
  omega
theorem nG_sign {i j k : Int} (h : k < 0) : nG i j k < 0 := by
  unfold nG
  rw [if_pos h]
  have : Int.gcd (Int.gcd i j : Nat) k ≠ 0 := fun z => by
    have := (Int.gcd_eq_zero_iff.mp z).2
    omega
  omega
theorem nG_ne {i j k : Int} (h : k ≠ 0) : nG i j k ≠ 0 := by
  rcases Int.lt_or_gt_of_ne h with l | l
  · have := nG_sign (i := i) (j := j) l
    omega
  · have := nG_pos (i := i) (j := j) l
    omega
theorem nG_neg {i j k : Int} (h : 0 < k) : nG (-i) (-j) (-k) = -nG i j k := by
  unfold nG
  rw [if_pos (by omega), if_neg (by omega)]
  rw [Int.neg_gcd, Int.gcd_neg, Int.gcd_neg]
theorem nG_i (i j k : Int) : nG i j k * (i.fdiv (nG i j k)) = i := Int.mul_fdiv_cancel' (nG_dvd i j k).1
theorem nG_j (i j k : Int) : nG i j k * (j.fdiv (nG i j k)) = j := Int.mul_fdiv_cancel' (nG_dvd i j k).2.1
theorem nG_k (i j k : Int) : nG i j k * (k.fdiv (nG i j k)) = k := Int.mul_fdiv_cancel' (nG_dvd i j k).2.2
theorem nG_kp {i j k : Int} (h : k ≠ 0) : 0 < k.fdiv (nG i j k) := by
  have e := nG_k i j k
  have z := nG_ne (i := i) (j := j) h
  rcases Int.lt_or_gt_of_ne h with l | l
  · have g := nG_sign (i := i) (j := j) l
    refine Int.lt_of_not_ge fun c => ?_
    have := Int.mul_nonneg_of_nonpos_of_nonpos (Int.le_of_lt g) c
    omega
  · have g := nG_pos (i := i) (j := j) l
    refine Int.lt_of_not_ge fun c => ?_
    have := Int.mul_nonpos_of_nonneg_of_nonpos (Int.le_of_lt g) c
    omega
theorem nG_W {i j k : Int} {n : Nat} (h : k ≠ 0) (hw : W n k) : W n (nG i j k) := by
  refine hw.le ?_
  have := Int.natAbs_dvd_natAbs.mpr (nG_dvd i j k).2.2
  exact Nat.le_of_dvd (by omega) this
/-- the surd at a: (i + j r) / k, its parts of at most n bits -/
def SurdAt (K : PySem.W.Frag) (n : Nat) (H : Hp) (a : Addr) (d i j k : Int) : Prop := ∃ dx p, H a = some (.ins (He.ga K "Surd") dx [("own_root", .int d), ("own_parts", .ref p)]) ∧ H p = some (.tup [.int i, .int j, .int k]) ∧ d ∈ roots ∧ 0 < k ∧ W n i ∧ W n j ∧ W n k
theorem SurdAt.ext {K : PySem.W.Frag} {n : Nat} {H H' : Hp} {a : Addr} {d i j k : Int} (e : Ext H H') (h : SurdAt K n H a d i j k) : SurdAt K n H' a d i j k := by
  obtain ⟨dx, p, h1, h2, h3⟩ := h
  exact ⟨dx, p, e _ _ h1 rfl, e _ _ h2 rfl, h3⟩
theorem SurdAt.same {K : PySem.W.Frag} {n : Nat} {H H' : Hp} {a : Addr} {d i j k : Int} (e : Same H H') (h : SurdAt K n H a d i j k) : SurdAt K n H' a d i j k := h.ext (.of e)
theorem SurdAt.up {K : PySem.W.Frag} {n m : Nat} {H : Hp} {a : Addr} {d i j k : Int} (h : SurdAt K n H a d i j k) (l : n ≤ m) : SurdAt K m H a d i j k := by
  obtain ⟨dx, p, h1, h2, h3, h4, h5, h6, h7⟩ := h
  exact ⟨dx, p, h1, h2, h3, h4, h5.mono l, h6.mono l, h7.mono l⟩
/-- what is at another place than x stays -/
def Keep (x : Addr) (H H' : Hp) : Prop := ∀ b o, b ≠ x → H b = some o → H' b = some o
theorem Keep.chg {x : Addr} {H H' : Hp} (c : Chg x H H') : Keep x H H' := fun b o n h => by rw [c b n]; exact h
theorem Keep.same {x : Addr} {H H' : Hp} (c : Same H H') : Keep x H H' := fun b o _ h => c b o h
theorem Keep.trans {x : Addr} {H H1 H2 : Hp} (a : Keep x H H1) (b : Keep x H1 H2) : Keep x H H2 := fun c o n h => b c o n (a c o n h)
def spInit (K : PySem.W.Frag) : Sp := fun vs H Q _ => ∃ (x dx : Addr) (d i j k : Int) (n : Nat), vs = [.ref x, .int d, .int i, .int j, .int k] ∧ H x = some (.ins (He.ga K "Surd") dx []) ∧ d ∈ roots ∧ k ≠ 0 ∧ n ≤ 3000 ∧ 0 < n ∧ W n i ∧ W n j ∧ W n k ∧
  ∀ H', Keep x H H' → SurdAt K n H' x d (i.fdiv (nG i j k)) (j.fdiv (nG i j k)) (k.fdiv (nG i j k)) → Q .non H'
/-- what a maker gives -/
def MkS (K : PySem.W.Frag) (d i j k : Int) (H : Hp) (Q : VK) : Prop := ∃ n, d ∈ roots ∧ k ≠ 0 ∧ n ≤ 3000 ∧ 0 < n ∧ W n i ∧ W n j ∧ W n k ∧ ∀ x H', Same H H' → SurdAt K n H' x d (i.fdiv (nG i j k)) (j.fdiv (nG i j k)) (k.fdiv (nG i j k)) → Q (.ref x) H'
theorem mks_new {H : Hp} {x dx C : Addr} (hx : H x = none) (hd : H dx = none) {H' : Hp} (k : Keep x (upd (upd H dx (.own x)) x (.ins C dx [])) H') : Same H H' := fun b o h => k b o (ne_of_none h hx) (by rw [upd_ne (ne_of_none h hx), upd_ne (ne_of_none h hd)]; exact h)
theorem rd_mkS {K : PySem.W.Frag} {d i j k : Int} {H : Hp} {Q : VK} {gV : List V → List V → List V} (hg : ∀ x, gV [.ref x, .int d, .int i, .int j] [.int k] = [.ref x, .int d, .int i, .int j, .int k]) (h : MkS K d i j k H Q) : MkB (He.ga K "Surd") 3 1 (spInit K) gV [.int d, .int i, .int j] [.int k] H Q := by
  obtain ⟨n, h1, h2, h3, h4, h5, h6, h7, q⟩ := h
  refine ⟨rfl, rfl, fun x dx hx hd ne => ?_⟩
  rw [hg x]
  exact ⟨x, dx, d, i, j, k, n, rfl, upd_same, h1, h2, h3, h4, h5, h6, h7, fun H' kp sa => ⟨rfl, q x H' (mks_new hx hd kp) sa⟩⟩
theorem rd_mkS0 {K : PySem.W.Frag} {d i j : Int} {H : Hp} {Q : VK} (h : MkS K d i j 1 H Q) : MkB0 (He.ga K "Surd") (spInit K) [.int 1] [.int d, .int i, .int j] H Q := by
  obtain ⟨n, h1, h2, h3, h4, h5, h6, h7, q⟩ := h
  refine fun x dx hx hd ne => ?_
  exact ⟨x, dx, d, i, j, 1, n, rfl, upd_same, h1, h2, h3, h4, h5, h6, h7, fun H' kp sa => ⟨rfl, q x H' (mks_new hx hd kp) sa⟩⟩
def spPartsS (K : PySem.W.Frag) : Sp := fun vs H Q _ => ∃ (a : Addr) (d i j k : Int) (n : Nat), vs = [.ref a] ∧ SurdAt K n H a d i j k ∧ ∀ p, H p = some (.tup [.int i, .int j, .int k]) → Q (.ref p) H
def spRootS (K : PySem.W.Frag) : Sp := fun vs H Q _ => ∃ (a : Addr) (d i j k : Int) (n : Nat), vs = [.ref a] ∧ SurdAt K n H a d i j k ∧ Q (.int d) H
def spSignM (K : PySem.W.Frag) : Sp := fun vs H Q _ => ∃ (a : Addr) (d i j k : Int), vs = [.ref a] ∧ SurdAt K 3000 H a d i j k ∧ Q (.int (sgn d i j)) H
def spFloorM (K : PySem.W.Frag) : Sp := fun vs H Q _ => ∃ (a : Addr) (d i j k : Int), vs = [.ref a] ∧ SurdAt K 3000 H a d i j k ∧ ∀ m, IsMul d j m → Q (.int ((i + m) / k)) H
def spBin (K : PySem.W.Frag) (f : Int → Int → Int → Int → Int → Int → Int → Int × Int × Int) : Sp := fun vs H Q _ => ∃ (x y : Addr) (d a b k c e m : Int), vs = [.ref x, .ref y] ∧ SurdAt K 1400 H x d a b k ∧ SurdAt K 1400 H y d c e m ∧ MkS K d (f d a b k c e m).1 (f d a b k c e m).2.1 (f d a b k c e m).2.2 H Q
def fSub (_ a b k c e m : Int) : Int × Int × Int := (a * m - c * k, b * m - e * k, k * m)
def fAdd (_ a b k c e m : Int) : Int × Int × Int := (a * m + c * k, b * m + e * k, k * m)
def fMul (d a b k c e m : Int) : Int × Int × Int := (a * c + d * b * e, a * e + b * c, k * m)
def spCmp (K : PySem.W.Frag) : Sp := fun vs H Q _ => ∃ (x y : Addr) (d a b k c e m : Int) (n : Nat), vs = [.ref x, .ref y] ∧ n ≤ 1400 ∧ SurdAt K n H x d a b k ∧ SurdAt K n H y d c e m ∧ ∀ H', Same H H' → Q (.int (sgn d (a * m - c * k) (b * m - e * k))) H'
def spEqS (K : PySem.W.Frag) : Sp := fun vs H Q _ => ∃ (x y : Addr) (d a b k d' c e m : Int) (n : Nat), vs = [.ref x, .ref y] ∧ SurdAt K n H x d a b k ∧ SurdAt K n H y d' c e m ∧ Q (.bl (decide (d = d' ∧ a = c ∧ b = e ∧ k = m))) H
def spBoolS (K : PySem.W.Frag) : Sp := fun vs H Q _ => ∃ (a : Addr) (d i j k : Int) (n : Nat), vs = [.ref a] ∧ SurdAt K n H a d i j k ∧ Q (.bl (decide (i ≠ 0 ∨ j ≠ 0))) H
end surd
theorem rd_isiO {K : PySem.W.Frag} {C : Addr} {H : Hp} {Q : VK} {b dy : Addr} {gs : List (Str × V)} (c : Cls K C) (i : IsiC K C) (h2 : H b = some (.ins C dy gs)) (q : Q (.bl true) H) : rIsi K [.ref b, .ref C] H Q := ⟨_, _, .ref C, .ref C, true, rfl, .own C, .base (.ins h2 c i.ca i.cn i.ct i.cm), i.me, q⟩
theorem eqv_ints3 (a b k c e m : Int) : PyData.eqv (.tuple [.int a, .int b, .int k]) (.tuple [.int c, .int e, .int m]) = decide (a = c ∧ b = e ∧ k = m) := by
  show ((a == c) && ((b == e) && ((k == m) && true))) = _
  by_cases h1 : a = c <;> by_cases h2 : b = e <;> by_cases h3 : k = m <;> simp [h1, h2, h3]
def spNeed : Sp := fun vs H Q _ => ∃ (n : Nat) (v : V) (d : PyData), n ≤ 60 ∧ vs = [v] ∧ Dn n H v d ∧ slopeD d = true ∧ ∀ H', Same H H' → Q .non H'
def spOfSlope (K : PySem.W.Frag) : Sp := fun vs H Q _ => ∃ (p : Addr) (d i j k : Int), vs = [.int d, .ref p] ∧ H p = some (.tup [.int i, .int j, .int k]) ∧ d ∈ roots ∧ slopeD (.tuple [.int i, .int j, .int k]) = true ∧
  ∀ x H', Same H H' → SurdAt K 30 H' x d (i.fdiv (nG i j k)) (j.fdiv (nG i j k)) (k.fdiv (nG i j k)) → Q (.ref x) H'
theorem slope3 {i j k : Int} (h : slopeD (.tuple [.int i, .int j, .int k]) = true) : (-9 ≤ i ∧ i ≤ 9) ∧ (-3 ≤ j ∧ j ≤ 3) ∧ 1 ≤ k ∧ k ≤ 4 := by
  have h : (decide (-9 ≤ i) && decide (i ≤ 9) && (decide (-3 ≤ j) && decide (j ≤ 3)) && (decide (1 ≤ k) && decide (k ≤ 4))) = true := h
  simp only [Bool.and_eq_true, decide_eq_true_eq] at h
  exact ⟨h.1.1, h.1.2, h.2⟩
def spFar : Sp := fun vs H Q _ => ∃ (a c : Addr) (ns : List Int) (n : Int), vs = [.ref a, .int n] ∧ Bag a c ns H ∧ 0 < n ∧ n ≤ 40 ∧ ∀ f H', 0 ≤ f → f < 10 ^ 40 → Ext H H' → Bag a c ns H' → Q (.int f) H'
def spLFloor : Sp := fun vs H Q _ => ∃ (p : Addr) (d i j k z : Int), vs = [.int d, .ref p, .int z] ∧ H p = some (.tup [.int i, .int j, .int k]) ∧ d ∈ roots ∧ W 1000 i ∧ W 1000 j ∧ W 1000 z ∧ 0 < k ∧ W 1000 k ∧ ∀ m, IsMul d (j * z) m → Q (.int ((i * z + m) / k)) H
def spLRoot : Sp := fun vs H Q _ => ∃ (a c : Addr) (ns : List Int), vs = [.ref a] ∧ Bag a c ns H ∧ ∀ d H', d ∈ roots → Ext H H' → Bag a c ns H' → Q (.int d) H'
def spLSign : Sp := fun vs H Q _ => ∃ (d i j : Int), vs = [.int d, .int i, .int j] ∧ d ∈ roots ∧ W 3000 i ∧ W 3000 j ∧ Q (.int (sgn d i j)) H
theorem pow10_le {i : Nat} (h : i ≤ 40) : (10 : Int) ^ i ≤ 10 ^ 40 := by
  exact_mod_cast Nat.pow_le_pow_right (n := 10) (by decide) h
section laws
theorem W.mulF {n : Nat} {d f m : Int} (hd : d ∈ roots) (h : W n f) (hm : IsMul d f m) : W (n + n + 5) m := by
  have hw := (h.mul h).mul (root_W hd)
  by_cases z : 0 ≤ f
  · have := sqrt_le (hm.1 z)
    exact (hw.le (by omega)).mono (by omega)
  · have := sqrt_le (hm.2 (by omega))
    have hw2 : W (n + n + 4) (-m - 1) := hw.le (by omega)
    have e : W (n + n + 4) 1 := by
      unfold W
      exact Nat.one_lt_two_pow (by omega)
    exact (hw2.add e).le (by omega)
theorem W.ediv {n : Nat} {i k : Int} (h : W n i) (hk : 0 < k) : W n (i / k) := by
  have := h.fdiv k
  rw [Int.fdiv_eq_ediv_of_nonneg i (by omega)] at this
  exact this
theorem floor_ok {d i j k m : Int} (hd : d ∈ roots) (hk : 0 < k) (hm : IsMul d j m) : 0 ≤ sgn d (i - (i + m) / k * k) j ∧ sgn d (i - ((i + m) / k + 1) * k) j < 0 := by
  have e := Int.mul_ediv_add_emod (i + m) k
  have r0 := Int.emod_nonneg (i + m) (show k ≠ 0 by omega)
  have r1 := Int.emod_lt_of_pos (i + m) hk
  have j0 : j = 0 → m = 0 := fun z => by
    subst z
    have := hm.1 (by decide)
    have := this.uniq (s := 0) ⟨by decide, by rw [Int.zero_mul, Int.zero_mul]; decide, by rw [Int.zero_mul, Int.zero_mul]; decide⟩
    exact this
  generalize (i + m) / k = q at e
  rw [Int.mul_comm] at e
  rw [sgn_eq hd hm, sgn_eq hd hm]
  have e2 : (q + 1) * k = q * k + k := by rw [Int.add_mul, Int.one_mul]
  constructor
  · by_cases z : i - q * k = 0 ∧ j = 0
    · rw [if_pos z]
      exact Int.le_refl _
    · rw [if_neg z, if_pos]
      · decide
      · refine ⟨by omega, ?_⟩
        by_cases jz : j = 0
        · have := j0 jz
          refine .inr ?_
          omega
        · exact .inl jz
  · rw [if_neg, if_neg]
    · decide
    · rintro ⟨a, _⟩
      omega
    · rintro ⟨a, b⟩
      have := j0 b
      omega
variable {d i j k : Int}
theorem sign_law (hk : 0 < k) : sgn d (i.fdiv (nG i j k)) (j.fdiv (nG i j k)) = sgn d i j := by
  have e := sgn_scale (d := d) (i := i.fdiv (nG i j k)) (j := j.fdiv (nG i j k)) (nG_pos (i := i) (j := j) hk)
  rw [nG_i, nG_j] at e
  exact e.symm
theorem floor_law {m : Int} (hd : d ∈ roots) (hk : 0 < k) (hm : IsMul d (j.fdiv (nG i j k)) m) :
    0 ≤ sgn d (i - (i.fdiv (nG i j k) + m) / k.fdiv (nG i j k) * k) j ∧ sgn d (i - ((i.fdiv (nG i j k) + m) / k.fdiv (nG i j k) + 1) * k) j < 0 := by
  have hp := nG_pos (i := i) (j := j) hk
  have h := floor_ok (i := i.fdiv (nG i j k)) hd (nG_kp (i := i) (j := j) (show k ≠ 0 by omega)) hm
  generalize (i.fdiv (nG i j k) + m) / k.fdiv (nG i j k) = q at h
  rw [← sgn_scale (i := _ - q * _) hp, ← sgn_scale (i := _ - (q + 1) * _) hp, Int.mul_sub, Int.mul_sub, Int.mul_left_comm _ q, Int.mul_left_comm _ (q + 1), nG_i, nG_j, nG_k] at h
  exact h
theorem neg_part (hk : 0 < k) (x : Int) : (-x).fdiv (nG (-i) (-j) (-k)) = x.fdiv (nG i j k) := by
  rw [nG_neg hk]
  exact Int.neg_fdiv_neg ..
theorem cmp_law {c e m : Int} (hk : 0 < k) (hm : 0 < m) : sgn d (i.fdiv (nG i j k) * m.fdiv (nG c e m) - c.fdiv (nG c e m) * k.fdiv (nG i j k)) (j.fdiv (nG i j k) * m.fdiv (nG c e m) - e.fdiv (nG c e m) * k.fdiv (nG i j k)) = sgn d (i * m - c * k) (j * m - e * k) := by
  have h := sgn_scale (d := d) (i := i.fdiv (nG i j k) * m.fdiv (nG c e m) - c.fdiv (nG c e m) * k.fdiv (nG i j k)) (j := j.fdiv (nG i j k) * m.fdiv (nG c e m) - e.fdiv (nG c e m) * k.fdiv (nG i j k)) (Int.mul_pos (nG_pos (i := i) (j := j) hk) (nG_pos (i := c) (j := e) hm))
  rw [← h]
  have q : ∀ g h a b : Int, g * h * (a * b) = (g * a) * (h * b) := fun g h a b => by
    rw [Int.mul_assoc, Int.mul_assoc, Int.mul_left_comm h a b]
  have q2 : ∀ g h a b : Int, g * h * (a * b) = (h * a) * (g * b) := fun g h a b => by
    rw [Int.mul_comm g h]
    exact q h g a b
  rw [Int.mul_sub, Int.mul_sub, q _ _ (i.fdiv _), q2 _ _ (c.fdiv _), q _ _ (j.fdiv _), q2 _ _ (e.fdiv _), nG_i, nG_j, nG_k, nG_i, nG_j, nG_k]
theorem sgn_00 (d : Int) : sgn d 0 0 = 0 := by
  unfold sgn
  rw [if_pos (by decide), if_neg (by decide)]
end laws
theorem SurdAt.me {K : PySem.W.Frag} {n : Nat} {H : Hp} {x : Addr} {d i j k : Int} {m : Str} {sp : Sp} {dvs : List V} {E : XK} {t : TA} {σ : L2.St} {Q : VK} (S : SurdAt K n H x d i j k) (q : t σ H fun vs H2 => sp (.ref x :: (vs ++ dvs)) H2 Q E) (hl : ∀ u v : V, List.lookup m [(("own_root" : Str), u), (("own_parts" : Str), v)] = none := by intros; rfl) : MeB (He.ga K "Surd") m sp dvs E t σ (.ref x) H Q := by
  obtain ⟨dx, p, h1, _⟩ := S
  exact rd_meB h1 (hl _ _) q
theorem SurdAt.bin {K : PySem.W.Frag} {n n' : Nat} {H : Hp} {x y : Addr} {d i j k c e m d' : Int} {sp : Sp} {Q : VK} (S : SurdAt K n H x d i j k) (S' : SurdAt K n' H y d' c e m) (q : sp [.ref x, .ref y] H Q E0) : rBin (He.ga K "Surd") sp (.ref x) (.ref y) H Q := by
  obtain ⟨dx, p, h1, _⟩ := S
  obtain ⟨dy, p', g1, _⟩ := S'
  exact rd_bin h1 g1 q
theorem SurdAt.bo {K : PySem.W.Frag} {n : Nat} {H : Hp} {x : Addr} {d i j k : Int} {sp : Sp} {Q : VK} (S : SurdAt K n H x d i j k) (q : sp [.ref x] H (fun v H' => ∃ b, v = .bl b ∧ Q v H') E0) : rBoolO (He.ga K "Surd") sp [.ref x] H Q := by
  obtain ⟨dx, p, h1, _⟩ := S
  exact rd_boolO h1 q
theorem SurdAt.eqO {K : PySem.W.Frag} {n n' : Nat} {H : Hp} {x y : Addr} {d i j k c e m d' : Int} {sp : Sp} {Q : VK} (cl : Cls K (He.ga K "Surd")) (ki : IsiC K (He.ga K "Surd")) (S : SurdAt K n H x d i j k) (S' : SurdAt K n' H y d' c e m) (q : sp [.ref x, .ref y] H Q E0) : rEqO K (He.ga K "Surd") sp (.ref x) (.ref y) H Q := by
  obtain ⟨dx, p, h1, _⟩ := S
  obtain ⟨dy, p', g1, _⟩ := S'
  exact rd_eqO cl ki h1 g1 q
theorem SurdAt.sz {K : PySem.W.Frag} {n : Nat} {H : Hp} {x : Addr} {d i j k : Int} (S : SurdAt K n H x d i j k) : d ∈ roots ∧ 0 < k ∧ W n i ∧ W n j ∧ W n k := by
  obtain ⟨dx, p, _, _, h⟩ := S
  exact h
/-! ## fields, dict displays, walks of lists or tuples -/
section seqs
theorem rd_start {t : TS} {D : Ends} {σ σ' : L2.St} {H : Hp} (e : σ = σ') (h : t D σ' H) : t D σ H := by
  subst e
  exact h
def WkQ (K : PySem.W.Frag) (x : V) (H : Hp) (R : It → Hp → Prop) : Prop := ∃ a, x = .ref a ∧ (((∃ xs, SqL K H a xs) ∧ R (Itl K a) H) ∨ ((∃ xs, SqT K H a xs) ∧ R (Itt K a) H))
def iSeq (K : PySem.W.Frag) (tl : TE) : TI := fun σ H R => tl σ H fun x H1 => WkQ K x H1 R
theorem pi_seq {X : Cx} {tg l : Expr} {tl : TE} (hl : PE X l tl) : PI X tg l (iSeq X.K tl) := ⟨fun pins s σ H R I h => thn (hl.run pins s σ H _ I h) fun v s1 ⟨x, H1, I1, r1, a, e, q1⟩ => by
  have fp : ∀ b ∈ [s1.heap.objs.size], _ := fun b hb => by
    cases List.mem_singleton.mp hb
    exact I1.fpOk (Nat.le_refl _) (I1.hok.fresh (Nat.le_refl _))
  subst e
  cases r1
  rcases q1 with ⟨⟨xs, hq⟩, q⟩ | ⟨⟨xs, hq⟩, q⟩
  · obtain ⟨its, _, p, _⟩ := I1.list hq
    exact wpAny_pyIter_list p.isList ⟨_, [_], _, _, H1, rfl, I1.kept (t' := s1.toks) fun _ _ e => Heap.get?_push_of_some _ e, turn_list a _, ⟨_, Heap.get?_push_size _ rfl, rfl, rfl⟩, fp, q⟩
  · obtain ⟨its, _, p, _⟩ := I1.tuple hq
    exact wpAny_pyIter_tuple (show s1.heap.IsTuple a its.toArray from p) ⟨_, [_], _, _, H1, rfl, I1.kept (t' := s1.toks) fun _ _ e => Heap.get?_push_of_some _ e, turn_tuple a _, ⟨_, Heap.get?_push_size _ rfl, rfl, rfl⟩, fp, q⟩⟩
section
variable {K : PySem.W.Frag} {σ : L2.St} {H : Hp} {Q : VK} {tl td ty tk tv : TE}
theorem rd_iSeq {R : It → Hp → Prop} (h : tl σ H fun x H1 => WkQ K x H1 R) : iSeq K tl σ H R := h
/-- {} -/
theorem rd_dnew (q : ∀ p H2, H p = none → Same H H2 → H2 p = some (.dK []) → Q (.ref p) H2) : tDNewK σ H Q := fun p hp => q p _ hp (Same.new hp) upd_same
def DispB (p : Addr) (ps : List (V × V)) (H : Hp) (Q : VK) : Prop := H p = some (.dK []) ∧ ∃ kvs : List (Key × V), ps = kvs.map (fun kv => (kV kv.1, kv.2)) ∧ kvs.length ≤ 15 ∧ Q (.ref p) (upd H p (.dK (mergeK [] kvs)))
theorem rd_disp {trs : List (TE × TE)} (h : ∀ p H1, H p = none → Same H H1 → H1 p = some (.dK []) → tPairs trs σ H1 fun ps H2 => DispB p ps H2 Q) : tDisp trs σ H Q := fun p hp => h p _ hp (Same.new hp) upd_same
theorem rd_prs0 {R : List (V × V) → Hp → Prop} (q : R [] H) : tPairs [] σ H R := q
theorem rd_prs {r : List (TE × TE)} {R : List (V × V) → Hp → Prop} (h : tk σ H fun x H1 => tv σ H1 fun y H2 => tPairs r σ H2 fun ps H3 => R ((x, y) :: ps) H3) : tPairs ((tk, tv) :: r) σ H R := h
theorem rd_dispB {p : Addr} {ps : List (V × V)} (h : H p = some (.dK [])) (kvs : List (Key × V)) (hp : ps = kvs.map (fun kv => (kV kv.1, kv.2))) (hl : kvs.length ≤ 15) (q : ∀ H2, Chg p H H2 → H2 p = some (.dK (mergeK [] kvs)) → Q (.ref p) H2) : DispB p ps H Q := ⟨h, kvs, hp, hl, q _ Chg.of upd_same⟩
def DgB (x y : V) (H : Hp) (Q : VK) : Prop := ∃ a v, x = .ref a ∧ DGet H a y (some v) ∧ Q v H
theorem rd_dget (h : td σ H fun x H1 => ty σ H1 fun y H2 => DgB x y H2 Q) : tDGet td ty σ H Q := h
theorem rd_dgB {a : Addr} {kvs : List (Key × V)} {i : Int} {v : V} (h : H a = some (.dK kvs)) (hv : valV kvs (.inl i) = some v) (q : Q v H) : DgB (.ref a) (.int i) H Q := ⟨a, v, rfl, .inl ⟨kvs, .inl i, .inl h, rfl, hv.symm⟩, q⟩
end
theorem Same.chg {p : Addr} {H H1 H2 : Hp} (s : Same H H1) (n : H p = none) (c : Chg p H1 H2) : Same H H2 := fun b o h => by
  rw [c b (ne_of_none h n)]
  exact s b o h
/-- what is no dict stays when a dict is changed -/
theorem Chg.keepD {p b : Addr} {H H' : Hp} {o : HO} {kvs : List (Key × V)} (c : Chg p H H') (hp : H p = some (.dK kvs)) (h : H b = some o) (n : o ≠ .dK kvs) : H' b = some o := by
  rw [c b (ne_of h hp n)]
  exact h
end seqs
section comps2
theorem range_get (xs : List V) : (List.range xs.length).filterMap (fun i => xs[i]?) = xs := by
  induction xs with
  | nil => rfl
  | cons x xs ih =>
    rw [List.length_cons, List.range_succ_eq_map, List.filterMap_cons]
    show x :: _ = _
    rw [List.filterMap_map]
    congr 1
/-- a comprehension over the items of a list or tuple -/
theorem lc_map {J : It} {xs : List V} {G : Hp → Prop} (wk : Walk J xs.length G (YAt xs)) {g : TG} {tt : TT} {te : TE} {vs : List Nat} {σ : L2.St} {H : Hp} {Q : VK} (hG : ∀ H', Same H H' → G H') (f : V → Option V) (hn : xs.length ≤ 100000)
    (hs : ∀ x H2 (Q' : VK) (N' : Hp → Prop), x ∈ xs → Same H H2 → (∀ v H4, f x = some v → Same H2 H4 → Q' v H4) → (∀ H4, f x = none → Same H2 H4 → N' H4) →
      g x (wipe σ vs) H2 fun σ2 H4 => wipe σ2 vs = wipe σ vs ∧ tt σ2 H4 fun b H5 => if b = true then te σ2 H5 Q' else N' H5)
    (hd : ∀ D H', H D = none → Same H H' → H' D = some (.lst (xs.filterMap f)) → Q (.ref D) H') : LcB J g tt te vs σ H Q := by
  refine lc_pure wk hG (fun i => xs[i]?.bind f) hn (fun i x H2 H3 Q' N' hi s2 y q1 q2 => ?_) (fun D H' nD s1 h1 => hd D H' nD s1 ?_)
  · obtain ⟨rfl, hx⟩ := y
    refine hs x H3 Q' N' (List.mem_of_getElem? hx) s2 (fun v H4 e => q1 v H4 (by rw [hx]; exact e)) (fun H4 e => q2 H4 (by rw [hx]; exact e))
  · rw [h1]
    congr 2
    have e := congrArg (List.filterMap f) (range_get xs)
    rw [List.filterMap_filterMap] at e
    exact e
/-- a comprehension whose turns draw from the bag -/
theorem lc_bag {J : It} {n : Nat} {G : Hp → Prop} {Y : Nat → Hp → V → Hp → Prop} (wk : Walk J n G Y) {g : TG} {tt : TT} {te : TE} {vs : List Nat} {σ : L2.St} {H : Hp} {Q : VK} {a c : Addr} {ns : List Int} (hB : Bag a c ns H) (hG : ∀ H', Ext H H' → G H') (R : V → Prop) (hR : ∀ xs, (∀ x ∈ xs, R x) → isBag (.lst xs) = false) (hn : n ≤ 1000)
    (hs : ∀ i x H2 H3 (Q' : VK) (N' : Hp → Prop), i < n → Ext H H2 → Bag a c ns H2 → Y i H2 x H3 → (∀ v H4, R v → Ext H2 H4 → Bag a c ns H4 → Q' v H4) →
      g x (wipe σ vs) H3 fun σ2 H4 => wipe σ2 vs = wipe σ vs ∧ tt σ2 H4 fun b H5 => if b = true then te σ2 H5 Q' else N' H5)
    (hd : ∀ D H' xs, H D = none → Ext H H' → Bag a c ns H' → H' D = some (.lst xs) → xs.length = n → (∀ x ∈ xs, R x) → Q (.ref D) H') : LcB J g tt te vs σ H Q := by
  intro D hD
  obtain ⟨ha, hc⟩ := hB.free hD
  refine lc_it wk (Pv := fun i H2 => Ext H H2 ∧ Bag a c ns H2 ∧ ∃ xs, H2 D = some (.lst xs) ∧ xs.length = i ∧ ∀ x ∈ xs, R x) ⟨Ext.chg (.refl _) Chg.of hD, hB.chg Chg.of ha hc, [], upd_same, rfl, fun x h => by cases h⟩ (fun i H2 _ p => hG _ p.1) (fun i x H2 H3 hi p y => ?_) (fun H2 ⟨p1, p2, xs, p3, p4, p5⟩ => hd D H2 xs hD p1 p2 p3 p4 p5)
  obtain ⟨p1, p2, xs, p3, p4, p5⟩ := p
  refine hs i x H2 H3 _ _ hi p1 p2 y (fun v H4 hv e4 B4 => ⟨xs, e4 _ _ p3 (hR _ p5), ?_, (p1.trans e4).chg Chg.of hD, B4.chg Chg.of ha hc, xs ++ [v], upd_same, ?_, ?_⟩)
  · exact sz_smaller (by omega)
  · rw [List.length_append, p4] <;> rfl
  · intro x hx
    rcases List.mem_append.mp hx with hx | hx
    · exact p5 x hx
    · rw [List.mem_singleton.mp hx]
      exact hv
theorem bag_allint {xs : List V} (h : ∀ x ∈ xs, ∃ i, x = V.int i) : isBag (.lst xs) = false := by
  unfold isBag
  split
  · rename_i e
    cases e
    obtain ⟨a, e⟩ := h _ (List.mem_cons_self ..)
    cases e
  · rfl
theorem ints_of {xs : List V} {R : Int → Prop} (h : ∀ x ∈ xs, ∃ i, x = V.int i ∧ R i) : ∃ is : List Int, xs = is.map V.int ∧ ∀ i ∈ is, R i := by
  induction xs with
  | nil => exact ⟨[], rfl, fun i h => by cases h⟩
  | cons x xs ih =>
    obtain ⟨is, rfl, hs⟩ := ih fun y hy => h y (List.mem_cons_of_mem _ hy)
    obtain ⟨i, rfl, hi⟩ := h _ (List.mem_cons_self ..)
    refine ⟨i :: is, rfl, fun j hj => ?_⟩
    rcases List.mem_cons.mp hj with rfl | hj
    · exact hi
    · exact hs j hj
end comps2
section field
def per (d : Int) : List Int := if d = 2 then [2] else if d = 3 then [1, 2] else if d = 5 then [1] else if d = 6 then [2, 4] else [3]
def mxp (d : Int) : Int := if d = 2 then 2 else if d = 3 then 2 else if d = 5 then 1 else if d = 6 then 4 else 3
def tlT (d t : Int) : Int × Int × Int := if d = 2 then (1, 1, 1) else if d = 3 then (if t = 0 then (1, 1, 2) else (1, 1, 1)) else if d = 5 then (1, 1, 2) else if d = 6 then (if t = 0 then (2, 1, 2) else (2, 1, 1)) else (3, 1, 2)
theorem roots_cases {d : Int} (h : d ∈ roots) : d = 2 ∨ d = 3 ∨ d = 5 ∨ d = 6 ∨ d = 13 := by
  simpa [roots] using h
theorem per_len {d : Int} (h : d ∈ roots) : 0 < (per d).length ∧ (per d).length ≤ 2 := by
  rcases roots_cases h with rfl | rfl | rfl | rfl | rfl <;> decide
theorem per_max {d : Int} (h : d ∈ roots) : mxp d ∈ per d ∧ ∀ y ∈ per d, y ≤ mxp d := by
  rcases roots_cases h with rfl | rfl | rfl | rfl | rfl <;> decide
theorem mxp_le {d : Int} (h : d ∈ roots) : 1 ≤ mxp d ∧ mxp d ≤ 4 := by
  rcases roots_cases h with rfl | rfl | rfl | rfl | rfl <;> decide
theorem bs_facts {d : Int} (h : d ∈ roots) : ∃ i j k : Int, List.lookup d [((2 : Int), [-1, 1, 1]), (3, [-1, 1, 1]), (5, [-1, 1, 2]), (6, [-2, 1, 1]), (13, [-3, 1, 2])] = some [i, j, k] ∧ nG i j k = 1 ∧ 0 < k ∧ (i.natAbs ≤ 20 ∧ j.natAbs ≤ 20 ∧ k.natAbs ≤ 20) ∧
    i * i - d * j * j ≠ 0 ∧ ((i * k).natAbs ≤ 900 ∧ (-j * k).natAbs ≤ 900 ∧ (i * i - d * j * j).natAbs ≤ 900) ∧
    ((i * k).fdiv (nG (i * k) (-j * k) (i * i - d * j * j)), (-j * k).fdiv (nG (i * k) (-j * k) (i * i - d * j * j)), (i * i - d * j * j).fdiv (nG (i * k) (-j * k) (i * i - d * j * j))) = tlT d 0 := by
  rcases roots_cases h with rfl | rfl | rfl | rfl | rfl
  · exact ⟨-1, 1, 1, by decide +kernel⟩
  · exact ⟨-1, 1, 1, by decide +kernel⟩
  · exact ⟨-1, 1, 2, by decide +kernel⟩
  · exact ⟨-2, 1, 1, by decide +kernel⟩
  · exact ⟨-3, 1, 2, by decide +kernel⟩
theorem per_lookup {d : Int} (h : d ∈ roots) : List.lookup d [((2 : Int), [(2 : Int)]), (3, [1, 2]), (5, [1]), (6, [2, 4]), (13, [3])] = some (per d) := by
  rcases roots_cases h with rfl | rfl | rfl | rfl | rfl <;> decide
def nrm (i j k : Int) : Int × Int × Int := (i.fdiv (nG i j k), j.fdiv (nG i j k), k.fdiv (nG i j k))
theorem tl_facts {d t : Int} (h : d ∈ roots) : 0 < (tlT d t).2.2 ∧ (tlT d t).1.natAbs ≤ 20 ∧ (tlT d t).2.1.natAbs ≤ 20 ∧ (tlT d t).2.2.natAbs ≤ 20 := by
  by_cases z : t = 0
  · subst z
    rcases roots_cases h with rfl | rfl | rfl | rfl | rfl <;> decide
  · rcases roots_cases h with rfl | rfl | rfl | rfl | rfl <;> simp [tlT, z]
/-- the second tail of a field with two parts -/
theorem tl_step {d : Int} (h : d ∈ roots) (hl : 1 < (per d).length) : ∃ p i j k a b c : Int, atI ((per d).map V.int) 0 = some (V.int p) ∧ p.natAbs ≤ 20 ∧ tlT d 0 = (i, j, k) ∧ nrm p 0 1 = (p, 0, 1) ∧ nrm (i * 1 - p * k) (j * 1 - 0 * k) (k * 1) = (a, b, c) ∧
    (a.natAbs ≤ 20 ∧ b.natAbs ≤ 20 ∧ c.natAbs ≤ 20) ∧ a * a - d * b * b ≠ 0 ∧ ((a * c).natAbs ≤ 900 ∧ (-b * c).natAbs ≤ 900 ∧ (a * a - d * b * b).natAbs ≤ 900) ∧ nrm (a * c) (-b * c) (a * a - d * b * b) = tlT d 1 := by
  rcases roots_cases h with rfl | rfl | rfl | rfl | rfl
  · exact absurd hl (by decide)
  · exact ⟨1, 1, 1, 2, -1, 1, 2, rfl, by decide +kernel⟩
  · exact absurd hl (by decide)
  · exact ⟨2, 2, 1, 2, -2, 1, 2, rfl, by decide +kernel⟩
  · exact absurd hl (by decide)
/-- the field of root d at a -/
def FieldAt (K : PySem.W.Frag) (H : Hp) (a : Addr) (d : Int) : Prop := ∃ dx p q, H a = some (.ins (He.ga K "Field") dx [("own_root", .int d), ("own_period", .ref p), ("relations", .ref q)]) ∧ (∀ H, SqT K H p ((per d).map V.int)) ∧ d ∈ roots
theorem FieldAt.ext {K : PySem.W.Frag} {H H' : Hp} {a : Addr} {d : Int} (e : Ext H H') (h : FieldAt K H a d) : FieldAt K H' a d := by
  obtain ⟨dx, p, q, h1, h2⟩ := h
  exact ⟨dx, p, q, e _ _ h1 rfl, h2⟩
theorem FieldAt.same {K : PySem.W.Frag} {H H' : Hp} {a : Addr} {d : Int} (e : Same H H') (h : FieldAt K H a d) : FieldAt K H' a d := h.ext (.of e)
theorem FieldAt.rt {K : PySem.W.Frag} {H : Hp} {a : Addr} {d : Int} (h : FieldAt K H a d) : d ∈ roots := by
  obtain ⟨_, _, _, _, _, h⟩ := h
  exact h
def spFInit (K : PySem.W.Frag) : Sp := fun vs H Q _ => ∃ (x dx : Addr) (d : Int), vs = [.ref x, .int d] ∧ H x = some (.ins (He.ga K "Field") dx []) ∧ d ∈ roots ∧ ∀ H', Keep x H H' → FieldAt K H' x d → Q .non H'
def MkF (K : PySem.W.Frag) (d : Int) (H : Hp) (Q : VK) : Prop := d ∈ roots ∧ ∀ x H', Same H H' → FieldAt K H' x d → Q (.ref x) H'
theorem rd_mkF {K : PySem.W.Frag} {d : Int} {H : Hp} {Q : VK} (h : MkF K d H Q) : MkB0 (He.ga K "Field") (spFInit K) [] [.int d] H Q := by
  obtain ⟨h1, q⟩ := h
  refine fun x dx hx hd ne => ?_
  exact ⟨x, dx, d, rfl, upd_same, h1, fun H' kp sa => ⟨rfl, q x H' (mks_new hx hd kp) sa⟩⟩
theorem rd_mkS2 {K : PySem.W.Frag} {d i : Int} {H : Hp} {Q : VK} (h : MkS K d i 0 1 H Q) : MkB0 (He.ga K "Surd") (spInit K) [.int 0, .int 1] [.int d, .int i] H Q := by
  obtain ⟨n, h1, h2, h3, h4, h5, h6, h7, q⟩ := h
  refine fun x dx hx hd ne => ?_
  exact ⟨x, dx, d, i, 0, 1, n, rfl, upd_same, h1, h2, h3, h4, h5, h6, h7, fun H' kp sa => ⟨rfl, q x H' (mks_new hx hd kp) sa⟩⟩
section
variable {K : PySem.W.Frag} {H : Hp} {a : Addr} {d : Int} {m : Str} {sp : Sp} {dvs : List V} {E : XK} {t : TA} {σ : L2.St} {Q : VK}
theorem FieldAt.me (S : FieldAt K H a d) (q : t σ H fun vs H2 => sp (.ref a :: (vs ++ dvs)) H2 Q E) (hl : ∀ u v w : V, List.lookup m [(("own_root" : Str), u), (("own_period" : Str), v), (("relations" : Str), w)] = none := by intros; rfl) : MeB (He.ga K "Field") m sp dvs E t σ (.ref a) H Q := by
  obtain ⟨dx, p, q', h1, _⟩ := S
  exact rd_meB h1 (hl _ _ _) q
theorem FieldAt.pr (S : FieldAt K H a d) (q : sp (.ref a :: dvs) H Q E) : PrB (He.ga K "Field") sp dvs E (.ref a) H Q := by
  obtain ⟨dx, p, q', h1, _⟩ := S
  exact rd_prB h1 q
end
def spRootF (K : PySem.W.Frag) : Sp := fun vs H Q _ => ∃ (a : Addr) (d : Int), vs = [.ref a] ∧ FieldAt K H a d ∧ Q (.int d) H
def spPeriodF (K : PySem.W.Frag) : Sp := fun vs H Q _ => ∃ (a : Addr) (d : Int), vs = [.ref a] ∧ FieldAt K H a d ∧ ∀ p, (∀ H, SqT K H p ((per d).map V.int)) → Q (.ref p) H
def spTopF (K : PySem.W.Frag) : Sp := fun vs H Q _ => ∃ (a : Addr) (d : Int), vs = [.ref a] ∧ FieldAt K H a d ∧ Q (.int (mxp d)) H
def spBaseF (K : PySem.W.Frag) : Sp := fun vs H Q _ => ∃ (a : Addr) (d : Int), vs = [.ref a] ∧ FieldAt K H a d ∧ ∀ x i j k H', List.lookup d [((2 : Int), [-1, 1, 1]), (3, [-1, 1, 1]), (5, [-1, 1, 2]), (6, [-2, 1, 1]), (13, [-3, 1, 2])] = some [i, j, k] → Same H H' → SurdAt K 30 H' x d i j k → Q (.ref x) H'
def spTailF (K : PySem.W.Frag) : Sp := fun vs H Q _ => ∃ (a : Addr) (d t : Int), vs = [.ref a, .int t] ∧ FieldAt K H a d ∧ 0 ≤ t ∧ t < (per d).length ∧ ∀ x H', Same H H' → SurdAt K 30 H' x d (tlT d t).1 (tlT d t).2.1 (tlT d t).2.2 → Q (.ref x) H'
/-- u - v z is from -b to b, z = (i + j r) / k -/
def inB (d b u v : Int) (z : Int × Int × Int) : Bool := decide (0 ≤ sgn d (b * z.2.2 - u * z.2.2 + v * z.1) (v * z.2.1)) && decide (0 ≤ sgn d (b * z.2.2 + u * z.2.2 - v * z.1) (-v * z.2.1))
def tlAt (d pl : Int) : Int × Int × Int := tlT d (pl % (per d).length)
def sumAbs (fs : List Int) : Int := (fs.map fun f => ((f.natAbs : Nat) : Int)).sum
def bnd (d : Int) (fs : List Int) : Int := 3 * mxp d * sumAbs fs
def SqA (K : PySem.W.Frag) (H : Hp) (a : Addr) (xs : List V) : Prop := SqL K H a xs ∨ SqT K H a xs
theorem sq_t {K : PySem.W.Frag} {H H' : Hp} {a : Addr} {xs : List V} (e : Same H H') (h : SqT K H a xs) : SqT K H' a xs := SqT.same e h
theorem sq_l {K : PySem.W.Frag} {H H' : Hp} {a : Addr} {xs : List V} (e : Same H H') (h : SqL K H a xs) : SqL K H' a xs := by
  rcases h with (h | ⟨o, h⟩) | h
  · exact .inl (.inl (e _ _ h))
  · exact .inl (.inr ⟨o, e _ _ h⟩)
  · exact .inr h
theorem SqA.same {K : PySem.W.Frag} {H H' : Hp} {a : Addr} {xs : List V} (e : Same H H') (h : SqA K H a xs) : SqA K H' a xs := by
  rcases h with h | h
  · refine .inl ?_
    rcases h with (h | ⟨o, h⟩) | h
    · exact .inl (.inl (e _ _ h))
    · exact .inl (.inr ⟨o, e _ _ h⟩)
    · exact .inr h
  · exact .inr (SqT.same e h)
def spBound (K : PySem.W.Frag) : Sp := fun vs H Q _ => ∃ (a l : Addr) (d : Int) (fs : List Int), vs = [.ref a, .ref l] ∧ FieldAt K H a d ∧ SqA K H l (fs.map V.int) ∧ fs.length ≤ 1000 ∧ W 30 (sumAbs fs) ∧ ∀ H', Same H H' → Q (.int (bnd d fs)) H'
def spWithinF (K : PySem.W.Frag) : Sp := fun vs H Q _ => ∃ (a p : Addr) (d b u v pl : Int), vs = [.ref a, .int b, .ref p, .int pl] ∧ FieldAt K H a d ∧ H p = some (.tup [.int u, .int v]) ∧ 0 ≤ pl ∧ W 2500 b ∧ W 2500 u ∧ W 2500 v ∧ ∀ H', Same H H' → Q (.bl (inB d b u v (tlAt d pl))) H'
def spKept (K : PySem.W.Frag) : Sp := fun vs H Q _ => ∃ (a l p : Addr) (d : Int) (fs : List Int) (u v pl : Int), vs = [.ref a, .ref l, .ref p, .int pl] ∧ FieldAt K H a d ∧ SqA K H l (fs.map V.int) ∧ fs.length ≤ 1000 ∧ W 30 (sumAbs fs) ∧ H p = some (.tup [.int u, .int v]) ∧ 0 ≤ pl ∧ W 500 u ∧ W 500 v ∧
  ∀ H', Same H H' → Q (.bl (inB d (bnd d fs) u v (tlAt d pl))) H'
def absV : V → Option V := fun v => match v with | .int i => some (V.int ((i.natAbs : Nat) : Int)) | _ => none
theorem sum_abs (fs : List Int) : ((fs.map V.int).filterMap absV) = (fs.map fun f => ((f.natAbs : Nat) : Int)).map V.int := by
  induction fs with
  | nil => rfl
  | cons a l ih =>
    rw [List.map_cons, List.filterMap_cons, List.map_cons, List.map_cons, ← ih] <;> rfl
theorem bnd_W {d : Int} {fs : List Int} (hd : d ∈ roots) (h : W 30 (sumAbs fs)) : W 500 (bnd d fs) := by
  have mw : W 30 (mxp d) := W.small (by have := mxp_le hd; omega)
  exact (((show W 30 3 from W.small (by decide)).mul mw).mul h).mono (by decide)
end field
/-! ## the law's own field: promises -/
section lawfield
theorem c_lenK {X : Cx} {K : PySem.W.Frag} (h : X.K = K) : CallR X (.builtin "len") (rLenX K) := by
  subst h
  exact c_len
theorem ix_listK {X : Cx} {K : PySem.W.Frag} (h : X.K = K) : IxR X (rIxL K) := by
  subst h
  exact ix_list
theorem ix_tupK {X : Cx} {K : PySem.W.Frag} (h : X.K = K) : IxR X (rIxT K) := by
  subst h
  exact ix_tup
theorem pi_listK {X : Cx} {K : PySem.W.Frag} {tg l : Expr} {tl : TE} (h : X.K = K) (hl : PE X l tl) : PI X tg l (iList K tl) := by
  subst h
  exact pi_list hl
theorem op_neDK {X : Cx} {K : PySem.W.Frag} (h : X.K = K) (hu : X.A.units + 64 < cLine) : OpR X (compareOp .NotEq) (rNeD K) := by
  subst h
  exact op_neD hu
theorem op_eqDK {X : Cx} {K : PySem.W.Frag} (h : X.K = K) (hu : X.A.units + 64 < cLine) : OpR X (compareOp .Eq) (rEqD K) := by
  subst h
  exact op_eqD hu
theorem pe_tupleOfK {X : Cx} {K : PySem.W.Frag} {a : Expr} {ta : TE} {p pos : Pos} (h : X.K = K) (hg : Gl X "tuple") (hm : X.mg "tuple" = none) (ha : PE X a ta) (na : starEach [a] X.env = (false, eval a X.env) :: starEach [] X.env := by rfl) : PE X (.Call (.Name "tuple" p) [a] [] pos) (tThen ta (kTup K)) := by
  subst h
  exact pe_tupleOf hg hm ha na
theorem none_back {H H' : Hp} {p : Addr} (s : Same H H') (n : H' p = none) : H p = none := by
  cases e : H p with
  | none => rfl
  | some o =>
    rw [s _ _ e] at n
    cases n
/-- floor (j r) against an integer -/
theorem floor_lt {d j m o : Int} (hd : d ∈ roots) (hm : IsMul d j m) : (m < o + (if j = 0 then 1 else 0)) ↔ 0 ≤ sgn d o (-j) := by
  have e : sgn d o (-j) = -sgn d (-o) j := by
    rw [← sgn_neg hd, Int.neg_neg]
  rw [e, sgn_eq hd hm]
  by_cases z : j = 0
  · subst z
    have m0 : m = 0 := by
      have := hm.1 (by decide)
      exact this.uniq (s := 0) ⟨by decide, by rw [Int.zero_mul, Int.zero_mul]; decide, by rw [Int.zero_mul, Int.zero_mul]; decide⟩
    subst m0
    rw [if_pos rfl]
    split
    · omega
    · split
      · omega
      · omega
  · rw [if_neg z, if_neg (fun h => z h.2)]
    split
    · omega
    · rename_i h
      have : ¬ 0 ≤ -o + m := fun c => h ⟨c, .inl z⟩
      omega
def atMost (d i j k b : Int) : Bool := decide (0 ≤ sgn d (b * k - i) (-j)) && decide (0 ≤ sgn d (b * k + i) j)
def spAtMost : Sp := fun vs H Q _ => ∃ d i j k b : Int, vs = [.int d, .int i, .int j, .int k, .int b] ∧ d ∈ roots ∧ W 1000 i ∧ W 1000 j ∧ W 1000 k ∧ W 1000 b ∧ ∀ H', Same H H' → Q (.bl (atMost d i j k b)) H'
def spLPeriod : Sp := fun vs H Q _ => ∃ d : Int, vs = [.int d] ∧ d ∈ roots ∧ ∀ l H', H l = none → Same H H' → H' l = some (.lst ((per d).map V.int)) → Q (.ref l) H'
def spLTail : Sp := fun vs H Q _ => ∃ d pl : Int, vs = [.int d, .int pl] ∧ d ∈ roots ∧ 0 ≤ pl ∧ ∀ l i j k H', Same H H' → tlAt d pl = (i, j, k) → H' l = some (.tup [.int i, .int j, .int k]) → Q (.ref l) H'
def spLBound (K : PySem.W.Frag) : Sp := fun vs H Q _ => ∃ (l : Addr) (d : Int) (fs : List Int), vs = [.int d, .ref l] ∧ d ∈ roots ∧ SqL K H l (fs.map V.int) ∧ fs.length ≤ 1000 ∧ W 30 (sumAbs fs) ∧ ∀ H', Same H H' → Q (.int (bnd d fs)) H'
def spLKept (K : PySem.W.Frag) : Sp := fun vs H Q _ => ∃ (l : Addr) (d : Int) (fs : List Int) (u v pl : Int), vs = [.int d, .ref l, .int u, .int v, .int pl] ∧ d ∈ roots ∧ SqL K H l (fs.map V.int) ∧ isBag (.lst (fs.map V.int)) = false ∧ fs.length ≤ 1000 ∧ W 30 (sumAbs fs) ∧ 0 ≤ pl ∧ W 960 u ∧ W 960 v ∧
  ∀ H', Same H H' → Q (.bl (inB d (bnd d fs) u v (tlAt d pl))) H'
theorem kept_law {d b u v i j k : Int} : atMost d (u * k - v * i) (-v * j) k b = inB d b u v (i, j, k) := by
  unfold atMost inB
  dsimp only
  rw [show b * k - (u * k - v * i) = b * k - u * k + v * i by omega, show b * k + (u * k - v * i) = b * k + u * k - v * i by omega, show -(-v * j) = v * j by rw [Int.neg_mul, Int.neg_neg]]
/-- the factors that the law draws -/
def fac (x : Int) : Prop := x.natAbs ≤ 5
theorem fac_sum {fs : List Int} (h : ∀ x ∈ fs, fac x) : 0 ≤ sumAbs fs ∧ sumAbs fs ≤ 5 * fs.length := by
  induction fs with
  | nil => exact ⟨by decide, by decide⟩
  | cons a l ih =>
    obtain ⟨i1, i2⟩ := ih fun x hx => h x (List.mem_cons_of_mem _ hx)
    have := h a (List.mem_cons_self ..)
    unfold fac at this
    have e : sumAbs (a :: l) = (a.natAbs : Int) + sumAbs l := by
      unfold sumAbs
      rw [List.map_cons, List.sum_cons]
    rw [e, List.length_cons]
    omega
theorem fac_W {fs : List Int} (h : ∀ x ∈ fs, fac x) (hl : fs.length ≤ 1000) : W 30 (sumAbs fs) := by
  have := fac_sum h
  exact W.small (by omega)
def spLFactors (K : PySem.W.Frag) : Sp := fun vs H Q _ => ∃ (a c : Addr) (ns : List Int) (n : Int), vs = [.ref a, .int n] ∧ Bag a c ns H ∧ 0 ≤ n ∧ n ≤ 10 ∧ ∀ (l : Addr) (fs : List Int) H', Ext H H' → Bag a c ns H' → H' l = some (.lst (fs.map V.int)) → fs.length = n.toNat → (∀ x ∈ fs, fac x) → Q (.ref l) H'
end lawfield
/-! ## lists: +, *, [::-1], pop; comprehensions that draw data -/
section lists2
variable {K : PySem.W.Frag} {σ : L2.St} {H : Hp} {Q : VK} {te : TE}
def RevB (K : PySem.W.Frag) (x : V) (H : Hp) (Q : VK) : Prop := ∃ a xs, x = .ref a ∧ SqL K H a xs ∧ ∀ p, H p = none → Q (.ref p) (upd H p (.lst xs.reverse))
theorem rd_revL (h : te σ H fun x H1 => RevB K x H1 Q) : tRevL K te σ H Q := h
theorem rd_revB {a : Addr} {xs : List V} (h : SqL K H a xs) (q : ∀ p H2, H p = none → Same H H2 → H2 p = some (.lst xs.reverse) → Q (.ref p) H2) : RevB K (.ref a) H Q := ⟨a, xs, rfl, h, fun p hp => q p _ hp (Same.new hp) upd_same⟩
theorem rd_cat {l b : Addr} {xs zs : List V} (h1 : H l = some (.lst xs)) (h2 : H b = some (.lst zs)) (hl : xs.length + zs.length ≤ sizeLine) (q : ∀ p H2, H p = none → Same H H2 → H2 p = some (.lst (xs ++ zs)) → Q (.ref p) H2) : rCat (.ref l) (.ref b) H Q := ⟨l, b, xs, zs, rfl, rfl, h1, h2, hl, fun p hp => q p _ hp (Same.new hp) upd_same⟩
theorem rd_repQ {l : Addr} {k : Int} {xs : List V} (h : H l = some (.lst xs)) (k0 : 0 ≤ k) (k1 : k ≤ 1000) (hl : xs.length ≤ 1000) (q : ∀ p H2, H p = none → Same H H2 → H2 p = some (.lst (List.replicate k.toNat xs).flatten) → Q (.ref p) H2) : rRep (.ref l) (.int k) H Q := by
  refine ⟨l, k, xs, rfl, rfl, h, by omega, by omega, ?_, fun p hp => q p _ hp (Same.new hp) upd_same⟩
  have h1 : xs.length * k.toNat ≤ 1000 * 1000 := Nat.mul_le_mul hl (by omega)
  exact Nat.le_trans h1 (by decide)
end lists2
section drawnQ
/-- a comprehension whose turns draw data from the bag; al: turns may give nothing -/
theorem lc_bagD {J : It} {n : Nat} {G : Hp → Prop} {Y : Nat → Hp → V → Hp → Prop} (wk : Walk J n G Y) {g : TG} {tt : TT} {te : TE} {vs : List Nat} {σ : L2.St} {H : Hp} {Q : VK} {a c : Addr} {ns : List Int} (hB : Bag a c ns H) (hG : ∀ H', Ext H H' → G H') (R : Hp → V → Prop) (hR : ∀ H xs, (∀ x ∈ xs, R H x) → isBag (.lst xs) = false) (hT : ∀ H H' x, Tps H H' → R H x → R H' x) (al : Prop) (hn : n ≤ 1000)
    (hs : ∀ i x H2 H3 (Q' : VK) (N' : Hp → Prop), i < n → Ext H H2 → Bag a c ns H2 → Y i H2 x H3 → (∀ v H4, R H4 v → Ext H2 H4 → Bag a c ns H4 → Q' v H4) → (∀ H4, al → Ext H2 H4 → Bag a c ns H4 → N' H4) →
      g x (wipe σ vs) H3 fun σ2 H4 => wipe σ2 vs = wipe σ vs ∧ tt σ2 H4 fun b H5 => if b = true then te σ2 H5 Q' else N' H5)
    (hd : ∀ D H' xs, H D = none → Ext H H' → Bag a c ns H' → H' D = some (.lst xs) → xs.length ≤ n → (¬ al → xs.length = n) → (∀ x ∈ xs, R H' x) → Q (.ref D) H') : LcB J g tt te vs σ H Q := by
  intro D hD
  obtain ⟨ha, hc⟩ := hB.free hD
  refine lc_it wk (Pv := fun i H2 => Ext H H2 ∧ Bag a c ns H2 ∧ ∃ xs, H2 D = some (.lst xs) ∧ xs.length ≤ i ∧ (¬ al → xs.length = i) ∧ ∀ x ∈ xs, R H2 x) ⟨Ext.chg (.refl _) Chg.of hD, hB.chg Chg.of ha hc, [], upd_same, Nat.le_refl _, fun _ => rfl, fun x h => by cases h⟩ (fun i H2 _ p => hG _ p.1) (fun i x H2 H3 hi p y => ?_) (fun H2 ⟨p1, p2, xs, p3, p4, p5, p6⟩ => hd D H2 xs hD p1 p2 p3 p4 p5 p6)
  obtain ⟨p1, p2, xs, p3, p4, p5, p6⟩ := p
  refine hs i x H2 H3 _ _ hi p1 p2 y (fun v H4 hv e4 B4 => ⟨xs, e4 _ _ p3 (hR _ _ p6), ?_, (p1.trans e4).chg Chg.of hD, B4.chg Chg.of ha hc, xs ++ [v], upd_same, ?_, ?_, ?_⟩) (fun H4 h e4 B4 => ⟨p1.trans e4, B4, xs, e4 _ _ p3 (hR _ _ p6), Nat.le_succ_of_le p4, fun z => absurd h z, fun x hx => hT _ _ _ (Tps.of e4) (p6 x hx)⟩)
  · exact sz_smaller (by omega)
  · rw [List.length_append]; exact Nat.succ_le_succ p4
  · intro z
    rw [List.length_append, p5 z] <;> rfl
  · have t4 : Tps H4 (upd H4 D (.lst (xs ++ [v]))) := Tps.chg Chg.of (e4 _ _ p3 (hR _ _ p6))
    intro x hx
    rcases List.mem_append.mp hx with hx | hx
    · exact hT _ _ _ t4 (hT _ _ _ (Tps.of e4) (p6 x hx))
    · rw [List.mem_singleton.mp hx]
      exact hT _ _ _ t4 hv
/-- things that stand for data -/
def DG (m : Nat) (G : PyData → Prop) (H : Hp) (x : V) : Prop := ∃ d, Dt m H x d ∧ G d
theorem DG.tps {m : Nat} {G : PyData → Prop} (H H' : Hp) (x : V) (t : Tps H H') (h : DG m G H x) : DG m G H' x := by
  obtain ⟨d, h1, h2⟩ := h
  exact ⟨d, h1.keep t, h2⟩
theorem DG.list {m : Nat} {G : PyData → Prop} {H : Hp} : ∀ {xs : List V}, (∀ x ∈ xs, DG m G H x) → ∃ ds, Paired (Dt m H) xs ds ∧ ∀ d ∈ ds, G d
  | [], _ => ⟨[], .nil, fun d h => by cases h⟩
  | x :: xs, h => by
    obtain ⟨d, h1, h2⟩ := h x (List.mem_cons_self ..)
    obtain ⟨ds, p, q⟩ := DG.list fun y hy => h y (List.mem_cons_of_mem _ hy)
    refine ⟨d :: ds, .cons h1 p, fun e he => ?_⟩
    rcases List.mem_cons.mp he with rfl | he
    · exact h2
    · exact q e he
theorem bag_nint {xs : List V} (h : ∀ x ∈ xs, ∀ i, x ≠ V.int i) : isBag (.lst xs) = false := by
  unfold isBag
  split
  · rename_i e
    cases e
    exact absurd rfl (h _ (List.mem_cons_of_mem _ (List.mem_cons_self ..)) _)
  · rfl
theorem bag_tups {m : Nat} {G : PyData → Prop} (hG : ∀ d, G d → ∃ es, d = .tuple es) (H : Hp) (xs : List V) (h : ∀ x ∈ xs, DG m G H x) : isBag (.lst xs) = false := by
  refine bag_allref fun x hx => ?_
  obtain ⟨d, h1, h2⟩ := h x hx
  obtain ⟨es, rfl⟩ := hG d h2
  obtain ⟨_, p, _, _, e, _⟩ := h1.of_tuple
  exact ⟨p, e⟩
end drawnQ
section pops
variable {K : PySem.W.Frag} {σ : L2.St} {H : Hp} {Q : VK} {to : TE}
def Bm0 (K : PySem.W.Frag) (T : String) (r : V → List V → Hp → VK → Prop) (x : V) (H : Hp) (Q : VK) : Prop := tyV K T x H ∧ r x [] H Q
theorem rd_bm0 {T : String} {r : V → List V → Hp → VK → Prop} (h : to σ H fun x H1 => Bm0 K T r x H1 Q) : tBM0 K T r to σ H Q := h
theorem rd_pop {l : Addr} {xs : List V} {y : V} (h : H l = some (.lst (xs ++ [y]))) (q : ∀ H2, Chg l H H2 → H2 l = some (.lst xs) → Q y H2) : Bm0 K "list" rPop (.ref l) H Q := by
  refine ⟨.inl ⟨rfl, _, sqL_of h⟩, l, xs ++ [y], y, rfl, rfl, h, by simp, ?_⟩
  rw [List.dropLast_concat]
  exact q _ Chg.of upd_same
end pops
section pairedQ
theorem paired_rev {α β : Type} {F : α → β → Prop} {xs : List α} {ys : List β} (h : Paired F xs ys) : Paired F xs.reverse ys.reverse := by
  induction h with
  | nil => exact .nil
  | cons a _ ih =>
    rw [List.reverse_cons, List.reverse_cons]
    exact ih.snoc a
theorem paired_app {α β : Type} {F : α → β → Prop} {xs xs' : List α} {ys ys' : List β} (h : Paired F xs ys) (h' : Paired F xs' ys') : Paired F (xs ++ xs') (ys ++ ys') := by
  induction h with
  | nil => exact h'
  | cons a _ ih => exact .cons a ih
theorem paired_last {α β : Type} {F : α → β → Prop} {xs : List α} {ys : List β} (h : Paired F xs ys) (hn : ys ≠ []) : ∃ xs' x ys' y, xs = xs' ++ [x] ∧ ys = ys' ++ [y] ∧ Paired F xs' ys' ∧ F x y := by
  have hr := paired_rev h
  cases e : ys.reverse with
  | nil => exact absurd (List.reverse_eq_nil_iff.mp e) hn
  | cons y r =>
    rw [e] at hr
    cases e2 : xs.reverse with
    | nil => rw [e2] at hr; cases hr
    | cons x r2 =>
      rw [e2] at hr
      cases hr with
      | cons a p =>
        refine ⟨r2.reverse, x, r.reverse, y, ?_, ?_, paired_rev p, a⟩
        · rw [← List.reverse_cons, ← e2, List.reverse_reverse]
        · rw [← List.reverse_cons, ← e, List.reverse_reverse]
end pairedQ
/-! ## zip of lists and tuples, mixed -/
section zipm
variable {prog : Program} {w : World} {A : Around} {E : Value → Shared → Prop} {s : Shared} {K : PySem.W.Frag}
def SqB (K : PySem.W.Frag) (H : Hp) (b : Bool) (a : Addr) (xs : List V) : Prop := if b = true then SqT K H a xs else SqL K H a xs
def HpIt (b : Bool) (h : Heap) (it l : Addr) (i : Nat) : Prop := if b = true then h.IsTupleIter it l i else h.IsListIter it l i
def HpSq (b : Bool) (h : Heap) (l : Addr) (xs : Array Value) : Prop := if b = true then h.IsTuple l xs else h.IsList l xs
def itN (b : Bool) : String := if b = true then "tuple_iterator" else "list_iterator"
def itO (b : Bool) (l : Addr) : Obj := { cls := .type (itN b), data := .fields #[.ref l, .int 0 0] }
theorem HpIt.obj {b : Bool} {h : Heap} {it l : Addr} {i : Nat} (q : HpIt b h it l i) : ∃ o vs, h.get? it = some o ∧ o.data = .fields vs := by
  cases b <;> (obtain ⟨o, e1, _, e2⟩ := q; exact ⟨o, _, e1, e2⟩)
theorem HpIt.move {b : Bool} {h h' : Heap} {it l : Addr} {i : Nat} (q : HpIt b h it l i) (k : ∀ o, h.get? it = some o → h'.get? it = some o) : HpIt b h' it l i := by
  cases b
  · exact Heap.IsListIter.at q k
  · exact Heap.IsTupleIter.at q k
theorem HpIt.new {b : Bool} {h : Heap} {it l : Addr} (e : h.get? it = some (itO b l)) : HpIt b h it l 0 := by
  cases b <;> exact ⟨_, e, rfl, rfl⟩
theorem HpSq.push {b : Bool} {h : Heap} {l : Addr} {xs : Array Value} (q : HpSq b h l xs) (o : Obj) : HpSq b (h.push o) l xs := by
  cases b
  · exact Heap.IsList.push q o
  · exact Heap.IsTuple.push q o
theorem drawB {it l : Addr} (b : Bool) (hh : A.handled = none) (hne : l ≠ it) (items : Array Value) : Draws prog w A it [it, l] items.size (fun i v => items[i]? = some v) (fun i h => HpIt b h it l i ∧ HpSq b h l items) := by
  cases b
  · exact Draws.list hh it l hne items
  · exact Draws.tuple hh it l hne items
theorem iterB {b : Bool} {l : Addr} {xs : Array Value} {Q : Value → Shared → Prop} (h : HpSq b s.heap l xs) (hQ : Q (.ref s.heap.objs.size) { s with heap := s.heap.push (itO b l) }) : wpAny (model prog w) A (pyIter (.ref l)) Q E s := by
  cases b
  · exact wpAny_pyIter_list h hQ
  · exact wpAny_pyIter_tuple h hQ
theorem inv_sq {X : Cx} {pins : List (Addr × Obj)} {σ : L2.St} {H : Hp} {b : Bool} {a : Addr} {xs : List V} (I : Inv X pins σ H s) (h : SqB X.K H b a xs) : ∃ its, Vals xs its ∧ HpSq b s.heap a its.toArray ∧ a < s.heap.objs.size := by
  cases b
  · obtain ⟨its, rv, p, _⟩ := I.list h
    exact ⟨its, rv, p.isList, p.lt⟩
  · obtain ⟨its, rv, p, _⟩ := I.tuple h
    obtain ⟨o, e, _⟩ := id p
    exact ⟨its, rv, p, Heap.lt_size e⟩
theorem sq_inj {X : Cx} {pins : List (Addr × Obj)} {σ : L2.St} {H : Hp} {b : Bool} {a : Addr} {xs ys : List V} (I : Inv X pins σ H s) (h : SqB X.K H b a xs) (g : SqB X.K H b a ys) : xs = ys := by
  cases b
  · exact I.list_inj h g
  · exact I.tuple_inj h g
def ItzM (K : PySem.W.Frag) (b1 b2 : Bool) (a b : Addr) : It where
  go := fun i H => ∃ (xs ys : List V) (x y : V), SqB K H b1 a xs ∧ SqB K H b2 b ys ∧ xs[i]? = some x ∧ ys[i]? = some y
  yld := fun i H v H' => ∃ T x y, v = .ref T ∧ H T = none ∧ H' = upd H T (.tup [x, y]) ∧ (∀ xs, SqB K H b1 a xs → xs[i]? = some x) ∧ ∀ ys, SqB K H b2 b ys → ys[i]? = some y
  stop := fun i H => ∃ xs ys : List V, SqB K H b1 a xs ∧ SqB K H b2 b ys ∧ i ≤ xs.length ∧ i ≤ ys.length ∧ (i = xs.length ∨ i = ys.length)
theorem five {c z TI TO i1 i2 : Addr} (h : c ∈ [z, TI, TO, i1, i2]) : c = z ∨ c = TI ∨ c = TO ∨ c = i1 ∨ c = i2 := by
  simpa using h
theorem not5 {c z TI TO i1 i2 : Addr} (h : c ∉ [z, TI, TO, i1, i2]) : c ≠ z ∧ c ≠ TI ∧ c ≠ TO ∧ c ≠ i1 ∧ c ≠ i2 := by
  simpa using h
theorem sep_of {z TI TO i1 i2 a b : Addr} (D : ZipApart z TI TO i1 i2 a b) : ZipSep2 z TI TO i1 i2 [i1, a] [i2, b] where
  TIz := D.TIz
  TOz := D.TOz
  TITO := D.TITO
  TIi1 := D.TIi1
  mem1 := List.mem_cons_self ..
  zf1 := by simp [D.i1z.symm, D.l1z.symm]
  Tf1 := by simp [D.TOi1, D.l1TO.symm]
  TIi2 := D.TIi2
  mem2 := List.mem_cons_self ..
  zf2 := by simp [D.i2z.symm, D.l2z.symm]
  Tf2 := by simp [D.TOi2, D.l2TO.symm]
  sep1_2 := by simp [D.i12, D.l2i1.symm]
  sep2_1 := by simp [D.i12.symm, D.l1i2.symm]
theorem turn_zipM {P : Program} {elts : List Expr} {kk : Nat} {tpos : Pos} {b1 b2 : Bool} {a b z TI TO i1 i2 : Addr} (D : ZipApart z TI TO i1 i2 a b) :
    Turn P w K (.Tuple elts kk tpos) (ItzM K b1 b2 a b) [z, TI, TO, i1, i2] z (fun i h => PySem.IsZip h z TI TO .none ∧ IsTupOf2 h TI (.ref i1) (.ref i2) ∧ (∃ x y, IsTupOf2 h TO x y) ∧ HpIt b1 h i1 a i ∧ HpIt b2 h i2 b i) where
  mem := List.mem_cons_self ..
  obj := fun i h ⟨hz, hI, ⟨x, y, hO⟩, h1, h2⟩ c hc => by
    obtain ⟨o1, v1, e1, d1⟩ := h1.obj
    obtain ⟨o2, v2, e2, d2⟩ := h2.obj
    rcases five hc with rfl | rfl | rfl | rfl | rfl
    · exact ⟨_, hz, fun v q => by cases q⟩
    · exact ⟨_, hI, fun v q => by cases q⟩
    · exact ⟨_, hO, fun v q => by cases q⟩
    · exact ⟨o1, e1, fun v q => by rw [d1] at q; cases q⟩
    · exact ⟨o2, e2, fun v q => by rw [d2] at q; cases q⟩
  keep := fun i h h' ⟨hz, hI, ⟨x, y, hO⟩, h1, h2⟩ k => ⟨k _ (by simp) _ hz, k _ (by simp) _ hI, ⟨x, y, k _ (by simp) _ hO⟩, h1.move (k _ (by simp)), h2.move (k _ (by simp))⟩
  item := by
    rintro X rfl rfl rfl hc i pins s σ H E I hf ⟨hz, hI, ⟨x0, y0, hO⟩, h1, h2⟩ ⟨xs, ys, x, y, qx, qy, hx, hy⟩
    obtain ⟨is, rv, p, _⟩ := inv_sq I qx
    obtain ⟨js, rw', p', _⟩ := inv_sq I qy
    obtain ⟨u, hu, ru⟩ := rv.get hx
    obtain ⟨v, hv, rv'⟩ := rw'.get hy
    have zl := Heap.lt_size hz
    have ht : X.A.handled = none := I.ok.hd hc
    have sz1 : i < is.toArray.size := by
      have := (List.getElem?_eq_some_iff.mp hu).1
      simpa using this
    have sz2 : i < js.toArray.size := by
      have := (List.getElem?_eq_some_iff.mp hv).1
      simpa using this
    refine wpAny_pyNext_zipD2_item (sep_of D) (drawB (A := X.A.in1) b1 ht D.l1i1 is.toArray) (drawB (A := X.A.in1) b2 ht D.l2i2 js.toArray) hz hI hO ⟨h1, p⟩ ⟨h2, p'⟩ sz1 sz2 fun u' v' h' tk e1 e2 z' O' ⟨h1', _⟩ ⟨h2', _⟩ hT hsz hk => ?_
    obtain rfl : u' = u := by
      rw [List.getElem?_toArray, hu] at e1
      cases e1
      rfl
    obtain rfl : v' = v := by
      rw [List.getElem?_toArray, hv] at e2
      cases e2
      rfl
    refine ⟨_, rfl, wpAny_letOwnedTupleGo_zip (s := { s with heap := h', toks := tk }) z' fun h2 z2 sb => ?_⟩
    have up : ∀ c o, c ≠ z → h'.get? c = some o → h2.get? c = some o := fun c o n e => (sb.2 c n).trans e
    have nT : ObjOk X.prog X.w (upd H s.heap.objs.size (.tup [x, y])) h2 s.heap.objs.size (.tup [x, y]) := ⟨by show 2 ≤ sizeLine; decide, [u', v'], .cons ru (.cons rv' .nil), ⟨_, up _ _ (Nat.ne_of_gt zl) hT, rfl, _, rfl⟩⟩
    have I1 := I.turnedNew (t' := tk) (ch := [z, TI, TO, i1, i2]) (fun c o hb q => up c o (not5 hb).1 (hk c o (not5 hb).1 (not5 hb).2.2.1 (not5 hb).2.2.2.1 (not5 hb).2.2.2.2 q)) hf (Nat.le_refl _) nT
    refine ⟨.ref s.heap.objs.size, _, I1, rfl, ⟨_, x, y, rfl, I.hok.fresh (Nat.le_refl _), rfl, fun l hl => ?_, fun l hl => ?_⟩, ⟨z2, up _ _ D.TIz (hk _ _ D.TIz D.TITO D.TIi1 D.TIi2 hI), ⟨_, _, up _ _ D.TOz O'⟩, h1'.move fun o => up _ o D.i1z, h2'.move fun o => up _ o D.i2z⟩, fun c hcm => ?_⟩
    · rw [sq_inj I hl qx]
      exact hx
    · rw [sq_inj I hl qy]
      exact hy
    · obtain ⟨o1, _, e1, _⟩ := h1.obj
      obtain ⟨o2, _, e2, _⟩ := ‹HpIt b2 s.heap i2 b i›.obj
      have lt : c < s.heap.objs.size := by
        rcases five hcm with rfl | rfl | rfl | rfl | rfl
        · exact zl
        · exact Heap.lt_size hI
        · exact Heap.lt_size hO
        · exact Heap.lt_size e1
        · exact Heap.lt_size e2
      rw [upd_ne (Nat.ne_of_lt lt)]
      exact (hf c hcm).1
  done := by
    rintro X rfl rfl rfl hc i pins s σ H E I hf ⟨hz, hI, ⟨x0, y0, hO⟩, h1, h2⟩ ⟨xs, ys, qx, qy, l1, l2, hend⟩
    obtain ⟨is, rv, p, _⟩ := inv_sq I qx
    obtain ⟨js, rw', p', _⟩ := inv_sq I qy
    have ht : X.A.handled = none := I.ok.hd hc
    have n1 : is.toArray.size = xs.length := by rw [List.size_toArray, rv.length]
    have n2 : js.toArray.size = ys.length := by rw [List.size_toArray, rw'.length]
    exact wpAny_pyNext_zipD2_end (sep_of D) (drawB (A := X.A.in1) b1 ht D.l1i1 is.toArray) (drawB (A := X.A.in1) b2 ht D.l2i2 js.toArray) hz hI hO ⟨h1, p⟩ ⟨h2, p'⟩ (by omega) (by omega) (by omega) fun h' tk hk => ⟨rfl, I.turnedL (t' := tk) (ch := [z, TI, TO, i1, i2]) (fun c o hb q => hk c o (not5 hb).1 (not5 hb).2.2.1 (not5 hb).2.2.2.1 (not5 hb).2.2.2.2 q) hf⟩
  self := fun A i s Q E st h => wpAny_pyIter_zip st.1 h
/-- the heap behind zip(l1, l2) -/
def zipM (b1 b2 : Bool) (h : Heap) (l1 l2 : Addr) : Heap := ((((h.push (itO b1 l1)).push (itO b2 l2)).push { cls := .type "tuple", data := .seq #[.ref h.objs.size, .ref (h.push (itO b1 l1)).objs.size] }).push { cls := .type "tuple", data := .seq #[.none, .none] }).push
  { cls := .type "zip", data := .fields #[.none, .bool false, .bool false, .ref ((h.push (itO b1 l1)).push (itO b2 l2)).objs.size, .ref (((h.push (itO b1 l1)).push (itO b2 l2)).push { cls := .type "tuple", data := .seq #[.ref h.objs.size, .ref (h.push (itO b1 l1)).objs.size] }).objs.size] }
def zipA (b1 b2 : Bool) (h : Heap) (l1 l2 : Addr) : Addr := ((((h.push (itO b1 l1)).push (itO b2 l2)).push { cls := .type "tuple", data := .seq #[.ref h.objs.size, .ref (h.push (itO b1 l1)).objs.size] }).push { cls := .type "tuple", data := .seq #[.none, .none] }).objs.size
theorem new_zipM (b1 b2 : Bool) (l1 l2 : Addr) (xs ys : Array Value) : Meets (Builtin.«zip.__new__» ⟨[.type "zip", .ref l1, .ref l2], []⟩) (fun _ R s => HpSq b1 s.heap l1 xs ∧ HpSq b2 s.heap l2 ys ∧ R (.ok (.ret (.ref (zipA b1 b2 s.heap l1 l2)))) { s with heap := zipM b1 b2 s.heap l1 l2 }) :=
  .of_wp fun prog w A R s h => by
    obtain ⟨hp, g, d, tk, os⟩ := s
    obtain ⟨q1, q2, h⟩ := h
    have hsub := PySem.sub_zip
    have L1 : HpSq b1 (Shared.heap ⟨hp, g, d, tk, os⟩) l1 xs := q1
    have L2 : HpSq b2 (Shared.heap ⟨hp.push (itO b1 l1), g, d, tk, os⟩) l2 ys := q2.push _
    wp_walk using iterB L1, iterB L2
    exact ⟨_, rfl, h⟩
theorem call_zipM {b1 b2 : Bool} {l1 l2 : Addr} {xs ys : Array Value} {Q : Value → Shared → Prop} (q1 : HpSq b1 s.heap l1 xs) (q2 : HpSq b2 s.heap l2 ys)
    (h : ∀ h', PySem.IsZip h' (s.heap.objs.size + 4) (s.heap.objs.size + 2) (s.heap.objs.size + 3) .none → IsTupOf2 h' (s.heap.objs.size + 2) (.ref s.heap.objs.size) (.ref (s.heap.objs.size + 1)) → IsTupOf2 h' (s.heap.objs.size + 3) .none .none →
      HpIt b1 h' s.heap.objs.size l1 0 → HpIt b2 h' (s.heap.objs.size + 1) l2 0 → (∀ c o, s.heap.get? c = some o → h'.get? c = some o) → Q (.ref (s.heap.objs.size + 4)) { s with heap := h' }) :
    wpAny (model prog w) A (call (.type "zip") [.ref l1, .ref l2]) Q E s := by
  refine callType_new PySem.F.called_zip (by decide) (PySem.F.typeCall_zip_2 _ _) (PySem.F.newCall_zip_2 _ _) (fun obj => PySem.F.args_object_init_3 obj _ _) PySem.F.entry_zip_new (new_zipM b1 b2 l1 l2 xs ys) ⟨q1, q2, ?_⟩
  have ea : zipA b1 b2 s.heap l1 l2 = s.heap.objs.size + 4 := by
    unfold zipA
    rw [Heap.size_push, Heap.size_push, Heap.size_push, Heap.size_push]
  have eb : ∀ o1 o2 : Obj, ((s.heap.push o1).push o2).objs.size = s.heap.objs.size + 2 := fun o1 o2 => by rw [Heap.size_push, Heap.size_push]
  have ec : ∀ o1 o2 o3 : Obj, (((s.heap.push o1).push o2).push o3).objs.size = s.heap.objs.size + 3 := fun o1 o2 o3 => by rw [Heap.size_push, Heap.size_push, Heap.size_push]
  have ed : ∀ o1 : Obj, (s.heap.push o1).objs.size = s.heap.objs.size + 1 := fun o1 => by rw [Heap.size_push]
  have up : ∀ {hp : Heap} {c : Addr} {o o' : Obj}, hp.get? c = some o → (hp.push o').get? c = some o := fun e => Heap.get?_push_of_some _ e
  have top : ∀ {hp : Heap} {n : Addr} {o : Obj}, hp.objs.size = n → o.isFreed = false → (hp.push o).get? n = some o := fun e f => by
    subst e
    exact Heap.get?_push_size _ f
  show _ ∧ _
  rw [ea]
  have fz : (zipM b1 b2 s.heap l1 l2).get? (s.heap.objs.size + 4) = some { cls := .type "zip", data := .fields #[.none, .bool false, .bool false, .ref (s.heap.objs.size + 2), .ref (s.heap.objs.size + 3)] } := by
    unfold zipM
    rw [eb, ec, ed]
    exact top (by rw [Heap.size_push, ec]) rfl
  have f2 : (zipM b1 b2 s.heap l1 l2).get? (s.heap.objs.size + 2) = some { cls := .type "tuple", data := .seq #[.ref s.heap.objs.size, .ref (s.heap.objs.size + 1)] } := by
    unfold zipM
    rw [ed]
    exact up (up (top (eb _ _) rfl))
  have f3 : (zipM b1 b2 s.heap l1 l2).get? (s.heap.objs.size + 3) = some { cls := .type "tuple", data := .seq #[.none, .none] } := up (top (ec _ _ _) rfl)
  refine ⟨⟨_, fz, rfl⟩, h _ fz f2 f3 (.new (up (up (up (up (top rfl rfl)))))) (.new (up (up (up (top (ed _) rfl))))) fun c o e => up (up (up (up (up e))))⟩
def WkM (K : PySem.W.Frag) (vs : List V) (H : Hp) (R : It → Hp → Prop) : Prop := ∃ b1 b2 a b xs ys, vs = [.ref a, .ref b] ∧ SqB K H b1 a xs ∧ SqB K H b2 b ys ∧ R (ItzM K b1 b2 a b) H
def iZipM (K : PySem.W.Frag) (ta : TA) : TI := fun σ H R => ta σ H fun vs H1 => WkM K vs H1 R
theorem pi_zipM {X : Cx} {e e2 : Expr} {ta : TA} {p pos tpos : Pos} {elts : List Expr} {kk : Nat} (hg : Gl X "zip") (hm : X.mg "zip" = none) (ha : PA X [e, e2] ta)
    (hs : starEach [e, e2] X.env = (false, eval e X.env) :: starEach [e2] X.env := by rfl) (hpl : (backTo pos (starEach [e2] X.env)).any (·.1) = false := by rfl) : PI X (.Tuple elts kk tpos) (.Call (.Name "zip" p) [e, e2] [] pos) (iZipM X.K ta) := by
  refine ⟨fun pins s σ H R I h => Call_ (ld_blt I hg hm PyProof.Rows.boot_zip (PyProof.Rows.callWith_type1 (thn (ha.run pos pins s σ H _ I h) fun us s1 ⟨vs, H1, I1, r1, q1⟩ => ?_) hs hpl))⟩
  obtain ⟨b1, b2, a, b, xs, ys, rfl, q1, q2, q⟩ := q1
  rcases r1 with _ | ⟨r, _ | ⟨r', _ | _⟩⟩
  cases r
  cases r'
  obtain ⟨is, _, p1, t1⟩ := inv_sq I1 q1
  obtain ⟨js, _, p2, t2⟩ := inv_sq I1 q2
  refine call_zipM p1 p2 fun h' hz hI hO h1 h2 hk => wpAny_pyIter_zip hz ⟨s1.heap.objs.size + 4, [s1.heap.objs.size + 4, s1.heap.objs.size + 2, s1.heap.objs.size + 3, s1.heap.objs.size, s1.heap.objs.size + 1], _, _, H1, rfl, I1.kept (t' := s1.toks) hk, turn_zipM (PySem.W.ktu_apart s1.heap.objs.size a b t1 t2), ⟨hz, hI, ⟨_, _, hO⟩, h1, h2⟩, fun c hc => ?_, q⟩
  have le : s1.heap.objs.size ≤ c := by
    rcases five hc with rfl | rfl | rfl | rfl | rfl
    · exact Nat.le_add_right ..
    · exact Nat.le_add_right ..
    · exact Nat.le_add_right ..
    · exact Nat.le_refl _
    · exact Nat.le_add_right ..
  exact I1.fpOk le (I1.hok.fresh le)
section
variable {σ : L2.St} {H : Hp}
theorem rd_iZipM {ta : TA} {R : It → Hp → Prop} (h : ta σ H fun vs H1 => WkM K vs H1 R) : iZipM K ta σ H R := h
theorem walk_zipM {b1 b2 : Bool} {a b : Addr} {xs ys : List V} {n : Nat} (hn : n = min xs.length ys.length) : Walk (ItzM K b1 b2 a b) n (fun H => SqB K H b1 a xs ∧ SqB K H b2 b ys) (YPair (fun i => xs[i]?) (fun i => ys[i]?)) := by
  subst hn
  refine ⟨fun i H hi q => ?_, fun H q => ⟨xs, ys, q.1, q.2, by omega, by omega, by omega⟩, fun i H v H' _ q y => ?_⟩
  · have l1 : i < xs.length := by omega
    have l2 : i < ys.length := by omega
    exact ⟨xs, ys, _, _, q.1, q.2, List.getElem?_eq_getElem l1, List.getElem?_eq_getElem l2⟩
  · obtain ⟨T, x, z, e1, e2, e3, e4, e5⟩ := y
    exact ⟨T, x, z, e1, e2, e3, e4 xs q.1, e5 ys q.2⟩
theorem rd_wkM {b1 b2 : Bool} {a b : Addr} {xs ys : List V} {R : It → Hp → Prop} (h1 : SqB K H b1 a xs) (h2 : SqB K H b2 b ys) (r : R (ItzM K b1 b2 a b) H) : WkM K [.ref a, .ref b] H R := ⟨b1, b2, a, b, xs, ys, rfl, h1, h2, r⟩
end
/-! enumerate of a list or a tuple -/
def ItEM (K : PySem.W.Frag) (b : Bool) (a : Addr) : It where
  go := fun i H => ∃ (xs : List V) (x : V), SqB K H b a xs ∧ xs[i]? = some x
  yld := fun i H v H' => ∃ T x, v = .ref T ∧ H T = none ∧ H' = upd H T (.tup [.int (i : Nat), x]) ∧ ∀ xs, SqB K H b a xs → xs[i]? = some x
  stop := fun i H => ∃ xs : List V, SqB K H b a xs ∧ i = xs.length
theorem turn_enumM {P : Program} {elts : List Expr} {kk : Nat} {tpos : Pos} {b : Bool} {a e it : Addr} (hne : e ≠ it) (hae : a ≠ e) (hai : a ≠ it) :
    Turn P w K (.Tuple elts kk tpos) (ItEM K b a) [e, it] e (fun i h => (∃ old, IsEnum h e it ((i : Nat) : Int) old) ∧ HpIt b h it a i) where
  mem := List.mem_cons_self ..
  obj := fun i h ⟨⟨old, he⟩, h1⟩ c hc => by
    obtain ⟨o1, v1, e1, d1⟩ := h1.obj
    have hc : c = e ∨ c = it := by simpa using hc
    rcases hc with rfl | rfl
    · exact ⟨_, he, fun v q => by cases q⟩
    · exact ⟨o1, e1, fun v q => by rw [d1] at q; cases q⟩
  keep := fun i h h' ⟨⟨old, he⟩, h1⟩ k => ⟨⟨old, k _ (by simp) _ he⟩, h1.move (k _ (by simp))⟩
  item := by
    rintro X rfl rfl rfl hc i pins s σ H E I hf ⟨⟨old, he⟩, h1⟩ ⟨xs, x, qx, hx⟩
    obtain ⟨is, rv, p, _⟩ := inv_sq I qx
    obtain ⟨u, hu, ru⟩ := rv.get hx
    have el := Heap.lt_size he
    obtain ⟨o1, _, e1, _⟩ := h1.obj
    have il := Heap.lt_size e1
    have ht : X.A.handled = none := I.ok.hd hc
    have sz1 : i < is.toArray.size := by
      have := (List.getElem?_eq_some_iff.mp hu).1
      simpa using this
    refine wpAny_pyNext_enum_itemD (drawB (A := X.A.in1) b ht hai is.toArray) he ⟨h1, p⟩ sz1 hne (by simp [hne, hae.symm]) fun u' h' tk e1 z' ⟨h1', _⟩ hT hsz hk => ?_
    obtain rfl : u' = u := by
      rw [List.getElem?_toArray, hu] at e1
      cases e1
      rfl
    refine ⟨_, rfl, wpAny_letOwnedTupleGo_enum (s := { s with heap := h', toks := tk + 1 }) z' fun h2 z2 sb => ?_⟩
    have up : ∀ c o, c ≠ e → h'.get? c = some o → h2.get? c = some o := fun c o n q => (sb.2 c n).trans q
    have nT : ObjOk X.prog X.w (upd H s.heap.objs.size (.tup [.int (i : Nat), x])) h2 s.heap.objs.size (.tup [.int (i : Nat), x]) := ⟨by show 2 ≤ sizeLine; decide, [.int i tk, u'], .cons ⟨_, rfl⟩ (.cons ru .nil), ⟨_, up _ _ (Nat.ne_of_gt el) hT, rfl, _, rfl⟩⟩
    have no2 : ∀ {c : Addr}, c ∉ [e, it] → c ≠ e ∧ c ≠ it := fun h => by simpa using h
    have I1 := I.turnedNew (t' := tk + 1) (ch := [e, it]) (fun c o hb q => up c o (no2 hb).1 (hk c o (no2 hb).1 (no2 hb).2 q)) hf (Nat.le_refl _) nT
    refine ⟨.ref s.heap.objs.size, _, I1, rfl, ⟨_, x, rfl, I.hok.fresh (Nat.le_refl _), rfl, fun l hl => ?_⟩, ⟨⟨u', ?_⟩, h1'.move fun o => up _ o hne.symm⟩, fun c hcm => ?_⟩
    · rw [sq_inj I hl qx]
      exact hx
    · rw [show ((i + 1 : Nat) : Int) = (i : Int) + 1 by omega]
      exact z2
    · have lt : c < s.heap.objs.size := by
        have hc : c = e ∨ c = it := by simpa using hcm
        rcases hc with rfl | rfl
        · exact el
        · exact il
      rw [upd_ne (Nat.ne_of_lt lt)]
      exact (hf c hcm).1
  done := by
    rintro X rfl rfl rfl hc i pins s σ H E I hf ⟨⟨old, he⟩, h1⟩ ⟨xs, qx, hend⟩
    obtain ⟨is, rv, p, _⟩ := inv_sq I qx
    have ht : X.A.handled = none := I.ok.hd hc
    have n1 : i = is.toArray.size := by rw [List.size_toArray, ← rv.length, hend]
    subst n1
    obtain ⟨f0, f1, f2, f3, f4, f5⟩ := hf it (by simp)
    exact wpAny_pyNext_enum_endD (drawB (A := X.A.in1) b ht hai is.toArray) he ⟨h1, p⟩ fun h' eb => ⟨rfl, I.turned (t' := s.toks) (fun b o hb q => eb b o hb q) f0 f1 f3 f4 f5⟩
  self := fun A i s Q E ⟨⟨_, he⟩, _⟩ h => wpAny_pyIter_enum he h
def enumO (it : Addr) : Obj := { cls := .type "enumerate", data := .fields #[.none, .bool false, .ref it, rawInt 0, .none, .none] }
theorem new_enumM (b : Bool) (l : Addr) (xs : Array Value) : Meets (Builtin.«enumerate.__new__» ⟨[.type "enumerate", .ref l], []⟩) (fun _ R s => HpSq b s.heap l xs ∧ R (.ok (.ret (.ref (s.heap.push (itO b l)).objs.size))) { s with heap := (s.heap.push (itO b l)).push (enumO s.heap.objs.size) }) :=
  .of_wp fun prog w A R s h => by
    obtain ⟨hp, g, d, tk, os⟩ := s
    obtain ⟨q1, h⟩ := h
    have hsub := PySem.sub_enumerate
    have L1 : HpSq b (Shared.heap ⟨hp, g, d, tk, os⟩) l xs := q1
    wp_walk using iterB L1
    refine wpAny_stack_any fun st => wpAny_pure ?_
    split
    · rename_i c _ _ _ _ _
      cases (c == Value.type "enumerate") <;> (wp_walk using iterB L1) <;> exact ⟨_, rfl, h⟩
    · (wp_walk using iterB L1); exact ⟨_, rfl, h⟩
theorem call_enumM {b : Bool} {l : Addr} {xs : Array Value} {Q : Value → Shared → Prop} (q1 : HpSq b s.heap l xs)
    (h : ∀ h', IsEnum h' (s.heap.objs.size + 1) s.heap.objs.size 0 .none → HpIt b h' s.heap.objs.size l 0 → (∀ c o, s.heap.get? c = some o → h'.get? c = some o) → Q (.ref (s.heap.objs.size + 1)) { s with heap := h' }) :
    wpAny (model prog w) A (call (.type "enumerate") [.ref l]) Q E s := by
  refine callType_new PySem.F.called_enumerate (by decide) (PySem.F.typeCall_enumerate_1 _) (PySem.F.newCall_enumerate_1 _) (fun obj => PySem.F.args_object_init_2 obj _) PySem.F.entry_enumerate_new (new_enumM b l xs) ⟨q1, ?_⟩
  have ed : (s.heap.push (itO b l)).objs.size = s.heap.objs.size + 1 := by rw [Heap.size_push]
  show _ ∧ _
  rw [ed]
  have fz : ((s.heap.push (itO b l)).push (enumO s.heap.objs.size)).get? (s.heap.objs.size + 1) = some (enumO s.heap.objs.size) := by
    rw [← ed]
    exact Heap.get?_push_size _ rfl
  exact ⟨⟨_, fz, rfl⟩, h _ fz (.new (Heap.get?_push_of_some _ (Heap.get?_push_size _ rfl))) fun c o e => Heap.get?_push_of_some _ (Heap.get?_push_of_some _ e)⟩
def WkE (K : PySem.W.Frag) (vs : List V) (H : Hp) (R : It → Hp → Prop) : Prop := ∃ b a xs, vs = [.ref a] ∧ SqB K H b a xs ∧ R (ItEM K b a) H
def iEnumM (K : PySem.W.Frag) (ta : TA) : TI := fun σ H R => ta σ H fun vs H1 => WkE K vs H1 R
theorem pi_enumM {X : Cx} {e : Expr} {ta : TA} {p pos tpos : Pos} {elts : List Expr} {kk : Nat} (hg : Gl X "enumerate") (hm : X.mg "enumerate" = none) (ha : PA X [e] ta) (hs : starEach [e] X.env = [(false, eval e X.env)] := by rfl) : PI X (.Tuple elts kk tpos) (.Call (.Name "enumerate" p) [e] [] pos) (iEnumM X.K ta) := by
  refine ⟨fun pins s σ H R I h => Call_ (ld_blt I hg hm boot_enumerate (PyProof.Rows.callWith_type1 (thn (ha.run pos pins s σ H _ I h) fun us s1 ⟨vs, H1, I1, r1, q1⟩ => ?_) hs rfl))⟩
  obtain ⟨b, a, xs, rfl, q1, q⟩ := q1
  rcases r1 with _ | ⟨r, _ | _⟩
  cases r
  obtain ⟨is, _, p1, t1⟩ := inv_sq I1 q1
  refine call_enumM p1 fun h' he h1 hk => wpAny_pyIter_enum he ⟨s1.heap.objs.size + 1, [s1.heap.objs.size + 1, s1.heap.objs.size], _, _, H1, rfl, I1.kept (t' := s1.toks) hk, turn_enumM (a := a) (Nat.succ_ne_self _) (Nat.ne_of_lt (Nat.lt_succ_of_lt t1)) (Nat.ne_of_lt t1), ⟨⟨.none, he⟩, h1⟩, fun c hc => ?_, q⟩
  have hc : c = s1.heap.objs.size + 1 ∨ c = s1.heap.objs.size := by simpa using hc
  have le : s1.heap.objs.size ≤ c := by
    rcases hc with rfl | rfl
    · exact Nat.le_add_right ..
    · exact Nat.le_refl _
  exact I1.fpOk le (I1.hok.fresh le)
section
variable {σ : L2.St} {H : Hp}
theorem rd_iEnumM {ta : TA} {R : It → Hp → Prop} (h : ta σ H fun vs H1 => WkE K vs H1 R) : iEnumM K ta σ H R := h
theorem walk_enumM {b : Bool} {a : Addr} {xs : List V} : Walk (ItEM K b a) xs.length (fun H => SqB K H b a xs) (YPair (fun i => some (.int (i : Nat))) (fun i => xs[i]?)) := by
  refine ⟨fun i _ hi q => ⟨xs, xs[i], q, List.getElem?_eq_getElem hi⟩, fun _ q => ⟨xs, q, rfl⟩, fun i H v H' _ q y => ?_⟩
  obtain ⟨T, x, e1, e2, e3, e4⟩ := y
  exact ⟨T, .int (i : Nat), x, e1, e2, e3, rfl, e4 xs q⟩
theorem rd_wkE {b : Bool} {a : Addr} {xs : List V} {R : It → Hp → Prop} (h1 : SqB K H b a xs) (r : R (ItEM K b a) H) : WkE K [.ref a] H R := ⟨b, a, xs, rfl, h1, r⟩
end
end zipm
/-! ## x, *xs = a tuple -/
section star
variable {prog : Program} {w : World} {A : Around} {E : Value → Shared → Prop} {s : Shared}
theorem star_tup {l : Addr} {x : Value} {xs : List Value} {Q : List Value → Shared → Prop} (ht : s.heap.IsTuple l (x :: xs).toArray) (hh : A.handled = none) (hz : xs.length ≤ 10000)
    (h : ∀ (h2 : Heap) tk, (∀ b o, s.heap.get? b = some o → h2.get? b = some o) → Q [x, .ref h2.objs.size] { s with heap := h2.push { cls := .type "list", data := .seq xs.toArray }, toks := tk }) : wpAny (model prog w) A (unpackItems (.ref l) 2 (some 1)) Q E s := by
  have hl : IsTup s.heap l (x :: xs).toArray := ht
  have lt : l < s.heap.objs.size := by
    obtain ⟨o, e, _⟩ := id hl
    exact Heap.lt_size e
  have ne : l ≠ s.heap.objs.size := Nat.ne_of_lt lt
  have sz : (x :: xs).toArray.size = xs.length + 1 := by simp
  unfold unpackItems notIterableAtAll
  refine wpAny_bind (wpAny_bind (wpAny_specialOf hl.typeIs PyProof.Rows.slot_tuple_iter.lookup (wpAny_pure ?_)))
  simp only [Bool.false_eq_true, if_false]
  refine wpAny_bind (wpAny_holding (PyProof.Rows.iter_tuple hl (wpAny_bind (wpAny_holding (PyProof.Rows.draw_tuple ne 1 0 _ _ ⟨_, Heap.get?_push_size _ rfl, rfl, rfl⟩ (hl.push _) (by omega) fun h1 i1 s1 => ?_)))))
  have l1 : IsTup h1 l (x :: xs).toArray := (hl.push _).extBut s1.extBut ne
  obtain ⟨oi, ei, _⟩ := id i1
  obtain ⟨ol, el, _⟩ := id l1
  have e1 : List.take 1 (List.drop 0 (x :: xs).toArray.toList) = [x] := by simp
  have e2 : List.drop 1 (x :: xs).toArray.toList = xs := by simp
  rw [e1, if_neg (show ¬ ([x].length < 1) from Nat.lt_irrefl 1)]
  refine wpAny_bind (wpAny_holding (PySem.W.kun_collect (s := { s with heap := h1 }) (T := "tuple_iterator") (.inr (.inr (.inr rfl))) (Walks.tuple (A := A.in1) hh s.heap.objs.size l ne (x :: xs).toArray) (fun j u st => st.1.typeIs) (k := 1) (by omega) ⟨i1, l1⟩ (Heap.lt_size ei) (Heap.lt_size el) (fun h2 tk hk => ?_) (by rw [sz, sizeLine_eq]; omega)))
  rw [e2]
  show wpAny _ _ (if xs.length < 2 - 1 - 1 then _ else _) _ _ _
  rw [if_neg (by omega)]
  show wpAny _ _ (newList (xs.take (xs.length - (2 - 1 - 1))) >>= fun d => pure ([x] ++ [d] ++ xs.drop (xs.length - (2 - 1 - 1)))) _ _ _
  rw [show xs.length - (2 - 1 - 1) = xs.length by omega, List.take_length, List.drop_length]
  have up : ∀ b o, s.heap.get? b = some o → h2.get? b = some o := fun b o e => by
    have nb : b ≠ s.heap.objs.size := Nat.ne_of_lt (Heap.lt_size e)
    exact hk b o nb (s1.extBut b o nb (Heap.get?_push_of_some _ e))
  refine wpAny_bind (wpAny_newList (s := { s with heap := h2, toks := tk }) (wpAny_pure ?_) (by rw [sizeLine_eq]; omega))
  exact h h2 tk up
def gStar (K : PySem.W.Frag) (t : TGs) : TG := fun v σ H N => ∃ a x xs, v = .ref a ∧ SqT K H a (x :: xs) ∧ xs.length ≤ 10000 ∧ ∀ D, H D = none → t [x, .ref D] σ (upd H D (.lst xs)) N
theorem pg_star {X : Cx} {e0 e1 : Expr} {k : Nat} {p pos : Pos} {t : TGs} (hc : X.calm = true) (h : PGs X [e0, e1] t) (hn : (assignEach [e0, .Starred e1 p] X.env).length = 2 := by rfl) (hst : (assignEach [e0, .Starred e1 p] X.env).findIdx? (·.1) = some 1 := by rfl)
    (hm : (assignEach [e0, .Starred e1 p] X.env).map (·.2) = (assignEach [e0, e1] X.env).map (·.2) := by rfl) : PG X (.Tuple [e0, .Starred e1 p] k pos) (gStar X.K t) := by
  refine ⟨fun pins s σ H v u Q I r hw => ?_⟩
  obtain ⟨a, x, xs, rfl, hq, hz, hw⟩ := hw
  cases r
  obtain ⟨its, rv, ht, _⟩ := I.tuple hq
  cases rv with
  | cons r0 rs =>
    rename_i u0 us
    have lz : us.length = xs.length := rs.length.symm
    rw [assign_Tuple]
    refine wpAny_bind (wpAny_standAt ?_)
    unfold unpack
    rw [hn, hst]
    refine wpAny_bind (wpAny_holding (star_tup ht (I.ok.hd hc) (by omega) fun h2 tk up => ?_))
    rw [hm]
    have I2 : Inv X pins σ H { s with heap := h2, toks := tk } := I.kept (t' := tk) up
    have I3 := I2.laid (t' := tk) (a := h2.objs.size) (o := .lst xs) (fun b o e => Heap.get?_push_of_some (h := h2) { cls := .type "list", data := .seq us.toArray } e) (Nat.le_refl _) ⟨by rw [sizeLine_eq]; omega, us, 0, rs, Heap.get?_push_size _ rfl⟩
    exact h.run pins _ σ _ [x, .ref h2.objs.size] [u0, .ref h2.objs.size] Q I3 (.cons r0 (.cons rfl .nil)) (hw _ (I2.hok.fresh (Nat.le_refl _)))
theorem rd_star {K : PySem.W.Frag} {t : TGs} {a : Addr} {x : V} {xs : List V} {σ : L2.St} {H : Hp} {N : L2.St → Hp → Prop} (h : SqT K H a (x :: xs)) (hz : xs.length ≤ 10000) (q : ∀ D H2, H D = none → Same H H2 → H2 D = some (.lst xs) → t [x, .ref D] σ H2 N) : gStar K t (.ref a) σ H N := ⟨a, x, xs, rfl, h, hz, fun D hD => q D _ hD (Same.new hD) upd_same⟩
end star
/-! ## texts -/
section texts
theorem log_small {n : Nat} (h : n < 1073741824) : n.log2 < 1920 := by
  have h1 : n.log2 < 30 := PySem.Flt.log2_lt_of (show 0 < 30 by decide) h
  omega
def rCatS : R2 := fun x y H Q => ∃ i j : Str, x = .str i ∧ y = .str j ∧ i.length + j.length ≤ sizeLine ∧ Q (.str (i ++ j)) H
theorem op_catS {X : Cx} : OpR X (binaryOp .Add) rCatS := op_add_str
def tJoin (ts : List TE) : TE := fun σ H Q => tJs ts Str.empty σ H fun out H1 => Q (.str out) H1
theorem pe_joinT {X : Cx} {v1 v2 : Expr} {rest : List Expr} {ts : List TE} {pos : Pos} (h : PJ X (v1 :: v2 :: rest) ts) : PE X (.JoinedStr (v1 :: v2 :: rest) pos) (tJoin ts) := pe_joined h
section
variable {K : PySem.W.Frag} {σ : L2.St} {H : Hp} {Q : VK} {te : TE}
theorem rd_catS {i j : Str} (hl : i.length + j.length ≤ 16000000) (q : Q (.str (i ++ j)) H) : rCatS (.str i) (.str j) H Q := ⟨i, j, rfl, rfl, Nat.le_trans hl (by decide), q⟩
def JsB (acc : Str) (ts : List TE) (σ : L2.St) (x : V) (H : Hp) (R : Str → Hp → Prop) : Prop := ∃ y : Str, x = .str y ∧ (acc ++ y).length ≤ sizeLine ∧ tJs ts (acc ++ y) σ H R
theorem rd_join {ts : List TE} (h : tJs ts Str.empty σ H fun out H1 => Q (.str out) H1) : tJoin ts σ H Q := h
theorem rd_js0 {acc : Str} {R : Str → Hp → Prop} (q : R acc H) : tJs [] acc σ H R := q
theorem rd_js {t : TE} {ts : List TE} {acc : Str} {R : Str → Hp → Prop} (h : t σ H fun x H1 => JsB acc ts σ x H1 R) : tJs (t :: ts) acc σ H R := h
theorem rd_jsB {acc y z : Str} {ts : List TE} {R : Str → Hp → Prop} (hz : acc ++ y = z) (hl : z.length ≤ 16000000) (q : tJs ts z σ H R) : JsB acc ts σ (.str y) H R := by
  subst hz
  exact ⟨y, rfl, Nat.le_trans hl (by decide), q⟩
def FmB (x : V) (H : Hp) (Q : VK) : Prop := (∃ y : Str, x = .str y ∧ y.length ≤ sizeLine ∧ Q (.str y) H) ∨ ∃ i : Int, x = .int i ∧ i.natAbs.log2 < 1920 ∧ Q (.str (toString i)) H
theorem rd_fmt (h : te σ H fun x H1 => FmB x H1 Q) : tFmt te σ H Q := h
theorem rd_fmS {y : Str} (hl : y.length ≤ 16000000) (q : Q (.str y) H) : FmB (.str y) H Q := .inl ⟨y, rfl, Nat.le_trans hl (by decide), q⟩
theorem rd_fmI {i : Int} (h : i.natAbs < 1000000000) (q : Q (.str (toString i)) H) : FmB (.int i) H Q := .inr ⟨i, rfl, log_small (by omega), q⟩
theorem rd_strI {i : Int} (h : i.natAbs < 1000000000) (q : Q (.str (toString i)) H) : rStrX [.int i] H Q := ⟨i, rfl, log_small (by omega), q⟩
end
/-- the text of an int -/
def iT (i : Int) : Str := Str.ofString (toString i)
theorem iT_len {i : Int} (h : i.natAbs < 1000000000) : (iT i).length ≤ 10 := by
  unfold iT
  rw [PySem.ofString_length]
  exact int_text_length_le10 (k := 9) (by decide) (by simpa using h)
def numT (i j : Int) : Str := if j = 0 then iT i else if i = 0 then (if j < 0 then ("-" : Str) else "") ++ (if j.natAbs = 1 then ("" : Str) else iT j.natAbs) ++ "r" else iT i ++ (if j < 0 then ("-" : Str) else "+") ++ (if j.natAbs = 1 then ("" : Str) else iT j.natAbs) ++ "r"
def slopeT (i j k : Int) : Str := if k = 1 then numT i j else if i ≠ 0 ∧ j ≠ 0 then ("(" : Str) ++ numT i j ++ ")/" ++ iT k else numT i j ++ "/" ++ iT k
def SmS (i j k : Int) : Prop := i.natAbs ≤ 9 ∧ j.natAbs ≤ 3 ∧ 1 ≤ k ∧ k ≤ 4
def spNumT : Sp := fun vs H Q _ => ∃ i j : Int, vs = [.int i, .int j] ∧ i.natAbs ≤ 9 ∧ j.natAbs ≤ 3 ∧ Q (.str (numT i j)) H
def spSlopeT : Sp := fun vs H Q _ => ∃ (p : Addr) (i j k : Int), vs = [.ref p] ∧ H p = some (.tup [.int i, .int j, .int k]) ∧ SmS i j k ∧ Q (.str (slopeT i j k)) H
theorem numT_len {i j : Int} (h1 : i.natAbs ≤ 9) (h2 : j.natAbs ≤ 3) : (numT i j).length ≤ 30 := by
  have a1 := iT_len (i := i) (by omega)
  have a2 := iT_len (i := (j.natAbs : Int)) (by omega)
  unfold numT
  split
  · omega
  · split
    · rw [Str.length_append, Str.length_append]
      have : (if j < 0 then ("-" : Str) else "").length ≤ 1 := by split <;> decide
      have : (if j.natAbs = 1 then ("" : Str) else iT j.natAbs).length ≤ 10 := by
        split
        · decide
        · exact a2
      have : ("r" : Str).length = 1 := by decide
      omega
    · rw [Str.length_append, Str.length_append, Str.length_append]
      have : (if j < 0 then ("-" : Str) else "+").length ≤ 1 := by split <;> decide
      have : (if j.natAbs = 1 then ("" : Str) else iT j.natAbs).length ≤ 10 := by
        split
        · decide
        · exact a2
      have : ("r" : Str).length = 1 := by decide
      omega
theorem slopeT_len {i j k : Int} (h : SmS i j k) : (slopeT i j k).length ≤ 50 := by
  obtain ⟨h1, h2, h3, h4⟩ := h
  have a1 := numT_len h1 h2
  have a2 := iT_len (i := k) (by omega)
  have : ("(" : Str).length = 1 := by decide
  have : (")/" : Str).length = 2 := by decide
  have : ("/" : Str).length = 1 := by decide
  unfold slopeT
  split
  · omega
  · split
    · rw [Str.length_append, Str.length_append, Str.length_append]
      omega
    · rw [Str.length_append, Str.length_append]
      omega
/-! ### terms -/
def sgnT (t : Str) (n : Int) (first : Bool) : Str := if first = true then (if n < 0 then ("-" : Str) ++ t else t) else (if n < 0 then (" - " : Str) else " + ") ++ t
def thingT (rec : PyData → Str) (x : PyData) : Str := match x with
  | .str z => z
  | .tuple [.str _, .tuple [.int i, .int j, .int k], t] => ("floor(" : Str) ++ slopeT i j k ++ ", " ++ rec t ++ ")"
  | _ => ""
def itemT (rec : PyData → Str) (f : Int) (x : PyData) : Str := if f.natAbs = 1 then thingT rec x else iT f.natAbs ++ "*" ++ thingT rec x
def pieceT (rec : PyData → Str) (d : PyData) (first : Bool) : Str := match d with
  | .tuple [.int f, x] => sgnT (itemT rec f x) f first
  | _ => ""
def catT (rec : PyData → Str) : Bool → List PyData → Str
  | _, [] => ""
  | b, d :: ds => pieceT rec d b ++ catT rec false ds
theorem catT_snoc (rec : PyData → Str) (y : PyData) : ∀ (b : Bool) (xs : List PyData), catT rec b (xs ++ [y]) = catT rec b xs ++ pieceT rec y (b && xs.isEmpty)
  | b, [] => by
    show pieceT rec y b ++ "" = "" ++ pieceT rec y (b && true)
    rw [Bool.and_true]
    exact (Str.append_empty _).trans (Str.empty_append _).symm
  | b, x :: xs => by
    show pieceT rec x b ++ catT rec false (xs ++ [y]) = (pieceT rec x b ++ catT rec false xs) ++ pieceT rec y (b && false)
    rw [catT_snoc rec y false xs, Bool.false_and, Bool.and_false, Str.append_assoc]
def termT1 (rec : PyData → Str) (d : PyData) : Str := match d with
  | .tuple [.tuple its, .int c] => if c ≠ 0 ∨ its = [] then catT rec true its ++ sgnT (iT c.natAbs) c its.isEmpty else catT rec true its
  | _ => ""
def termT : Nat → PyData → Str
  | 0 => termT1 fun _ => ""
  | n + 1 => termT1 (termT n)
def recT : Nat → PyData → Str
  | 0 => fun _ => ""
  | n + 1 => termT n
theorem termT_eq (n : Nat) : termT n = termT1 (recT n) := by cases n <;> rfl
def smallN (nms : List Str) : Prop := ∀ z ∈ nms, 1 ≤ z.length ∧ z.length ≤ 10
def GThing (nms : List Str) (rec : PyData → Prop) (x : PyData) : Prop := (∃ z, x = .str z ∧ z ∈ nms) ∨ ∃ i j k t, x = .tuple [.str "floor", .tuple [.int i, .int j, .int k], t] ∧ (-9 ≤ i ∧ i ≤ 9 ∧ -3 ≤ j ∧ j ≤ 3 ∧ 1 ≤ k ∧ k ≤ 4) ∧ rec t
def lenB : Nat → Nat
  | 0 => 0
  | n + 1 => 400 + 4 * lenB n
theorem sgnT_len (t : Str) (n : Int) (b : Bool) : (sgnT t n b).length ≤ t.length + 3 := by
  have l1 : ("-" : Str).length = 1 := by decide
  have l2 : (" - " : Str).length = 3 := by decide
  have l3 : (" + " : Str).length = 3 := by decide
  unfold sgnT
  split
  · split
    · rw [Str.length_append]
      omega
    · omega
  · rw [Str.length_append]
    split <;> omega
theorem thingT_len {nms : List Str} {n : Nat} {R : PyData → Prop} {rec : PyData → Str} {x : PyData} (hn : smallN nms) (hr : ∀ t, R t → (rec t).length ≤ n) (h : GThing nms R x) : 1 ≤ (thingT rec x).length ∧ (thingT rec x).length ≤ 70 + n := by
  rcases h with ⟨z, rfl, hz⟩ | ⟨i, j, k, t, rfl, hs, ht⟩
  · have := hn z hz
    show 1 ≤ z.length ∧ z.length ≤ _
    omega
  · have a1 := slopeT_len (i := i) (j := j) (k := k) ⟨by omega, by omega, by omega, by omega⟩
    have a2 := hr t ht
    have l1 : ("floor(" : Str).length = 6 := by decide
    have l2 : (", " : Str).length = 2 := by decide
    have l3 : (")" : Str).length = 1 := by decide
    show 1 ≤ (("floor(" : Str) ++ slopeT i j k ++ ", " ++ rec t ++ ")").length ∧ _
    rw [show thingT rec (.tuple [.str "floor", .tuple [.int i, .int j, .int k], t]) = ("floor(" : Str) ++ slopeT i j k ++ ", " ++ rec t ++ ")" from rfl]
    rw [Str.length_append, Str.length_append, Str.length_append, Str.length_append]
    omega
theorem itemT_len {nms : List Str} {n : Nat} {R : PyData → Prop} {rec : PyData → Str} {x : PyData} {f : Int} (hf : f.natAbs ≤ 9) (hn : smallN nms) (hr : ∀ t, R t → (rec t).length ≤ n) (h : GThing nms R x) : 1 ≤ (itemT rec f x).length ∧ (itemT rec f x).length ≤ 85 + n := by
  have a1 := thingT_len hn hr h
  have a2 := iT_len (i := (f.natAbs : Int)) (by omega)
  have l1 : ("*" : Str).length = 1 := by decide
  unfold itemT
  split
  · omega
  · rw [Str.length_append, Str.length_append]
    omega
def GItem2 (nms : List Str) (R : PyData → Prop) (d : PyData) : Prop := ∃ f x, d = .tuple [.int f, x] ∧ f.natAbs ≤ 9 ∧ f ≠ 0 ∧ GThing nms R x
theorem GItem.two {nms : List Str} {R : PyData → Prop} {d : PyData} (h : GItem nms R d) : GItem2 nms R d := by
  obtain ⟨f, x, e, h1, h2, h3, h4⟩ := h
  exact ⟨f, x, e, by omega, h3, h4⟩
theorem catT_len {nms : List Str} {n : Nat} {R : PyData → Prop} {rec : PyData → Str} (hn : smallN nms) (hr : ∀ t, R t → (rec t).length ≤ n) : ∀ (b : Bool) (ds : List PyData), (∀ d ∈ ds, GItem2 nms R d) → (catT rec b ds).length ≤ ds.length * (90 + n)
  | _, [], _ => by
    show ("" : Str).length ≤ _
    have : ("" : Str).length = 0 := by decide
    omega
  | b, d :: ds, h => by
    obtain ⟨f, x, rfl, h1, h2, h3⟩ := h d (List.mem_cons_self ..)
    have ih := catT_len hn hr false ds fun e he => h e (List.mem_cons_of_mem _ he)
    have a1 := itemT_len h1 hn hr h3
    have a2 := sgnT_len (itemT rec f x) f b
    show (sgnT (itemT rec f x) f b ++ catT rec false ds).length ≤ _
    rw [Str.length_append, List.length_cons, Nat.succ_mul]
    omega
theorem termT_len {nms : List Str} (hn : smallN nms) : ∀ (n : Nat) (d : PyData), GTerm nms n d → (termT n d).length ≤ lenB (n + 1) := by
  intro n
  induction n with
  | zero =>
    intro d h
    obtain ⟨its, c, rfl, h1, h2, h3, h4⟩ := h
    have a1 := catT_len (n := 0) (rec := fun _ => "") hn (fun t ht => ht.elim) true its fun d hd => (h4 d hd).two
    have a2 := iT_len (i := (c.natAbs : Int)) (by omega)
    have a3 := sgnT_len (iT c.natAbs) c its.isEmpty
    have a4 := Nat.mul_le_mul_right (90 + 0) h1
    show (if c ≠ 0 ∨ its = [] then catT _ true its ++ sgnT (iT c.natAbs) c its.isEmpty else catT _ true its).length ≤ 400 + 4 * 0
    split
    · rw [Str.length_append]
      omega
    · omega
  | succ n ih =>
    intro d h
    obtain ⟨its, c, rfl, h1, h2, h3, h4⟩ := h
    have a1 := catT_len (n := lenB (n + 1)) (rec := termT n) hn (fun t ht => ih t ht) true its fun d hd => (h4 d hd).two
    have a2 := iT_len (i := (c.natAbs : Int)) (by omega)
    have a3 := sgnT_len (iT c.natAbs) c its.isEmpty
    have a4 := Nat.mul_le_mul_right (90 + lenB (n + 1)) h1
    show (if c ≠ 0 ∨ its = [] then catT _ true its ++ sgnT (iT c.natAbs) c its.isEmpty else catT _ true its).length ≤ 400 + 4 * lenB (n + 1)
    split
    · rw [Str.length_append]
      omega
    · omega
theorem recT_len {nms : List Str} (hn : smallN nms) (n : Nat) : ∀ t, GRec nms n t → (recT n t).length ≤ lenB n := by
  cases n with
  | zero => exact fun t h => h.elim
  | succ n => exact fun t h => termT_len hn n t h
def spSigned : Sp := fun vs H Q _ => ∃ (t : Str) (n : Int) (b : Bool), vs = [.str t, .int n, .bl b] ∧ t.length ≤ 100000 ∧ Q (.str (sgnT t n b)) H
def spRecT (nms : List Str) (n : Nat) : Sp := fun vs H Q _ => ∃ (m : Nat) (v : V) (d : PyData), vs = [v] ∧ m ≤ 60 ∧ Dt m H v d ∧ GRec nms n d ∧ ∀ H', Same H H' → Q (.str (recT n d)) H'
def spThingT (nms : List Str) (n : Nat) : Sp := fun vs H Q _ => ∃ (m : Nat) (v : V) (d : PyData), vs = [v] ∧ m ≤ 60 ∧ Dt m H v d ∧ GThing nms (GRec nms n) d ∧ ∀ H', Same H H' → Q (.str (thingT (recT n) d)) H'
def spTermT (nms : List Str) (n : Nat) : Sp := fun vs H Q _ => ∃ (m : Nat) (v : V) (d : PyData), vs = [v] ∧ m ≤ 60 ∧ Dt m H v d ∧ GTerm nms n d ∧ ∀ H', Same H H' → Q (.str (termT n d)) H'
end texts
/-! ## texts of sayings -/
section sayings
def tM (t : PyData) : Str := termT 3 t
def slT (d : PyData) : Str := match d with
  | .tuple [.int i, .int j, .int k] => slopeT i j k
  | _ => ""
def sList : List PyData → List Str
  | .str z :: r => z :: sList r
  | _ :: r => sList r
  | [] => []
/-- the text of a saying, by its parts' texts -/
def sayT1 (rec : PyData → Str) (d : PyData) : Str := match d with
  | .tuple (.str w :: xs) =>
    if w = "equal" then (match xs with | [a, b] => tM a ++ " = " ++ tM b | _ => "")
    else if w = "less" then (match xs with | [a, b] => tM a ++ " < " ++ tM b | _ => "")
    else if w = "under" then (match xs with | [a, s, b] => ("under(" : Str) ++ tM a ++ ", " ++ slT s ++ ", " ++ tM b ++ ")" | _ => "")
    else if w = "leaves" then (match xs with | [a, .int m, .int r] => ("leaves(" : Str) ++ tM a ++ ", " ++ iT m ++ ", " ++ iT r ++ ")" | _ => "")
    else if w = "not" then (match xs with | [a] => ("not " : Str) ++ rec a | _ => "")
    else if w = "some" ∨ w = "all" then (match xs with | [.str x, a] => w ++ " " ++ x ++ " " ++ rec a | _ => "")
    else if w = "and" ∨ w = "or" then ("(" : Str) ++ Txt.join ((" " : Str) ++ w ++ " ") (xs.map rec) ++ ")"
    else (match xs with | [.str x, .tuple vs] => x ++ "(" ++ Txt.join ", " (sList vs) ++ ")" | _ => "")
  | _ => ""
def sayT : Nat → PyData → Str
  | 0 => sayT1 fun _ => ""
  | n + 1 => sayT1 (sayT n)
def rsay : Nat → PyData → Str
  | 0 => fun _ => ""
  | n + 1 => sayT n
theorem sayT_eq (n : Nat) : sayT n = sayT1 (rsay n) := by cases n <;> rfl
def smStr (z : Str) : Prop := 1 ≤ z.length ∧ z.length ≤ 10 ∧ PyData.strOk z = true
inductive GSay1 (nms : List Str) (R : PyData → Prop) : PyData → Prop
  | cmp {w : Str} {a b : PyData} (hw : w = "equal" ∨ w = "less") (ha : GTerm nms 3 a) (hb : GTerm nms 3 b) : GSay1 nms R (.tuple [.str w, a, b])
  | und {a b : PyData} {i j k : Int} (ha : GTerm nms 3 a) (hs : SmS i j k) (hb : GTerm nms 3 b) : GSay1 nms R (.tuple [.str "under", a, .tuple [.int i, .int j, .int k], b])
  | lea {a : PyData} {m r : Int} (ha : GTerm nms 3 a) (hm : m.natAbs < 1000) (hr : r.natAbs < 1000) : GSay1 nms R (.tuple [.str "leaves", a, .int m, .int r])
  | use {x : Str} {vs : List Str} (hx : smStr x) (hv : vs.length ≤ 10) (hs : ∀ z ∈ vs, smStr z) : GSay1 nms R (.tuple [.str "use", .str x, .tuple (vs.map PyData.str)])
  | neg {a : PyData} (ha : R a) : GSay1 nms R (.tuple [.str "not", a])
  | bnd {w x : Str} {a : PyData} (hw : w = "some" ∨ w = "all") (hx : smStr x) (ha : R a) : GSay1 nms R (.tuple [.str w, .str x, a])
  | grp {w : Str} {ss : List PyData} (hw : w = "and" ∨ w = "or") (hl : 1 ≤ ss.length ∧ ss.length ≤ 3) (hs : ∀ s ∈ ss, R s) : GSay1 nms R (.tuple (.str w :: ss))
def GSay (nms : List Str) : Nat → PyData → Prop
  | 0 => GSay1 nms fun _ => False
  | n + 1 => GSay1 nms (GSay nms n)
def RSay (nms : List Str) : Nat → PyData → Prop
  | 0 => fun _ => False
  | n + 1 => GSay nms n
theorem GSay_eq (nms : List Str) (n : Nat) : GSay nms n = GSay1 nms (RSay nms n) := by cases n <;> rfl
def spRSay (nms : List Str) (n : Nat) : Sp := fun vs H Q _ => ∃ (m : Nat) (v : V) (d : PyData), vs = [v] ∧ m ≤ 60 ∧ Dt m H v d ∧ RSay nms n d ∧ ∀ H', Same H H' → Q (.str (rsay n d)) H'
def spSayT (nms : List Str) (n : Nat) : Sp := fun vs H Q _ => ∃ (m : Nat) (v : V) (d : PyData), vs = [v] ∧ m ≤ 60 ∧ Dt m H v d ∧ GSay nms n d ∧ ∀ H', Same H H' → Q (.str (sayT n d)) H'
def rJoinS (K : PySem.W.Frag) : V → List V → Hp → VK → Prop := fun x xs H Q => ∃ a p, ∃ ys : List Str, x = .str a ∧ xs = [.ref p] ∧ (SqL K H p (ys.map V.str) ∨ SqT K H p (ys.map V.str)) ∧ (ys.map (·.length)).sum + ys.length * a.length ≤ 16777216 ∧ Q (.str (Txt.join a ys)) H
theorem pe_joinS {X : Cx} {o e : Expr} {to te : TE} {apos pos : Pos} (ho : PE X o to) (he : PE X e te) (hs : starEach [e] X.env = [(false, eval e X.env)] := by rfl) (hbase : attributeBase o "join" X.env (eval o X.env) = eval o X.env := by rfl) (hline : (apos.endLine == pos.line) = true := by rfl) : PE X (.Call (.Attribute o "join" apos) [e] [] pos) (tM1 (rJoinS X.K) to te) := pe_join ho he hs hbase hline
def JoB (r : V → List V → Hp → VK → Prop) (te : TE) (σ : L2.St) (x : V) (H : Hp) (Q : VK) : Prop := (∃ a, x = .str a) ∧ te σ H fun y H2 => r x [y] H2 Q
theorem rd_m1 {r : V → List V → Hp → VK → Prop} {to te : TE} {σ : L2.St} {H : Hp} {Q : VK} (h : to σ H fun x H1 => JoB r te σ x H1 Q) : tM1 r to te σ H Q := h
theorem rd_joB {r : V → List V → Hp → VK → Prop} {te : TE} {σ : L2.St} {H : Hp} {Q : VK} {a : Str} (h : te σ H fun y H2 => r (.str a) [y] H2 Q) : JoB r te σ (.str a) H Q := ⟨⟨a, rfl⟩, h⟩
theorem rd_joinL {K : PySem.W.Frag} {a : Str} {p : Addr} {ys : List Str} {H : Hp} {Q : VK} (h : SqL K H p (ys.map V.str)) (hl : (ys.map (·.length)).sum + ys.length * a.length ≤ 16000000) (q : Q (.str (Txt.join a ys)) H) : rJoinS K (.str a) [.ref p] H Q := ⟨a, p, ys, rfl, rfl, .inl h, Nat.le_trans hl (by decide), q⟩
theorem wd_ne {a b : Str} (h : a ≠ b) : decide (V.str a = V.str b) = false := decide_eq_false fun e => h (by injection e)
theorem wd_eq (a : Str) : decide (V.str a = V.str a) = true := decide_eq_true rfl
theorem lenB4 : lenB 4 = 34000 := by decide
theorem len_sum {B : Nat} : ∀ (ys : List Str), (∀ y ∈ ys, y.length ≤ B) → (ys.map (·.length)).sum ≤ ys.length * B
  | [], _ => Nat.zero_le _
  | y :: ys, h => by
    have h1 := h y (List.mem_cons_self ..)
    have h2 := len_sum ys fun z hz => h z (List.mem_cons_of_mem _ hz)
    rw [List.map_cons, List.sum_cons, List.length_cons, Nat.succ_mul]
    omega
theorem joinT_len {B : Nat} (s : Str) (ys : List Str) (h : ∀ y ∈ ys, y.length ≤ B) : (Txt.join s ys).length ≤ ys.length * B + ys.length * s.length := by
  have h1 := StrLaws.join_length_le s ys
  have h2 := len_sum ys h
  show (PySem.Builtin.Str.glued s ys).length ≤ _
  rw [StrLaws.glued_eq_join]
  omega
theorem so_app {a b : Str} (ha : PyData.strOk a = true) (hb : PyData.strOk b = true) : PyData.strOk (a ++ b) = true := by
  unfold PyData.strOk at *
  rw [PySem.Str.cps_append, Array.all_append, ha, hb]
  rfl
theorem so_of (s : String) : PyData.strOk (Str.ofString s) = true := by
  unfold PyData.strOk Str.ofString
  rw [PySem.cpsOfBytes_string, List.all_toArray, List.all_map, List.all_eq_true]
  intro c _
  have h := c.valid
  simp only [UInt32.isValidChar, Nat.isValidChar] at h
  have ht : c.toNat = c.val.toNat := rfl
  simp only [Function.comp, decide_eq_true_eq]
  omega
theorem so_joinS (s : Str) (hs : PyData.strOk s = true) : ∀ ys : List Str, (∀ y ∈ ys, PyData.strOk y = true) → PyData.strOk (PySem.Str.join s ys) = true
  | [], _ => so_of ""
  | [x], h => h x (List.mem_cons_self ..)
  | x :: y :: r, h => so_app (so_app (h x (List.mem_cons_self ..)) hs) (so_joinS s hs (y :: r) fun z hz => h z (List.mem_cons_of_mem _ hz))
theorem so_join (s : Str) (ys : List Str) (hs : PyData.strOk s = true) (h : ∀ y ∈ ys, PyData.strOk y = true) : PyData.strOk (Txt.join s ys) = true := by
  show PyData.strOk (PySem.Builtin.Str.glued s ys) = true
  rw [StrLaws.glued_eq_join]
  exact so_joinS s hs ys h
local macro_rules | `(tactic| walk_at "so") => `(tactic| repeat (first | (with_reducible assumption) | (with_reducible refine so_app ?_ ?_) | split | exact so_of _))
theorem numT_so (i j : Int) : PyData.strOk (numT i j) = true := by
  have h1 : PyData.strOk (iT i) = true := so_of _
  have h2 : PyData.strOk (iT j.natAbs) = true := so_of _
  unfold numT
  walk_at "so"
theorem slopeT_so (i j k : Int) : PyData.strOk (slopeT i j k) = true := by
  have h1 := numT_so i j
  have h2 : PyData.strOk (iT k) = true := so_of _
  unfold slopeT
  walk_at "so"
theorem sgnT_so (t : Str) (n : Int) (b : Bool) (h : PyData.strOk t = true) : PyData.strOk (sgnT t n b) = true := by
  unfold sgnT
  walk_at "so"
def okN (nms : List Str) : Prop := ∀ z ∈ nms, PyData.strOk z = true
theorem thingT_so {nms : List Str} {R : PyData → Prop} {rec : PyData → Str} {x : PyData} (hn : okN nms) (hr : ∀ t, R t → PyData.strOk (rec t) = true) (h : GThing nms R x) : PyData.strOk (thingT rec x) = true := by
  rcases h with ⟨z, rfl, hz⟩ | ⟨i, j, k, t, rfl, hs, ht⟩
  · exact hn z hz
  · have a1 := slopeT_so i j k
    have a2 := hr t ht
    rw [show thingT rec (.tuple [.str "floor", .tuple [.int i, .int j, .int k], t]) = ("floor(" : Str) ++ slopeT i j k ++ ", " ++ rec t ++ ")" from rfl]
    walk_at "so"
theorem catT_so {nms : List Str} {R : PyData → Prop} {rec : PyData → Str} (hn : okN nms) (hr : ∀ t, R t → PyData.strOk (rec t) = true) : ∀ (b : Bool) (ds : List PyData), (∀ d ∈ ds, GItem2 nms R d) → PyData.strOk (catT rec b ds) = true
  | _, [], _ => so_of ""
  | b, d :: ds, h => by
    obtain ⟨f, x, rfl, h1, h2, h3⟩ := h d (List.mem_cons_self ..)
    have ih := catT_so hn hr false ds fun e he => h e (List.mem_cons_of_mem _ he)
    have a1 := thingT_so hn hr h3
    show PyData.strOk (sgnT (itemT rec f x) f b ++ catT rec false ds) = true
    refine so_app (sgnT_so _ _ _ ?_) ih
    unfold itemT
    have h2 : PyData.strOk (iT f.natAbs) = true := so_of _
    walk_at "so"
theorem termT1_so {nms : List Str} {R : PyData → Prop} {rec : PyData → Str} (hn : okN nms) (hr : ∀ t, R t → PyData.strOk (rec t) = true) {d : PyData} (h : GT nms R d) : PyData.strOk (termT1 rec d) = true := by
  obtain ⟨its, c, rfl, h1, h2, h3, h4⟩ := h
  have a1 := catT_so hn hr true its fun d hd => (h4 d hd).two
  have a3 := sgnT_so (iT c.natAbs) c its.isEmpty (so_of _)
  show PyData.strOk (if c ≠ 0 ∨ its = [] then catT _ true its ++ sgnT (iT c.natAbs) c its.isEmpty else catT _ true its) = true
  walk_at "so"
theorem termT_so {nms : List Str} (hn : okN nms) : ∀ (n : Nat) (d : PyData), GTerm nms n d → PyData.strOk (termT n d) = true
  | 0, d, h => termT1_so (R := fun _ => False) hn (fun _ h => h.elim) h
  | n + 1, d, h => termT1_so hn (fun t ht => termT_so hn n t ht) h
theorem sList_map : ∀ vs : List Str, sList (vs.map PyData.str) = vs
  | [] => rfl
  | z :: vs => congrArg (z :: ·) (sList_map vs)
theorem say_so {nms : List Str} {R : PyData → Prop} {rec : PyData → Str} (hn : okN nms) (hr : ∀ t, R t → PyData.strOk (rec t) = true) {d : PyData} (h : GSay1 nms R d) : PyData.strOk (sayT1 rec d) = true := by
  cases h with
  | @cmp w a b hw ha hb =>
    have h1 := termT_so hn 3 _ ha
    have h2 := termT_so hn 3 _ hb
    rcases hw with rfl | rfl
    · show PyData.strOk (tM a ++ " = " ++ tM b) = true
      unfold tM
      walk_at "so"
    · show PyData.strOk (tM a ++ " < " ++ tM b) = true
      unfold tM
      walk_at "so"
  | @und a b i j k ha hs hb =>
    have h1 := termT_so hn 3 _ ha
    have h2 := termT_so hn 3 _ hb
    have h3 := slopeT_so i j k
    show PyData.strOk (("under(" : Str) ++ tM a ++ ", " ++ slopeT i j k ++ ", " ++ tM b ++ ")") = true
    unfold tM
    walk_at "so"
  | @lea a m r ha hm hr' =>
    have h1 := termT_so hn 3 _ ha
    have h2 : PyData.strOk (iT m) = true := so_of _
    have h3 : PyData.strOk (iT r) = true := so_of _
    show PyData.strOk (("leaves(" : Str) ++ tM a ++ ", " ++ iT m ++ ", " ++ iT r ++ ")") = true
    unfold tM
    walk_at "so"
  | @use x vs hx hv hs =>
    have h1 := so_join ", " vs (so_of _) fun y hy => (hs y hy).2.2
    have h2 := hx.2.2
    show PyData.strOk (x ++ "(" ++ Txt.join ", " (sList (vs.map PyData.str)) ++ ")") = true
    rw [sList_map]
    walk_at "so"
  | @neg a ha =>
    have h1 := hr _ ha
    show PyData.strOk (("not " : Str) ++ rec a) = true
    walk_at "so"
  | @bnd w x a hw hx ha =>
    have h1 := hr _ ha
    have h2 := hx.2.2
    rcases hw with rfl | rfl
    · show PyData.strOk (("some" : Str) ++ " " ++ x ++ " " ++ rec a) = true
      walk_at "so"
    · show PyData.strOk (("all" : Str) ++ " " ++ x ++ " " ++ rec a) = true
      walk_at "so"
  | @grp w ss hw hl hs =>
    have h0 : ∀ y ∈ ss.map rec, PyData.strOk y = true := fun y hy => by
      obtain ⟨s, h1, rfl⟩ := List.mem_map.1 hy
      exact hr s (hs s h1)
    rcases hw with rfl | rfl
    · have h1 := so_join ((" " : Str) ++ "and" ++ " ") (ss.map rec) (by walk_at "so") h0
      show PyData.strOk (("(" : Str) ++ Txt.join ((" " : Str) ++ "and" ++ " ") (ss.map rec) ++ ")") = true
      walk_at "so"
    · have h1 := so_join ((" " : Str) ++ "or" ++ " ") (ss.map rec) (by walk_at "so") h0
      show PyData.strOk (("(" : Str) ++ Txt.join ((" " : Str) ++ "or" ++ " ") (ss.map rec) ++ ")") = true
      walk_at "so"
theorem sayT_so {nms : List Str} (hn : okN nms) : ∀ (n : Nat) (d : PyData), GSay nms n d → PyData.strOk (sayT n d) = true
  | 0, d, h => say_so (R := fun _ => False) hn (fun _ h => h.elim) h
  | n + 1, d, h => say_so hn (fun t ht => sayT_so hn n t ht) h
theorem tM_len {nms : List Str} {a : PyData} (hn : smallN nms) (h : GTerm nms 3 a) : (tM a).length ≤ 34000 := by
  have := termT_len hn 3 a h
  rw [lenB4] at this
  exact this
def sayB : Nat → Nat
  | 0 => 69000
  | n + 1 => 3 * sayB n + 69000
theorem say_len {nms : List Str} {R : PyData → Prop} {rec : PyData → Str} {B : Nat} (hn : smallN nms) (hr : ∀ t, R t → (rec t).length ≤ B) {d : PyData} (h : GSay1 nms R d) : (sayT1 rec d).length ≤ 3 * B + 69000 := by
  have l1 : ("(" : Str).length = 1 := by decide
  have l2 : (", " : Str).length = 2 := by decide
  have l3 : (")" : Str).length = 1 := by decide
  have l4 : (" " : Str).length = 1 := by decide
  have l5 : (" = " : Str).length = 3 := by decide
  have l6 : (" < " : Str).length = 3 := by decide
  have l7 : ("under(" : Str).length = 6 := by decide
  have l8 : ("leaves(" : Str).length = 7 := by decide
  have l9 : ("not " : Str).length = 4 := by decide
  have l10 : ("some" : Str).length = 4 := by decide
  have l11 : ("all" : Str).length = 3 := by decide
  have l12 : ("and" : Str).length = 3 := by decide
  have l13 : ("or" : Str).length = 2 := by decide
  cases h with
  | @cmp w a b hw ha hb =>
    have h1 := tM_len hn ha
    have h2 := tM_len hn hb
    rcases hw with rfl | rfl
    · show (tM a ++ " = " ++ tM b).length ≤ _
      rw [Str.length_append, Str.length_append]
      omega
    · show (tM a ++ " < " ++ tM b).length ≤ _
      rw [Str.length_append, Str.length_append]
      omega
  | @und a b i j k ha hs hb =>
    have h1 := tM_len hn ha
    have h2 := tM_len hn hb
    have h3 := slopeT_len hs
    show (("under(" : Str) ++ tM a ++ ", " ++ slopeT i j k ++ ", " ++ tM b ++ ")").length ≤ _
    simp only [Str.length_append]
    omega
  | @lea a m r ha hm hr' =>
    have h1 := tM_len hn ha
    have h2 := iT_len (i := m) (by omega)
    have h3 := iT_len (i := r) (by omega)
    show (("leaves(" : Str) ++ tM a ++ ", " ++ iT m ++ ", " ++ iT r ++ ")").length ≤ _
    simp only [Str.length_append]
    omega
  | @use x vs hx hv hs =>
    have h1 := joinT_len (B := 10) ", " vs fun y hy => (hs y hy).2.1
    have h2 := hx.2.1
    show (x ++ "(" ++ Txt.join ", " (sList (vs.map PyData.str)) ++ ")").length ≤ _
    rw [sList_map]
    simp only [Str.length_append]
    rw [l2] at h1
    omega
  | @neg a ha =>
    have h1 := hr _ ha
    show (("not " : Str) ++ rec a).length ≤ _
    simp only [Str.length_append]
    omega
  | @bnd w x a hw hx ha =>
    have h1 := hr _ ha
    have h2 := hx.2.1
    rcases hw with rfl | rfl
    · show (("some" : Str) ++ " " ++ x ++ " " ++ rec a).length ≤ _
      simp only [Str.length_append]
      omega
    · show (("all" : Str) ++ " " ++ x ++ " " ++ rec a).length ≤ _
      simp only [Str.length_append]
      omega
  | @grp w ss hw hl hs =>
    have h0 : ∀ y ∈ ss.map rec, y.length ≤ B := fun y hy => by
      obtain ⟨s, h1, rfl⟩ := List.mem_map.1 hy
      exact hr s (hs s h1)
    have hm := Nat.mul_le_mul_right B hl.2
    rcases hw with rfl | rfl
    · have h1 := joinT_len ((" " : Str) ++ "and" ++ " ") (ss.map rec) h0
      show (("(" : Str) ++ Txt.join ((" " : Str) ++ "and" ++ " ") (ss.map rec) ++ ")").length ≤ _
      rw [List.length_map] at h1
      simp only [Str.length_append] at h1 ⊢
      rw [l4, l12] at h1
      omega
    · have h1 := joinT_len ((" " : Str) ++ "or" ++ " ") (ss.map rec) h0
      show (("(" : Str) ++ Txt.join ((" " : Str) ++ "or" ++ " ") (ss.map rec) ++ ")").length ≤ _
      rw [List.length_map] at h1
      simp only [Str.length_append] at h1 ⊢
      rw [l4, l13] at h1
      omega
theorem sayT_len {nms : List Str} (hn : smallN nms) : ∀ (n : Nat) (d : PyData), GSay nms n d → (sayT n d).length ≤ sayB n
  | 0, d, h => by
    have := say_len (R := fun _ => False) (rec := fun _ => "") (B := 0) hn (fun _ h => h.elim) h
    exact this
  | n + 1, d, h => say_len hn (fun t ht => sayT_len hn n t ht) h
theorem Dt.sm {H H' : Hp} {n : Nat} {v : V} {d : PyData} (s : Same H H') (h : Dt n H v d) : Dt n H' v d := h.keep (Tps.of (Ext.of s))
theorem floor_at {H : Hp} {m : Nat} {v : V} {i j k : Int} {t : PyData} (h : Dt m H v (.tuple [.str "floor", .tuple [.int i, .int j, .int k], t])) : ∃ m' a p x, m' ≤ m ∧ v = .ref a ∧ H a = some (.tup [.str "floor", .ref p, x]) ∧ H p = some (.tup [.int i, .int j, .int k]) ∧ Dt m' H x t := by
  obtain ⟨m1, a, xs, rfl, rfl, h1, _, h3⟩ := h.of_tuple
  rcases h3 with _ | ⟨a0, _ | ⟨a1, _ | ⟨a2, _ | _⟩⟩⟩
  obtain ⟨m2, p, ys, rfl, rfl, g1, _, g3⟩ := a1.of_tuple
  rcases g3 with _ | ⟨b0, _ | ⟨b1, _ | ⟨b2, _ | _⟩⟩⟩
  cases b0.eq_int
  cases b1.eq_int
  cases b2.eq_int
  cases a0.dn.eq_str
  exact ⟨_, a, p, _, by omega, rfl, h1, g1, a2⟩
/-- an item as it stands -/
theorem item_at {H : Hp} {m : Nat} {v : V} {f : Int} {x : PyData} (h : Dt m H v (.tuple [.int f, x])) : ∃ m' a y, m' ≤ m ∧ v = .ref a ∧ H a = some (.tup [.int f, y]) ∧ Dt m' H y x := by
  obtain ⟨m1, a, xs, rfl, rfl, h1, _, h3⟩ := h.of_tuple
  rcases h3 with _ | ⟨a0, _ | ⟨a1, _ | _⟩⟩
  cases a0.eq_int
  exact ⟨_, a, _, by omega, rfl, h1, a1⟩
/-- a term as it stands -/
theorem term_at {H : Hp} {m : Nat} {v : V} {its : List PyData} {c : Int} (h : Dt m H v (.tuple [.tuple its, .int c])) : ∃ m' a p xs, m' + 1 ≤ m ∧ v = .ref a ∧ H a = some (.tup [.ref p, .int c]) ∧ H p = some (.tup xs) ∧ Paired (Dt m' H) xs its ∧ Dt (m' + 1) H (.ref p) (.tuple its) := by
  obtain ⟨m1, a, xs, rfl, rfl, h1, _, h3⟩ := h.of_tuple
  rcases h3 with _ | ⟨a0, _ | ⟨a1, _ | _⟩⟩
  cases a1.eq_int
  obtain ⟨m2, p, ys, rfl, rfl, g1, g2, g3⟩ := a0.of_tuple
  exact ⟨m2, a, p, ys, by omega, rfl, h1, g1, g3, ⟨p, ys, rfl, g1, g2, g3⟩⟩
theorem eqv_nilT (l : List PyData) : PyData.eqv (.tuple l) (.tuple []) = l.isEmpty := by cases l <;> rfl
/-- a tuple's items as they stand -/
theorem tup_at {H : Hp} {m : Nat} {v : V} {ds : List PyData} (h : Dt m H v (.tuple ds)) : ∃ m' a xs, m' + 1 ≤ m ∧ v = .ref a ∧ H a = some (.tup xs) ∧ xs.length ≤ 100000 ∧ Paired (Dt m' H) xs ds := by
  obtain ⟨m1, a, xs, rfl, rfl, h1, hz, h3⟩ := h.of_tuple
  exact ⟨m1, a, xs, by omega, rfl, h1, hz, h3⟩
theorem paired_strs {H : Hp} {m : Nat} : ∀ {ys : List V} {vs : List Str}, Paired (Dt m H) ys (vs.map PyData.str) → ys = vs.map V.str
  | [], [], _ => rfl
  | y :: ys, z :: vs, .cons h r => by
    cases h.dn.eq_str
    exact congrArg (V.str z :: ·) (paired_strs r)
theorem paired_at {α β : Type} {F : α → β → Prop} : ∀ {xs : List α} {ds : List β} (_ : Paired F xs ds) {i : Nat} {x : α}, xs[i]? = some x → ∃ d, ds[i]? = some d ∧ d ∈ ds ∧ F x d
  | _ :: _, d :: _, .cons h _, 0, x, e => by
    cases e
    exact ⟨d, rfl, List.mem_cons_self .., h⟩
  | _ :: _, _ :: _, .cons _ r, i + 1, x, e => by
    obtain ⟨d, h1, h2, h3⟩ := paired_at r (i := i) (x := x) e
    exact ⟨d, h1, List.mem_cons_of_mem _ h2, h3⟩
  | [], _, _, 0, _, e => by cases e
  | [], _, _, _ + 1, _, e => by cases e
theorem range_mapD {α β : Type} (F : α → β) : ∀ ds : List α, ((List.range ds.length).filterMap fun i => ds[i]?.map F) = ds.map F
  | [] => rfl
  | d :: ds => by
    rw [List.length_cons, List.range_succ_eq_map, List.filterMap_cons]
    show F d :: _ = _
    rw [List.filterMap_map]
    exact congrArg (F d :: ·) (range_mapD F ds)
theorem cut_tail (x : V) (xs : List V) : cutV (x :: xs) (some 1) none = xs := by
  unfold cutV
  have e1 : HT.sIx (x :: xs).length 0 (some 1) = 1 := by
    have := HT.sIx_nat (x :: xs).length 0 1
    rw [show ((1 : Nat) : Int) = 1 from rfl] at this
    rw [this, List.length_cons]
    omega
  have e2 : HT.sIx (x :: xs).length (x :: xs).length none = (x :: xs).length := rfl
  rw [e1, e2, List.length_cons, Nat.add_sub_cancel]
  show xs.take xs.length = xs
  exact List.take_length
/-- a comprehension over data -/
theorem lc_dat {J : It} {m : Nat} {xs : List V} {ds : List PyData} {G : Hp → Prop} (wk : Walk J xs.length G (YAt xs)) {g : TG} {tt : TT} {te : TE} {vs : List Nat} {σ : L2.St} {H : Hp} {Q : VK} (hG : ∀ H', Same H H' → G H') (hp : Paired (Dt m H) xs ds) (F : PyData → V) (hn : xs.length ≤ 100000)
    (hs : ∀ x d H2 (Q' : VK) (N' : Hp → Prop), d ∈ ds → Dt m H x d → Same H H2 → (∀ H4, Same H2 H4 → Q' (F d) H4) →
      g x (wipe σ vs) H2 fun σ2 H4 => wipe σ2 vs = wipe σ vs ∧ tt σ2 H4 fun b H5 => if b = true then te σ2 H5 Q' else N' H5)
    (hd : ∀ D H', H D = none → Same H H' → H' D = some (.lst (ds.map F)) → Q (.ref D) H') : LcB J g tt te vs σ H Q := by
  refine lc_pure wk hG (fun i => ds[i]?.map F) hn (fun i x H2 H3 Q' N' hi s2 y q1 q2 => ?_) (fun D H' nD s1 h1 => hd D H' nD s1 ?_)
  · obtain ⟨rfl, hx⟩ := y
    obtain ⟨d, h1, h2, h3⟩ := paired_at hp hx
    exact hs x d H3 Q' N' h2 h3 s2 (fun H4 => q1 (F d) H4 (by rw [h1]; rfl))
  · rw [h1, hp.length]
    congr 2
    exact range_mapD F ds
end sayings
/-! ## drawn sayings: data drawn from the bag -/
section drawn
def spOfS : Sp := fun vs H Q _ => ∃ (a c : Addr) (ns : List Int) (z : Str), vs = [.ref a, .str z] ∧ Bag a c ns H ∧ 0 < z.length ∧ z.length < 1000 ∧
  ∀ e H', e ∈ z.cps.toList → Ext H H' → Bag a c ns H' → Q (.str ⟨#[e]⟩) H'
/-- a name: four to eight letters, no word -/
def NmOk (z : Str) : Prop := 4 ≤ z.length ∧ z.length ≤ 8 ∧ (∀ c ∈ z.cps.toList, 97 ≤ c ∧ c ≤ 122) ∧ z ≠ "some" ∧ z ≠ "floor" ∧ z ≠ "under" ∧ z ≠ "leaves"
def spAnyName : Sp := fun vs H Q _ => ∃ (a c : Addr) (ns : List Int), vs = [.ref a] ∧ Bag a c ns H ∧ ∀ z H', NmOk z → Ext H H' → Bag a c ns H' → Q (.str z) H'
theorem join_empty : ∀ (ys : List Str), (∀ y ∈ ys, y.length = 1 ∧ ∀ c ∈ y.cps.toList, 97 ≤ c ∧ c ≤ 122) → (PySem.Str.join "" ys).length = ys.length ∧ ∀ c ∈ (PySem.Str.join "" ys).cps.toList, 97 ≤ c ∧ c ≤ 122
  | [], _ => ⟨rfl, fun c hc => absurd hc (by decide +kernel +revert)⟩
  | [x], h => h x (List.mem_cons_self ..)
  | x :: y :: r, h => by
    obtain ⟨h1, h2⟩ := join_empty (y :: r) fun z hz => h z (List.mem_cons_of_mem _ hz)
    obtain ⟨h3, h4⟩ := h x (List.mem_cons_self ..)
    show (x ++ ("" : Str) ++ PySem.Str.join "" (y :: r)).length = _ ∧ ∀ c ∈ (x ++ ("" : Str) ++ PySem.Str.join "" (y :: r)).cps.toList, _
    rw [show x ++ ("" : Str) = x from Str.append_empty x]
    refine ⟨?_, fun c hc => ?_⟩
    · rw [Str.length_append, h1, h3, List.length_cons (a := x), Nat.add_comm]
    · rw [Str.cps_append, Array.toList_append] at hc
      rcases List.mem_append.mp hc with hc | hc
      · exact h4 c hc
      · exact h2 c hc
theorem NmOk.sm {z : Str} (h : NmOk z) : smStr z := by
  obtain ⟨h1, h2, h3, _⟩ := h
  refine ⟨by omega, by omega, ?_⟩
  unfold PyData.strOk
  rw [← Array.all_toList, List.all_eq_true]
  intro c hc
  have := h3 c hc
  exact decide_eq_true (by omega)
/-! ### the drawn sayings -/
inductive DSay1 (nms bnd : List Str) (R : List Str → List Str → PyData → Prop) : PyData → Prop
  | cmp {w : Str} {a b : PyData} (hw : w = "equal" ∨ w = "less") (ha : GTerm nms 3 a) (hb : GTerm nms 1 b) : DSay1 nms bnd R (.tuple [.str w, a, b])
  | und {a b : PyData} {i j k : Int} (ha : GTerm nms 3 a) (hs : SmS i j k) (hb : GTerm nms 1 b) : DSay1 nms bnd R (.tuple [.str "under", a, .tuple [.int i, .int j, .int k], b])
  | lea {a : PyData} {m r : Int} (ha : GTerm nms 3 a) (hm : 2 ≤ m ∧ m ≤ 9) (hr : 0 ≤ r ∧ r < m) : DSay1 nms bnd R (.tuple [.str "leaves", a, .int m, .int r])
  | use {x : Str} {vs : List Str} (hx : NmOk x) (hv : vs.length ≤ 3) (hs : ∀ z ∈ vs, z ∈ nms) : DSay1 nms bnd R (.tuple [.str "use", .str x, .tuple (vs.map PyData.str)])
  | neg {a : PyData} (ha : R nms bnd a) : DSay1 nms bnd R (.tuple [.str "not", a])
  | bnd {w x : Str} {r : List Str} {a : PyData} (hw : w = "some" ∨ w = "all") (hx : bnd = x :: r) (ha : R (nms ++ [x]) r a) : DSay1 nms bnd R (.tuple [.str w, .str x, a])
  | grp {w : Str} {ss : List PyData} (hw : w = "and" ∨ w = "or") (hl : 2 ≤ ss.length ∧ ss.length ≤ 3) (hs : ∀ s ∈ ss, R nms bnd s) : DSay1 nms bnd R (.tuple (.str w :: ss))
def DSay : Nat → List Str → List Str → PyData → Prop
  | 0 => fun nms bnd => DSay1 nms bnd fun _ _ _ => False
  | n + 1 => fun nms bnd => DSay1 nms bnd (DSay n)
def RDSay : Nat → List Str → List Str → PyData → Prop
  | 0 => fun _ _ _ => False
  | n + 1 => DSay n
theorem DSay_eq (n : Nat) (nms bnd : List Str) : DSay n nms bnd = DSay1 nms bnd (RDSay n) := by cases n <;> rfl
theorem GTerm.mono {nms nms' : List Str} (hs : ∀ z ∈ nms, z ∈ nms') : ∀ {n m : Nat} {d : PyData}, n ≤ m → GTerm nms n d → GTerm nms' m d := by
  intro n
  induction n with
  | zero =>
    intro m d _ h
    rw [GTerm_eq] at h ⊢
    obtain ⟨its, c, e, h1, h2, h3, h4⟩ := h
    refine ⟨its, c, e, h1, h2, h3, fun x hx => ?_⟩
    obtain ⟨f, y, e, a, b, c, h⟩ := h4 x hx
    refine ⟨f, y, e, a, b, c, ?_⟩
    rcases h with ⟨z, e, hz⟩ | ⟨_, _, _, _, _, _, h⟩
    · exact .inl ⟨z, e, hs z hz⟩
    · exact h.elim
  | succ n ih =>
    intro m d hm h
    obtain ⟨m, rfl⟩ : ∃ k, m = k + 1 := ⟨m - 1, by omega⟩
    obtain ⟨its, c, e, h1, h2, h3, h4⟩ := h
    refine ⟨its, c, e, h1, h2, h3, fun x hx => ?_⟩
    obtain ⟨f, y, e, a, b, c, h⟩ := h4 x hx
    refine ⟨f, y, e, a, b, c, ?_⟩
    rcases h with ⟨z, e, hz⟩ | ⟨i, j, k, t, e, hk, h⟩
    · exact .inl ⟨z, e, hs z hz⟩
    · exact .inr ⟨i, j, k, t, e, hk, ih (by omega) h⟩
def nmA : List Str := ["x", "abc", "b", "y", "zz", "u", "v", "w"]
theorem nmA_sm : ∀ z ∈ nmA, smStr z := by
  intro z hz
  simp only [nmA, List.mem_cons, List.not_mem_nil, or_false] at hz
  rcases hz with rfl | rfl | rfl | rfl | rfl | rfl | rfl | rfl <;> exact ⟨by decide, by decide, by decide +kernel⟩
theorem nmA_small : smallN nmA := fun z hz => ⟨(nmA_sm z hz).1, (nmA_sm z hz).2.1⟩
theorem nmA_ok : okN nmA := fun z hz => (nmA_sm z hz).2.2
theorem good_of {nms : List Str} (hl : nms.length ≤ 100) (h : ∀ z ∈ nms, z ∈ nmA) : goodNames nms := ⟨hl, fun z hz => ⟨nmA_ok z (h z hz), by have := (nmA_small z (h z hz)).2; omega⟩⟩
theorem DSay.g : ∀ {n : Nat} {nms bnd : List Str} {d : PyData}, (∀ z ∈ nms, z ∈ nmA) → (∀ z ∈ bnd, z ∈ nmA) → DSay n nms bnd d → GSay nmA n d := by
  intro n
  have step : ∀ {R : List Str → List Str → PyData → Prop} {G : PyData → Prop} {nms bnd : List Str} {d : PyData}, (∀ nms bnd d, (∀ z ∈ nms, z ∈ nmA) → (∀ z ∈ bnd, z ∈ nmA) → R nms bnd d → G d) → (∀ z ∈ nms, z ∈ nmA) → (∀ z ∈ bnd, z ∈ nmA) → DSay1 nms bnd R d → GSay1 nmA G d := by
    intro R G nms bnd d hR h1 h2 h
    cases h with
    | cmp hw ha hb => exact .cmp hw (ha.mono h1 (by omega)) (hb.mono h1 (by omega))
    | und ha hs hb => exact .und (ha.mono h1 (by omega)) hs (hb.mono h1 (by omega))
    | lea ha hm hr => exact .lea (ha.mono h1 (by omega)) (by omega) (by omega)
    | use hx hv hs => exact .use hx.sm (by omega) fun z hz => nmA_sm z (h1 z (hs z hz))
    | neg ha => exact .neg (hR _ _ _ h1 h2 ha)
    | bnd hw hx ha =>
      subst hx
      refine .bnd hw (nmA_sm _ (h2 _ (List.mem_cons_self ..))) (hR _ _ _ (fun z hz => ?_) (fun z hz => h2 z (List.mem_cons_of_mem _ hz)) ha)
      rcases List.mem_append.mp hz with hz | hz
      · exact h1 z hz
      · rw [List.mem_singleton.mp hz]
        exact h2 _ (List.mem_cons_self ..)
    | grp hw hl hs => exact .grp hw (by omega) fun s h => hR _ _ _ h1 h2 (hs s h)
  induction n with
  | zero => intro nms bnd d h1 h2 h; exact step (fun _ _ _ _ _ h => h.elim) h1 h2 h
  | succ n ih => intro nms bnd d h1 h2 h; exact step (fun _ _ _ a b h => ih a b h) h1 h2 h
theorem DSay.tup {n : Nat} {nms bnd : List Str} {d : PyData} (h : DSay n nms bnd d) : ∃ es, d = .tuple es := by
  rw [DSay_eq] at h
  cases h <;> exact ⟨_, rfl⟩
def spAnyAtom : Sp := fun vs H Q _ => ∃ (a c l : Addr) (ns : List Int) (nms : List Str), vs = [.ref a, .ref l] ∧ Bag a c ns H ∧ H l = some (.lst (nms.map V.str)) ∧ nms.length ≤ 50 ∧ (∀ z ∈ nms, z ∈ nmA) ∧
  ∃ (bnd : List Str) (R : List Str → List Str → PyData → Prop), ∀ v d H', Ext H H' → Bag a c ns H' → Dt 20 H' v d → DSay1 nms bnd R d → Q v H'
def spAnySay (n : Nat) : Sp := fun vs H Q _ => ∃ (a c l lb : Addr) (ns : List Int) (nms bnd : List Str), vs = [.ref a, .ref l, .ref lb, .int (n : Int)] ∧ Bag a c ns H ∧ H l = some (.lst (nms.map V.str)) ∧ H lb = some (.lst (bnd.map V.str)) ∧ nms.length + bnd.length ≤ 50 ∧ (∀ z ∈ nms, z ∈ nmA) ∧ (∀ z ∈ bnd, z ∈ nmA) ∧
  ∀ v d H', Ext H H' → Bag a c ns H' → Dt (20 + n) H' v d → DSay n nms bnd d → Q v H'
/-! ### parts -/
def kids (d : PyData) : List PyData := match d with
  | .tuple (.str w :: xs) => if w = "and" ∨ w = "or" ∨ w = "not" then xs else if w = "some" ∨ w = "all" then (match xs with | [_, a] => [a] | _ => []) else []
  | _ => []
def prts : Nat → PyData → List PyData
  | 0 => fun d => [d]
  | n + 1 => fun d => d :: (kids d).flatMap (prts n)
end drawn
section parts
theorem kids_of {nms : List Str} {n : Nat} {d : PyData} (h : GSay nms n d) : ∀ e ∈ kids d, RSay nms n e := by
  rw [GSay_eq] at h
  intro e he
  cases h with
  | cmp hw ha hb => rcases hw with rfl | rfl <;> cases he
  | und ha hs hb => cases he
  | lea ha hm hr => cases he
  | use hx hv hs => cases he
  | neg ha => cases List.mem_singleton.mp (show e ∈ [_] from he); exact ha
  | bnd hw hx ha => rcases hw with rfl | rfl <;> (cases List.mem_singleton.mp (show e ∈ [_] from he); exact ha)
  | grp hw hl hs => rcases hw with rfl | rfl <;> exact hs e he
theorem prts_up {nms : List Str} : ∀ {n : Nat} {d : PyData}, GSay nms n d → ∀ j, n ≤ j → prts j d = d :: (kids d).flatMap (prts j) := by
  intro n
  induction n with
  | zero =>
    intro d h j _
    have e : kids d = [] := by
      cases e : kids d with
      | nil => rfl
      | cons x xs => exact absurd (kids_of h x (by rw [e]; exact List.mem_cons_self ..)) (fun z => z.elim)
    cases j with
    | zero => rw [e]; rfl
    | succ j => show d :: (kids d).flatMap (prts j) = _; rw [e]; rfl
  | succ n ih =>
    intro d h j hj
    obtain ⟨j, rfl⟩ : ∃ k, j = k + 1 := ⟨j - 1, by omega⟩
    show d :: (kids d).flatMap (prts j) = _
    have hk := kids_of h
    have : ∀ l : List PyData, (∀ e ∈ l, GSay nms n e) → l.flatMap (prts j) = l.flatMap (prts (j + 1)) := by
      intro l hl
      induction l with
      | nil => rfl
      | cons x xs ihx =>
        rw [List.flatMap_cons, List.flatMap_cons, ihx fun e he => hl e (List.mem_cons_of_mem _ he)]
        have hx := hl x (List.mem_cons_self ..)
        congr 1
        have fu : ∀ (n : Nat) (x : PyData), GSay nms n x → ∀ j, n ≤ j → prts j x = prts (j + 1) x := by
          intro n
          induction n with
          | zero =>
            intro x hx j _
            have e : kids x = [] := by
              cases e : kids x with
              | nil => rfl
              | cons y ys => exact absurd (kids_of hx y (by rw [e]; exact List.mem_cons_self ..)) (fun z => z.elim)
            cases j with
            | zero => show [x] = x :: (kids x).flatMap (prts 0); rw [e]; rfl
            | succ j => show x :: (kids x).flatMap (prts j) = x :: (kids x).flatMap (prts (j + 1)); rw [e]; rfl
          | succ n ih2 =>
            intro x hx j hj
            obtain ⟨j, rfl⟩ : ∃ k, j = k + 1 := ⟨j - 1, by omega⟩
            show x :: (kids x).flatMap (prts j) = x :: (kids x).flatMap (prts (j + 1))
            congr 1
            have hk := kids_of hx
            generalize kids x = l at hk
            clear hx
            induction l with
            | nil => rfl
            | cons y ys ihy => rw [List.flatMap_cons, List.flatMap_cons, ihy fun e he => hk e (List.mem_cons_of_mem _ he), ih2 y (hk y (List.mem_cons_self ..)) j (by omega)]
        exact fu n x hx j (by omega)
    rw [this _ hk]
theorem prts_len {nms : List Str} : ∀ {n : Nat} {d : PyData}, GSay nms n d → (prts n d).length ≤ 4 ^ (n + 1) := by
  intro n
  induction n with
  | zero => intro d _; exact (by decide : 1 ≤ 4)
  | succ n ih =>
    intro d h
    have hk := kids_of h
    have hl : (kids d).length ≤ 3 := by
      rw [GSay_eq] at h
      cases h with
      | cmp hw ha hb => rcases hw with rfl | rfl <;> exact Nat.zero_le _
      | und ha hs hb => exact Nat.zero_le _
      | lea ha hm hr => exact Nat.zero_le _
      | use hx hv hs => exact Nat.zero_le _
      | neg ha => exact (by decide : 1 ≤ 3)
      | bnd hw hx ha => rcases hw with rfl | rfl <;> exact (by decide : 1 ≤ 3)
      | grp hw hl hs => rcases hw with rfl | rfl <;> exact hl.2
    have : ∀ l : List PyData, (∀ e ∈ l, GSay nms n e) → (l.flatMap (prts n)).length ≤ l.length * 4 ^ (n + 1) := by
      intro l hl
      induction l with
      | nil => exact Nat.zero_le _
      | cons x xs ihx =>
        have h1 := ih (hl x (List.mem_cons_self ..))
        have h2 := ihx fun e he => hl e (List.mem_cons_of_mem _ he)
        rw [List.flatMap_cons, List.length_append, List.length_cons, Nat.succ_mul]
        omega
    have h1 := this _ hk
    have h2 := Nat.mul_le_mul_right (4 ^ (n + 1)) hl
    show (d :: (kids d).flatMap (prts n)).length ≤ 4 ^ (n + 1 + 1)
    rw [List.length_cons, Nat.pow_succ]
    have : 0 < 4 ^ (n + 1) := Nat.pow_pos (by decide)
    omega
/-- the inner parts, a new list -/
def spInner : Sp := fun vs H Q _ => ∃ (m n : Nat) (nms : List Str) (v : V) (d : PyData), vs = [v] ∧ m ≤ 60 ∧ Dt m H v d ∧ GSay nms n d ∧ ∀ l xs H', H l = none → Same H H' → H' l = some (.lst xs) → Paired (Dt m H') xs (kids d) → Q (.ref l) H'
def spParts : Sp := fun vs H Q _ => ∃ (m n : Nat) (nms : List Str) (v : V) (d : PyData), vs = [v] ∧ m ≤ 60 ∧ n ≤ 5 ∧ Dt m H v d ∧ GSay nms n d ∧ ∀ l xs H', H l = none → Same H H' → H' l = some (.lst xs) → Paired (Dt m H') xs (prts n d) → Q (.ref l) H'
theorem dn_list {H : Hp} {m : Nat} {l : Addr} {xs : List V} {ds : List PyData} (h : H l = some (.lst xs)) (p : Paired (Dt m H) xs ds) (t : ∀ d ∈ ds, ∃ es, d = PyData.tuple es) (hl : ds.length ≤ 100000) : Dn (m + 1) H (.ref l) (.list ds) := Dn.lst h (bag_allref (dt_refs p t)) (pimp p fun _ _ q => q.dn) hl
theorem eqv_nilL (l : List PyData) : PyData.eqv (.list l) (.list []) = l.isEmpty := by cases l <;> rfl
theorem GSay.tup {nms : List Str} {n : Nat} {d : PyData} (h : GSay nms n d) : ∃ es, d = .tuple es := by
  rw [GSay_eq] at h
  cases h <;> exact ⟨_, rfl⟩
end parts
section sayingsJ
def nbOk (nms bnd : List Str) : Prop := (nms, bnd) ∈ [(([] : List Str), (["u", "v", "w"] : List Str)), (["x"], ["u", "v"]), (["x", "abc"], ["u"]), (["b", "y", "zz"], [])]
theorem nb_in {nms bnd : List Str} (h : nbOk nms bnd) : nms.length + bnd.length = 3 ∧ (∀ z ∈ nms, z ∈ nmA) ∧ (∀ z ∈ bnd, z ∈ nmA) := by
  simp only [nbOk, List.mem_cons, List.not_mem_nil, or_false, Prod.mk.injEq] at h
  rcases h with ⟨rfl, rfl⟩ | ⟨rfl, rfl⟩ | ⟨rfl, rfl⟩ | ⟨rfl, rfl⟩ <;> exact ⟨rfl, by decide, by decide⟩
def spSaying : Sp := fun vs H Q _ => ∃ (a c : Addr) (ns : List Int), vs = [.ref a] ∧ Bag a c ns H ∧ ∀ v d n nms bnd H', Ext H H' → Bag a c ns H' → n ≤ 3 → Dt 23 H' v d → nbOk nms bnd → DSay n nms bnd d → (prts n d).length < 21 → Q v H'
end sayingsJ
local macro_rules | `(tactic| walk_at "set") => `(tactic| first
  | ((conv => lhs; dsimp only [List.set_cons_zero, List.set_cons_succ]) <;> exact rfl)
  | ((conv => lhs; dsimp [L2.start, List.replicate]) <;> exact rfl)
  | exact rfl)
local macro_rules | `(tactic| walk_at "hp") => `(tactic| first
  | assumption
  | ((refine' Same.get ?e0 ?e1); (case e0 => assumption); (case e1 => walk_at "hp"))
  | ((refine' Ext.get ?e0 ?e1 ?e2); (case e0 => assumption); (case e2 => first | rfl | exact bag_ints _ | exact bag_refs _ | exact bag_strs _ | exact bag_bls _); (case e1 => walk_at "hp")))
local macro_rules | `(tactic| walk_at "sq") => `(tactic| first
  | assumption
  | ((refine' sqT_of ?hq); (case hq => walk_at "hp"))
  | ((refine' sqL_of ?hq); (case hq => walk_at "hp"))
  | ((refine' SqT.same ?e0 ?e1); (case e0 => assumption); (case e1 => walk_at "sq"))
  | ((refine' SqT.ext ?e0 ?e1); (case e0 => assumption); (case e1 => walk_at "sq")))
local macro_rules | `(tactic| walk_at "r1") => `(tactic| first
  | (with_reducible refine rd_seq ?_)
  | (with_reducible refine rd_lc ?_)
  | (with_reducible refine rd_callN ?_)
  | (with_reducible refine rd_then ?_)
  | (with_reducible refine rd_bmL ?_)
  | (with_reducible refine rd_par ?_)
  | ((with_reducible refine' rd_parS ?hs ?_); (case hs => walk_at "set"))
  | (with_reducible refine rd_iZipA ?_)
  | (with_reducible refine rd_for ?_)
  | (with_reducible refine rd_iRng1 ?_)
  | (with_reducible refine rd_iTup ?_)
  | (with_reducible refine rd_iList ?_)
  | (with_reducible refine rd_iStr ?_)
  | (with_reducible refine rd_yes ?_)
  | ((with_reducible refine rd_wipe ?hw ?_); (case hw => exact rfl))
  | (with_reducible refine rd_ifS ?_)
  | (with_reducible refine rd_asg ?_)
  | (with_reducible refine rd_ret ?_)
  | ((with_reducible refine' rd_var ?hv ?_); (case hv => exact rfl))
  | (with_reducible refine rd_c ?_)
  | (with_reducible refine rd_op ?_)
  | (with_reducible refine rd_I0 ?_)
  | (with_reducible refine rd_test ?_)
  | (with_reducible refine rd_B ?_)
  | (with_reducible refine rd_bl ?_)
  | (with_reducible refine rd_int ?_)
  | ((with_reducible refine rd_eq ?hs ?_); (case hs => exact rfl))
  | ((with_reducible refine rd_ne ?hs ?_); (case hs => exact rfl))
  | (with_reducible refine rd_cons ?_)
  | (with_reducible refine rd_nil ?_)
  | (with_reducible refine rd_CB ?_)
  | (with_reducible refine rd_call ?_)
  | ((with_reducible refine' rd_gNameS ?hs ?_); (case hs => walk_at "set"))
  | (with_reducible refine rd_un ?_)
  | (with_reducible refine rd_U ?_)
  | (with_reducible refine rd_and ?_)
  | (with_reducible refine rd_or ?_)
  | (with_reducible refine rd_not ?_)
  | (with_reducible refine rd_andV ?_)
  | (with_reducible refine rd_orV ?_)
  | (with_reducible refine rd_notV ?_)
  | (with_reducible refine rd_if ?_)
  | (with_reducible refine rd_chain ?_)
  | (with_reducible refine rd_isN ?_)
  | (with_reducible refine rd_tup ?_)
  | (with_reducible refine rd_lst ?_)
  | (with_reducible refine rd_drop ?_)
  | (with_reducible refine rd_next ?_)
  | (with_reducible refine rd_true ?_)
  | (with_reducible refine rd_false ?_)
  | (with_reducible refine rd_gSub ?_)
  | (with_reducible refine rd_gCons ?_)
  | (with_reducible refine rd_gNil ?_)
  | (with_reducible refine rd_sl ?_)
  | (with_reducible refine rd_noPart ?_)
  | (with_reducible refine rd_part ?_)
  | (with_reducible refine rd_meth ?_)
  | (with_reducible refine rd_fld ?_)
  | (with_reducible refine rd_prop ?_)
  | (with_reducible refine rd_stat ?_)
  | (with_reducible refine rd_makeK ?_)
  | (with_reducible refine rd_make ?_)
  | (with_reducible refine rd_sFld ?_)
  | (with_reducible refine rd_bits ?_)
  | (with_reducible refine rd_iSeq ?_)
  | (with_reducible refine rd_prs0 ?_)
  | (with_reducible refine rd_prs ?_)
  | (with_reducible refine rd_dget ?_)
  | (with_reducible refine rd_iZipM ?_)
  | (with_reducible refine rd_iEnumM ?_)
  | (with_reducible refine rd_iRng2 ?_)
  | (with_reducible refine rd_revL ?_)
  | ((with_reducible refine' rd_aug ?hv ?_); (case hv => exact rfl))
  | ((with_reducible refine' rd_augI ?hs ?_); (case hs => walk_at "set"))
  | (with_reducible refine rd_join ?_)
  | (with_reducible refine rd_js ?_)
  | (with_reducible refine rd_js0 ?_)
  | (with_reducible refine rd_fmt ?_)
  | (with_reducible refine rd_m1 ?_)
  | (with_reducible refine rd_joB ?_)
  | (with_reducible refine rd_bm0 ?_)
  | (with_reducible refine rd_nT ?_)
  | (with_reducible refine rd_nF ?_))
local macro_rules | `(tactic| walk_at "r") => `(tactic| repeat walk_at "r1")
local macro_rules | `(tactic| walk_at "a1") => `(tactic| first
  | walk_at "r1"
  | (refine rd_newT (sz_small (by simp)) (fun _ _ _ _ _ => ?_))
  | (refine rd_newL (sz_small (by simp)) (fun _ _ _ _ _ => ?_))
  | ((refine' rd_ixT ?hs ?ha ?_); (case hs => walk_at "sq"); (case ha => exact rfl))
  | ((refine' rd_ixL ?hs ?ha ?_); (case hs => walk_at "sq"); (case ha => exact rfl)))
local macro_rules | `(tactic| walk_at "a") => `(tactic| repeat walk_at "a1")
local macro_rules | `(tactic| walk_at "isd") => `(tactic| first
  | exact IsD.int _
  | exact IsD.non
  | exact IsD.bl _
  | exact IsD.str (by decide +kernel) (by decide)
  | assumption
  | ((refine' IsD.up ?h ?l); (case h => assumption); (case l => omega))
  | ((refine' IsD.tup ?h ?l ?p); (case h => walk_at "hp"); (case l => simp); (case p => walk_at "alld"))
  | ((refine' IsD.lst ?h ?b ?l ?p); (case h => walk_at "hp"); (case b => rfl); (case l => simp); (case p => walk_at "alld"))
  | ((refine' IsD.same ?e ?h); (case e => assumption); (case h => walk_at "isd"))
  | ((refine' IsD.ext ?e ?h); (case e => assumption); (case h => walk_at "isd")))
local macro_rules | `(tactic| walk_at "alld") => `(tactic| first
  | exact AllD.nil
  | ((refine' AllD.cons ?x ?r); (case x => walk_at "isd"); (case r => walk_at "alld")))
local macro_rules | `(tactic| walk_at "bag") => `(tactic| first
  | assumption
  | ((refine' Bag.same ?b ?e); (case e => assumption); (case b => walk_at "bag")))
local macro_rules | `(tactic| walk_at "ext") => `(tactic| first
  | assumption
  | exact Ext.refl _
  | ((refine' Ext.trans ?a (Ext.of ?e)); (case e => assumption); (case a => walk_at "ext"))
  | ((refine' Ext.trans ?a ?e); (case e => assumption); (case a => walk_at "ext")))
local macro_rules | `(tactic| walk_at "alx") => `(tactic| first
  | assumption
  | ((refine' AllD.same ?e ?h); (case e => assumption); (case h => walk_at "alx"))
  | ((refine' AllD.ext ?e ?h); (case e => assumption); (case h => walk_at "alx")))
local macro_rules | `(tactic| walk_at "st") => `(tactic| ((refine' rd_start ?hs ?_); (case hs => ((conv => lhs; dsimp [L2.start, List.replicate]) <;> exact rfl))))
local macro_rules | `(tactic| walk_at "dt") => `(tactic| first
  | exact Dt.int _
  | exact Dt.str (by decide +kernel) (by decide)
  | ((refine' Dt.tup ?h ?p ?l); (case h => walk_at "hp"); (case p => walk_at "dts"); (case l => simp)))
local macro_rules | `(tactic| walk_at "dts") => `(tactic| first
  | exact Paired.nil
  | ((refine' Paired.cons ?x ?r); (case x => walk_at "dt"); (case r => walk_at "dts")))
theorem sc_numerator_text : FnScope ["i", "j", "size"] ["i", "j"] (defScope s_numerator_text) := ⟨rfl, rfl, rfl, by decide +kernel, rfl, by decide +kernel, by decide +kernel⟩
theorem sc_slope_text : FnScope ["slope", "i", "j", "k", "text"] ["slope"] (defScope s_slope_text) := ⟨rfl, rfl, rfl, by decide +kernel, rfl, by decide +kernel, by decide +kernel⟩
theorem sc_thing_text : FnScope ["thing"] ["thing"] (defScope s_thing_text) := ⟨rfl, rfl, rfl, by decide +kernel, rfl, by decide +kernel, by decide +kernel⟩
theorem sc_signed : FnScope ["text", "number", "first"] ["text", "number", "first"] (defScope s_signed) := ⟨rfl, rfl, rfl, by decide +kernel, rfl, by decide +kernel, by decide +kernel⟩
theorem sc_term_text : FnScope ["term", "items", "constant", "found", "at", "factor", "thing", "text"] ["term"] (defScope s_term_text) := ⟨rfl, rfl, rfl, by decide +kernel, rfl, by decide +kernel, by decide +kernel⟩
theorem sc_saying_text : FnScope ["saying", "word", "items", "item"] ["saying"] (defScope s_saying_text) := ⟨rfl, rfl, rfl, by decide +kernel, rfl, by decide +kernel, by decide +kernel⟩
theorem sc_law_bag : FnScope ["_law_script"] ["_law_script"] (defScope s_law_bag) := ⟨rfl, rfl, rfl, by decide +kernel, rfl, by decide +kernel, by decide +kernel⟩
theorem sc_law_pull : FnScope ["_law_bag_here", "_law_sides", "_law_cell", "_law_digit", "_law_twice"] ["_law_bag_here", "_law_sides"] (defScope s_law_pull) := ⟨rfl, rfl, rfl, by decide +kernel, rfl, by decide +kernel, by decide +kernel⟩
theorem sc_law_of : FnScope ["_law_bag_here", "_law_some"] ["_law_bag_here", "_law_some"] (defScope s_law_of) := ⟨rfl, rfl, rfl, by decide +kernel, rfl, by decide +kernel, by decide +kernel⟩
theorem sc_law_same : FnScope ["_law_found", "_law_due", "_law_a", "_law_b"] ["_law_found", "_law_due"] (defScope s_law_same) := ⟨rfl, rfl, rfl, by decide +kernel, rfl, by decide +kernel, by decide +kernel⟩
theorem sc_law_any_slope : FnScope ["_law_bag_here"] ["_law_bag_here"] (defScope s_law_any_slope) := ⟨rfl, rfl, rfl, by decide +kernel, rfl, by decide +kernel, by decide +kernel⟩
theorem sc_law_any_name : FnScope ["_law_bag_here", "_law_letters", "_law_found", "_law_k"] ["_law_bag_here"] (defScope s_law_any_name) := ⟨rfl, rfl, rfl, by decide +kernel, rfl, by decide +kernel, by decide +kernel⟩
theorem sc_law_any_term : FnScope ["_law_bag_here", "_law_names", "_law_deep", "_law_items", "_law_k", "_law_factor"] ["_law_bag_here", "_law_names", "_law_deep"] (defScope s_law_any_term) := ⟨rfl, rfl, rfl, by decide +kernel, rfl, by decide +kernel, by decide +kernel⟩
theorem sc_law_any_atom : FnScope ["_law_bag_here", "_law_names", "_law_way", "_law_one", "_law_two", "_law_modulus", "_law_k"] ["_law_bag_here", "_law_names"] (defScope s_law_any_atom) := ⟨rfl, rfl, rfl, by decide +kernel, rfl, by decide +kernel, by decide +kernel⟩
theorem sc_law_any_saying : FnScope ["_law_bag_here", "_law_names", "_law_bound", "_law_deep", "_law_way", "_law_word", "_law_many", "_law_k"] ["_law_bag_here", "_law_names", "_law_bound", "_law_deep"] (defScope s_law_any_saying) := ⟨rfl, rfl, rfl, by decide +kernel, rfl, by decide +kernel, by decide +kernel⟩
theorem sc_law_saying : FnScope ["_law_bag_here", "_law_free", "_law_bound", "_law_found"] ["_law_bag_here"] (defScope s_law_saying) := ⟨rfl, rfl, rfl, by decide +kernel, rfl, by decide +kernel, by decide +kernel⟩
theorem sc_law_inner : FnScope ["_law_part"] ["_law_part"] (defScope s_law_inner) := ⟨rfl, rfl, rfl, by decide +kernel, rfl, by decide +kernel, by decide +kernel⟩
theorem sc_law_parts : FnScope ["_law_saying_z", "_law_found", "_law_left", "_law_part"] ["_law_saying_z"] (defScope s_law_parts) := ⟨rfl, rfl, rfl, by decide +kernel, rfl, by decide +kernel, by decide +kernel⟩
theorem sc_law_step_text : FnScope ["_law_slope", "_law_i", "_law_j", "_law_k", "_law_size", "_law_text_here"] ["_law_slope"] (defScope s_law_step_text) := ⟨rfl, rfl, rfl, by decide +kernel, rfl, by decide +kernel, by decide +kernel⟩
theorem sc_law_thing_text : FnScope ["_law_thing"] ["_law_thing"] (defScope s_law_thing_text) := ⟨rfl, rfl, rfl, by decide +kernel, rfl, by decide +kernel, by decide +kernel⟩
theorem sc_law_term_text : FnScope ["_law_term", "_law_found", "_law_factor", "_law_thing", "_law_text_here"] ["_law_term"] (defScope s_law_term_text) := ⟨rfl, rfl, rfl, by decide +kernel, rfl, by decide +kernel, by decide +kernel⟩
theorem sc_law_text : FnScope ["_law_saying_z", "_law_word", "_law_middle", "_law_one"] ["_law_saying_z"] (defScope s_law_text) := ⟨rfl, rfl, rfl, by decide +kernel, rfl, by decide +kernel, by decide +kernel⟩
theorem sc_law : FnScope ["_law_script", "_law_bag_here", "_law_turn", "_law_saying_z", "_law_x", "_law_half", "_law_one"] ["_law_script"] (defScope s_law) := ⟨rfl, rfl, rfl, by decide +kernel, rfl, by decide +kernel, by decide +kernel⟩
structure Txt (K : PySem.W.Frag) (mg : Str → Option Value) : Prop where
  g_numerator_text : mg "numerator_text" = some (.ref (He.ga K "numerator_text"))
  g_slope_text : mg "slope_text" = some (.ref (He.ga K "slope_text"))
  g_thing_text : mg "thing_text" = some (.ref (He.ga K "thing_text"))
  g_signed : mg "signed" = some (.ref (He.ga K "signed"))
  g_term_text : mg "term_text" = some (.ref (He.ga K "term_text"))
  g_saying_text : mg "saying_text" = some (.ref (He.ga K "saying_text"))
  g_law_bag : mg "_law_bag" = some (.ref (He.ga K "_law_bag"))
  g_law_pull : mg "_law_pull" = some (.ref (He.ga K "_law_pull"))
  g_law_of : mg "_law_of" = some (.ref (He.ga K "_law_of"))
  g_law_same : mg "_law_same" = some (.ref (He.ga K "_law_same"))
  g_law_any_slope : mg "_law_any_slope" = some (.ref (He.ga K "_law_any_slope"))
  g_law_any_name : mg "_law_any_name" = some (.ref (He.ga K "_law_any_name"))
  g_law_any_term : mg "_law_any_term" = some (.ref (He.ga K "_law_any_term"))
  g_law_any_atom : mg "_law_any_atom" = some (.ref (He.ga K "_law_any_atom"))
  g_law_any_saying : mg "_law_any_saying" = some (.ref (He.ga K "_law_any_saying"))
  g_law_saying : mg "_law_saying" = some (.ref (He.ga K "_law_saying"))
  g_law_inner : mg "_law_inner" = some (.ref (He.ga K "_law_inner"))
  g_law_parts : mg "_law_parts" = some (.ref (He.ga K "_law_parts"))
  g_law_step_text : mg "_law_step_text" = some (.ref (He.ga K "_law_step_text"))
  g_law_thing_text : mg "_law_thing_text" = some (.ref (He.ga K "_law_thing_text"))
  g_law_term_text : mg "_law_term_text" = some (.ref (He.ga K "_law_term_text"))
  g_law_text : mg "_law_text" = some (.ref (He.ga K "_law_text"))
  g_law : mg "law" = some (.ref (He.ga K "law"))
  b_abs : mg "abs" = none
  b_all : mg "all" = none
  b_bool : mg "bool" = none
  b_enumerate : mg "enumerate" = none
  b_int : mg "int" = none
  b_isinstance : mg "isinstance" = none
  b_len : mg "len" = none
  b_list : mg "list" = none
  b_range : mg "range" = none
  b_str : mg "str" = none
  b_tuple : mg "tuple" = none
  b_zip : mg "zip" = none
  g_BINDERS : mg "BINDERS" = some (.ref (He.ga K "BINDERS"))
  g_GROUPS : mg "GROUPS" = some (.ref (He.ga K "GROUPS"))
  F_numerator_text : ∃ fd, FunD K "numerator_text" "numerator_text" (defArgs s_numerator_text) (defBody s_numerator_text) (defScope s_numerator_text) [] [] (He.ga K "numerator_text") fd
  F_slope_text : ∃ fd, FunD K "slope_text" "slope_text" (defArgs s_slope_text) (defBody s_slope_text) (defScope s_slope_text) [] [] (He.ga K "slope_text") fd
  F_thing_text : ∃ fd, FunD K "thing_text" "thing_text" (defArgs s_thing_text) (defBody s_thing_text) (defScope s_thing_text) [] [] (He.ga K "thing_text") fd
  F_signed : ∃ fd, FunD K "signed" "signed" (defArgs s_signed) (defBody s_signed) (defScope s_signed) [] [] (He.ga K "signed") fd
  F_term_text : ∃ fd, FunD K "term_text" "term_text" (defArgs s_term_text) (defBody s_term_text) (defScope s_term_text) [] [] (He.ga K "term_text") fd
  F_saying_text : ∃ fd, FunD K "saying_text" "saying_text" (defArgs s_saying_text) (defBody s_saying_text) (defScope s_saying_text) [] [] (He.ga K "saying_text") fd
  F_law_bag : ∃ fd, FunD K "_law_bag" "_law_bag" (defArgs s_law_bag) (defBody s_law_bag) (defScope s_law_bag) [] [] (He.ga K "_law_bag") fd
  F_law_pull : ∃ fd, FunD K "_law_pull" "_law_pull" (defArgs s_law_pull) (defBody s_law_pull) (defScope s_law_pull) [] [] (He.ga K "_law_pull") fd
  F_law_of : ∃ fd, FunD K "_law_of" "_law_of" (defArgs s_law_of) (defBody s_law_of) (defScope s_law_of) [] [] (He.ga K "_law_of") fd
  F_law_same : ∃ fd, FunD K "_law_same" "_law_same" (defArgs s_law_same) (defBody s_law_same) (defScope s_law_same) [] [] (He.ga K "_law_same") fd
  F_law_any_slope : ∃ fd, FunD K "_law_any_slope" "_law_any_slope" (defArgs s_law_any_slope) (defBody s_law_any_slope) (defScope s_law_any_slope) [] [] (He.ga K "_law_any_slope") fd
  F_law_any_name : ∃ fd, FunD K "_law_any_name" "_law_any_name" (defArgs s_law_any_name) (defBody s_law_any_name) (defScope s_law_any_name) [] [] (He.ga K "_law_any_name") fd
  F_law_any_term : ∃ fd, FunD K "_law_any_term" "_law_any_term" (defArgs s_law_any_term) (defBody s_law_any_term) (defScope s_law_any_term) [] [] (He.ga K "_law_any_term") fd
  F_law_any_atom : ∃ fd, FunD K "_law_any_atom" "_law_any_atom" (defArgs s_law_any_atom) (defBody s_law_any_atom) (defScope s_law_any_atom) [] [] (He.ga K "_law_any_atom") fd
  F_law_any_saying : ∃ fd, FunD K "_law_any_saying" "_law_any_saying" (defArgs s_law_any_saying) (defBody s_law_any_saying) (defScope s_law_any_saying) [] [] (He.ga K "_law_any_saying") fd
  F_law_saying : ∃ fd, FunD K "_law_saying" "_law_saying" (defArgs s_law_saying) (defBody s_law_saying) (defScope s_law_saying) [] [] (He.ga K "_law_saying") fd
  F_law_inner : ∃ fd, FunD K "_law_inner" "_law_inner" (defArgs s_law_inner) (defBody s_law_inner) (defScope s_law_inner) [] [] (He.ga K "_law_inner") fd
  F_law_parts : ∃ fd, FunD K "_law_parts" "_law_parts" (defArgs s_law_parts) (defBody s_law_parts) (defScope s_law_parts) [] [] (He.ga K "_law_parts") fd
  F_law_step_text : ∃ fd, FunD K "_law_step_text" "_law_step_text" (defArgs s_law_step_text) (defBody s_law_step_text) (defScope s_law_step_text) [] [] (He.ga K "_law_step_text") fd
  F_law_thing_text : ∃ fd, FunD K "_law_thing_text" "_law_thing_text" (defArgs s_law_thing_text) (defBody s_law_thing_text) (defScope s_law_thing_text) [] [] (He.ga K "_law_thing_text") fd
  F_law_term_text : ∃ fd, FunD K "_law_term_text" "_law_term_text" (defArgs s_law_term_text) (defBody s_law_term_text) (defScope s_law_term_text) [] [] (He.ga K "_law_term_text") fd
  F_law_text : ∃ fd, FunD K "_law_text" "_law_text" (defArgs s_law_text) (defBody s_law_text) (defScope s_law_text) [] [] (He.ga K "_law_text") fd
  F_law : ∃ fd, FunD K "law" "law" (defArgs s_law) (defBody s_law) (defScope s_law) [] [] (He.ga K "law") fd
  t_BINDERS : ∀ H, SqT K H (He.ga K "BINDERS") [.str "some", .str "all"]
  t_GROUPS : ∀ H, SqT K H (He.ga K "GROUPS") [.str "and", .str "or"]
section
variable {P : Program} {w : World} {K : PySem.W.Frag} {mg : Str → Option Value} {base : Heap}
theorem ok_law_bag (T : Txt K mg) : Ok P w K mg base 1 "_law_bag" ["_law_script"] (spBag K) := by
  refine Ok.mk T.F_law_bag T.g_law_bag sc_law_bag (fun _ _ _ _ _ _ us hl => match us, hl with | [_], _ => rfl) (fun vs H Q E h => ?_) (fun cdv A outer s H vs Q E hr h => ?_)
  · obtain ⟨a, ns, rfl, _⟩ := h
    rfl
  · obtain ⟨a, ns, rfl, hS, k⟩ := h
    refine ⟨_, (pss_one (ps_ret (pe_lst (pa_cons (pe_callTy c_list (by rfl) T.b_list (by decide +kernel) (pa_cons (pe_slice sl_list (pv 0) po_none (po_some pe_int)) pa_nil)) (pa_cons pe_int (pa_cons pe_int (pa_cons pe_int pa_nil))))))), ?_⟩
    walk_at "r"
    refine rd_slL hS fun l H1 n1 e1 h1 => ?_
    walk_at "r"
    refine rd_list (.inl (sqL_of h1)) fun l2 H2 n2 e2 h2 => ?_
    walk_at "r"
    refine rd_newL (by show 4 ≤ sizeLine; decide) fun b H3 n3 e3 h3 => ?_
    have e : cutV (ns.map V.int) none (some 63) = ((ns.drop (HT.sIx (ns.map V.int).length 0 none)).take (HT.sIx (ns.map V.int).length (ns.map V.int).length (some 63) - HT.sIx (ns.map V.int).length 0 none)).map V.int := by
      unfold cutV
      rw [List.map_take, List.map_drop]
    rw [e] at h2
    exact k b l2 _ H3 ((e1.trans e2).trans e3) ⟨0, 0, 3842, h3, e3 _ _ h2, by decide, by decide, by decide, by decide⟩
theorem ok_law_pull (T : Txt K mg) : Ok P w K mg base 1 "_law_pull" ["_law_bag_here", "_law_sides"] spPull := by
  refine Ok.mk T.F_law_pull T.g_law_pull sc_law_pull (fun _ _ _ _ _ _ us hl => match us, hl with | [_, _], _ => rfl) (fun vs H Q E h => ?_) (fun cdv A outer s H vs Q E hr h => ?_)
  · obtain ⟨a, c, ns, n, rfl, _⟩ := h
    rfl
  · obtain ⟨a, c, ns, n, rfl, hB, hn0, hn1, k⟩ := h
    refine ⟨_, (Evl.pss_cut (ps_if (PW.pt (pw_and (pt_cmpR op_eq (pe_ix ix_list (pv 0) pe_int (fun _ _ => rfl)) pe_int (nomark _)) (pw_and1 (pt_cmpR op_lt (pe_ix ix_list (pv 0) pe_int (fun _ _ => rfl)) (pe_callB c_len (by rfl) T.b_len (by decide +kernel) (pa_cons (pe_ix ix_list (pv 0) pe_int (fun _ _ => rfl)) pa_nil)) (nomark _))))) (pss_cons (ps_set (i := 2) sc_law_pull.nd rfl (.inl rfl) (pe_ix ix_list (pe_ix ix_list (pv 0) pe_int (fun _ _ => rfl)) (pe_ix ix_list (pv 0) pe_int (fun _ _ => rfl)) (fun _ _ => rfl)))
      (pss_cons (ps_asg (pe_op op_add (pe_ix ix_list (pv 0) pe_int (fun _ _ => rfl)) pe_int) (pg_sub (pv 0) pe_int set_list))
      (pss_one (ps_if (pt_cmpR op_ge (pe_callB c_abs (by rfl) T.b_abs (by decide +kernel) (pa_cons (pv 2) pa_nil)) (pe_op op_pow pe_int pe_int) (nomark _)) (pss_one (ps_asg (pe_callB c_abs (by rfl) T.b_abs (by decide +kernel) (pa_cons (pv 2) pa_nil)) (pg_sub (pv 0) pe_int set_list))) (pss_one (ps_asg (pe_op op_mod (pe_callTy c_int (by rfl) T.b_int (by decide +kernel) (pa_cons (pe_op op_add (pe_op op_add (pe_op op_mul (pe_ix ix_list (pv 0) pe_int (fun _ _ => rfl)) pe_int) (pe_op op_mul (pe_op op_mod (pe_callTy c_int (by rfl) T.b_int (by decide +kernel) (pa_cons (pv 2) pa_nil)) pe_int) pe_int)) pe_int) pa_nil)) pe_int) (pg_sub (pv 0) pe_int set_list))))))) pss_nil)
      (pss_cons (ps_if (pt_cmpR op_gt (pe_ix ix_list (pv 0) pe_int (fun _ _ => rfl)) pe_int (nomark _)) (pss_cons (ps_set (i := 3) sc_law_pull.nd rfl (.inl rfl) (pe_op op_mod (pe_callTy c_int (by rfl) T.b_int (by decide +kernel) (pa_cons (pe_ix ix_list (pv 0) pe_int (fun _ _ => rfl)) pa_nil)) (pv 1)))
      (pss_cons (ps_asg (pe_op op_fdiv (pe_ix ix_list (pv 0) pe_int (fun _ _ => rfl)) (pv 1)) (pg_sub (pv 0) pe_int set_list))
      (pss_one (ps_ret (pv 3))))) pss_nil)
      (pss_cons (ps_set (i := 4) sc_law_pull.nd rfl (.inl rfl) (pe_op op_mod (pe_callTy c_int (by rfl) T.b_int (by decide +kernel) (pa_cons (pe_op op_mul (pe_ix ix_list (pv 0) pe_int (fun _ _ => rfl)) (pe_ix ix_list (pv 0) pe_int (fun _ _ => rfl))) pa_nil)) pe_int))
      (pss_cons (ps_asg (pe_op op_mod (pe_callTy c_int (by rfl) T.b_int (by decide +kernel) (pa_cons (pe_op op_add (pe_op op_add (pe_op op_mul (pv 4) pe_int) (pe_op op_mul (pe_ix ix_list (pv 0) pe_int (fun _ _ => rfl)) pe_int)) pe_int) pa_nil)) pe_int) (pg_sub (pv 0) pe_int set_list))
      (pss_one (ps_ret (pe_op op_mod (pe_callTy c_int (by rfl) T.b_int (by decide +kernel) (pa_cons (pe_op op_fdiv (pe_ix ix_list (pv 0) pe_int (fun _ _ => rfl)) pe_int) pa_nil)) (pv 1)))))))), ?_⟩
    refine ⟨fun σ' H' => ∃ v2, σ' = [some (.ref a), some (.int n), v2, none, none] ∧ Ext H H' ∧ Bag a c ns H', ?_, ?_⟩
    · obtain ⟨i, g, s, h1, h2, hi, hg, hs0, hs1⟩ := hB
      walk_at "r"
      refine rd_ixL (sqL_of h1) (v := .int g) rfl ?_
      walk_at "r"
      refine rd_dec (fun hg0 => ?_) (fun _ => ?_)
      · walk_at "r"
        refine rd_ixL (sqL_of h1) (v := .int i) rfl ?_
        walk_at "r"
        refine rd_ixL (sqL_of h1) (v := .ref c) rfl ?_
        walk_at "r"
        refine rd_lenL (sqL_of h2) ?_
        walk_at "r"
        refine rd_dec (fun hlt => ?_) (fun _ => ?_)
        · obtain ⟨z, hz⟩ := atI_ints hi hlt
          walk_at "r"
          refine rd_ixL (sqL_of h1) (v := .ref c) rfl ?_
          walk_at "r"
          refine rd_ixL (sqL_of h1) (v := .int i) rfl ?_
          refine rd_ixL (sqL_of h2) hz ?_
          walk_at "r"
          refine rd_ixL (sqL_of h1) (v := .int i) rfl ?_
          walk_at "r"
          refine rd_setL h1 (j := 1) rfl fun H1 c1 g1 => ?_
          have x1 : Ext H H1 := c1.ext h1 rfl
          have g2 : H1 c = some (.lst (ns.map V.int)) := x1 _ _ h2 (bag_ints _)
          walk_at "r"
          refine rd_abs ?_
          walk_at "r"
          refine rd_I ⟨by decide, by decide, by decide⟩ ?_
          walk_at "r"
          refine rd_dec (fun hbig => ?_) (fun _ => ?_)
          · walk_at "r"
            refine rd_abs ?_
            walk_at "r"
            refine rd_setL g1 (j := 2) rfl fun H2 c2 g3 => ?_
            have x2 : Ext H1 H2 := c2.ext g1 rfl
            exact ⟨_, rfl, x1.trans x2, i + 1, z.natAbs, s, g3, x2 _ _ g2 (bag_ints _), by omega, by omega, hs0, hs1⟩
          · walk_at "r"
            refine rd_ixL (sqL_of g1) (v := .int s) rfl ?_
            walk_at "r"
            refine rd_I (.inr ⟨by decide, by decide⟩) ?_
            walk_at "r"
            refine rd_intI ?_
            walk_at "r"
            refine rd_I (by decide) ?_
            walk_at "r"
            refine rd_I (.inr ⟨by decide, by decide⟩) ?_
            walk_at "r"
            refine rd_intI ?_
            walk_at "r"
            refine rd_I (by decide) ?_
            walk_at "r"
            refine rd_setL g1 (j := 3) rfl fun H2 c2 g3 => ?_
            have x2 : Ext H1 H2 := c2.ext g1 rfl
            exact ⟨_, rfl, x1.trans x2, i + 1, g, _, g3, x2 _ _ g2 (bag_ints _), by omega, hg, Int.emod_nonneg _ (by decide), Int.emod_lt_of_pos _ (by decide)⟩
        · walk_at "r"
          exact ⟨_, rfl, .refl _, i, g, s, h1, h2, hi, hg, hs0, hs1⟩
      · walk_at "r"
        exact ⟨_, rfl, .refl _, i, g, s, h1, h2, hi, hg, hs0, hs1⟩
    · rintro σ H1 ⟨v2, rfl, x1, i, g, s, h1, h2, hi, hg, hs0, hs1⟩
      walk_at "r"
      refine rd_ixL (sqL_of h1) (v := .int g) rfl ?_
      walk_at "r"
      refine rd_dec (fun hg0 => ?_) (fun _ => ?_)
      · walk_at "r"
        refine rd_ixL (sqL_of h1) (v := .int g) rfl ?_
        walk_at "r"
        refine rd_intI ?_
        walk_at "r"
        refine rd_I hn0 ?_
        walk_at "r"
        refine rd_ixL (sqL_of h1) (v := .int g) rfl ?_
        walk_at "r"
        refine rd_I ⟨hn0, hn1⟩ ?_
        walk_at "r"
        refine rd_setL h1 (j := 2) rfl fun H2 c2 g3 => ?_
        have x2 : Ext H1 H2 := c2.ext h1 rfl
        walk_at "r"
        exact k _ H2 (Int.emod_nonneg _ (by omega)) (Int.emod_lt_of_pos _ hn0) (x1.trans x2) ⟨i, _, s, g3, x2 _ _ h2 (bag_ints _), hi, Int.ediv_nonneg hg (by omega), hs0, hs1⟩
      · walk_at "r"
        refine rd_ixL (sqL_of h1) (v := .int s) rfl ?_
        walk_at "r"
        refine rd_ixL (sqL_of h1) (v := .int s) rfl ?_
        refine rd_I (.inl ⟨by omega, by omega⟩) ?_
        walk_at "r"
        refine rd_intI ?_
        walk_at "r"
        refine rd_I (by decide) ?_
        walk_at "r"
        refine rd_I (.inr ⟨by decide, by decide⟩) ?_
        walk_at "r"
        refine rd_ixL (sqL_of h1) (v := .int s) rfl ?_
        walk_at "r"
        refine rd_I (.inr ⟨by decide, by decide⟩) ?_
        walk_at "r"
        refine rd_intI ?_
        walk_at "r"
        refine rd_I (by decide) ?_
        walk_at "r"
        refine rd_setL h1 (j := 3) rfl fun H2 c2 g3 => ?_
        have x2 : Ext H1 H2 := c2.ext h1 rfl
        walk_at "r"
        refine rd_ixL (sqL_of g3) (v := .int _) rfl ?_
        walk_at "r"
        refine rd_I ⟨by decide, by decide⟩ ?_
        walk_at "r"
        refine rd_intI ?_
        walk_at "r"
        refine rd_I hn0 ?_
        exact k _ H2 (Int.emod_nonneg _ (by omega)) (Int.emod_lt_of_pos _ hn0) (x1.trans x2) ⟨i, g, _, g3, x2 _ _ h2 (bag_ints _), hi, hg, Int.emod_nonneg _ (by decide), Int.emod_lt_of_pos _ (by decide)⟩
theorem atI_in {xs : List V} {d : Int} (h0 : 0 ≤ d) (h1 : d < xs.length) : ∃ v, atI xs d = some v ∧ v ∈ xs := by
  have hl : d.toNat < xs.length := by omega
  have e : ((d.toNat : Nat) : Int) = d := by omega
  have q : atI xs ((d.toNat : Nat) : Int) = some xs[d.toNat] := atI_nat (List.getElem?_eq_getElem hl)
  rw [e] at q
  exact ⟨_, q, List.getElem_mem hl⟩
theorem ok_law_of (T : Txt K mg) (h_law_pull : Ok P w K mg base 1 "_law_pull" ["_law_bag_here", "_law_sides"] spPull) : Ok P w K mg base 2 "_law_of" ["_law_bag_here", "_law_some"] (spOf K) := by
  refine Ok.mk T.F_law_of T.g_law_of sc_law_of (fun _ _ _ _ _ _ us hl => match us, hl with | [_, _], _ => rfl) (fun vs H Q E h => ?_) (fun cdv A outer s H vs Q E hr h => ?_)
  · obtain ⟨a, c, l, ns, xs, rfl, _⟩ := h
    rfl
  · obtain ⟨a, c, l, ns, xs, rfl, hB, hL, hb, hx, hz, k⟩ := h
    refine ⟨_, (pss_one (ps_ret (pe_ix ix_list (pv 1) (pe_ok h_law_pull (hr.mono (by omega)) (by rfl) (pa_cons (pv 0) (pa_cons (pe_callB c_len (by rfl) T.b_len (by decide +kernel) (pa_cons (pv 1) pa_nil)) pa_nil))) (fun _ _ => rfl)))), ?_⟩
    walk_at "r"
    refine rd_lenL hL ?_
    walk_at "r"
    have hp : 0 < xs.length := List.length_pos_iff.mpr hx
    refine ⟨a, c, ns, _, rfl, hB, by omega, by omega, fun d H1 h0 h1 x1 B1 => ?_⟩
    obtain ⟨v, hv, hm⟩ := atI_in h0 h1
    refine rd_ixL (SqL.ext x1 hL hb) hv ?_
    exact k v H1 hm x1 B1
theorem ok_law_same1 (T : Txt K mg) (n : Nat) (hn : n ≤ 60) {spR : Sp} (h_law_same : Ok P w K mg base n "_law_same" ["_law_found", "_law_due"] spR) (hR : ∀ j, n = j + 1 → ∀ vs H Q E, spSame j vs H Q E → spR vs H Q E) :
    Ok P w K mg base (n + 1) "_law_same" ["_law_found", "_law_due"] (spSame n) := by
  refine Ok.mk T.F_law_same T.g_law_same sc_law_same (fun _ _ _ _ _ _ us hl => match us, hl with | [_, _], _ => rfl) (fun vs H Q E h => ?_) (fun cdv A outer s H vs Q E hr h => ?_)
  · obtain ⟨v1, v2, d, rfl, _⟩ := h
    rfl
  · obtain ⟨v1, v2, d, rfl, hA, hB, k⟩ := h
    refine ⟨_, (pss_cons (ps_if (PW.pt (pw_or (pt_cmpR op_isN (pv 1) pe_non (nomark _)) (pw_or1 (pt_cmpR op_isN (pv 0) pe_non (nomark _))))) (pss_one (ps_ret (pe_and (pe_cmpR op_isN (pv 1) pe_non (nomark _)) (pe_one (pe_cmpR op_isN (pv 0) pe_non (nomark _)))))) pss_nil)
      (pss_cons (ps_if (PW.pt (pw_or (pt_val (pe_callB call_isi (by rfl) T.b_isinstance (by decide +kernel) (pa_cons (pv 1) (pa_cons (pe_gty (T := "bool") T.b_bool (by rfl) (by decide +kernel)) pa_nil)))) (pw_or1 (pt_val (pe_callB call_isi (by rfl) T.b_isinstance (by decide +kernel) (pa_cons (pv 0) (pa_cons (pe_gty (T := "bool") T.b_bool (by rfl) (by decide +kernel)) pa_nil))))))) (pss_one (ps_ret (pe_and (pe_callB call_isi (by rfl) T.b_isinstance (by decide +kernel) (pa_cons (pv 1) (pa_cons (pe_gty (T := "bool") T.b_bool (by rfl) (by decide +kernel)) pa_nil))) (pe_and (pe_callB call_isi (by rfl) T.b_isinstance (by decide +kernel) (pa_cons (pv 0) (pa_cons (pe_gty (T := "bool") T.b_bool (by rfl) (by decide +kernel)) pa_nil))) (pe_one (pe_cmpR op_eq (pv 0) (pv 1) (nomark _))))))) pss_nil)
      (pss_cons (ps_if (PW.pt (pw_or (pt_val (pe_callB call_isiT (by rfl) T.b_isinstance (by decide +kernel) (pa_cons (pv 1) (pa_cons (pe_tup (pa_cons (pe_gty (T := "list") T.b_list (by rfl) (by decide +kernel)) (pa_cons (pe_gty (T := "tuple") T.b_tuple (by rfl) (by decide +kernel)) pa_nil))) pa_nil)))) (pw_or1 (pt_val (pe_callB call_isiT (by rfl) T.b_isinstance (by decide +kernel) (pa_cons (pv 0) (pa_cons (pe_tup (pa_cons (pe_gty (T := "list") T.b_list (by rfl) (by decide +kernel)) (pa_cons (pe_gty (T := "tuple") T.b_tuple (by rfl) (by decide +kernel)) pa_nil))) pa_nil))))))) (pss_cons (ps_if (PW.pt (pw_or (pt_cmpR op_ne (pe_callB call_isi (by rfl) T.b_isinstance (by decide +kernel) (pa_cons (pv 1) (pa_cons (pe_gty (T := "list") T.b_list (by rfl) (by decide +kernel)) pa_nil))) (pe_callB call_isi (by rfl) T.b_isinstance (by decide +kernel) (pa_cons (pv 0) (pa_cons (pe_gty (T := "list") T.b_list (by rfl) (by decide +kernel)) pa_nil))) (nomark _)) (pw_or1 (pt_cmpR op_ne (pe_callB call_isi (by rfl) T.b_isinstance (by decide +kernel) (pa_cons (pv 1) (pa_cons (pe_gty (T := "tuple") T.b_tuple (by rfl) (by decide +kernel)) pa_nil))) (pe_callB call_isi (by rfl) T.b_isinstance (by decide +kernel) (pa_cons (pv 0) (pa_cons (pe_gty (T := "tuple") T.b_tuple (by rfl) (by decide +kernel)) pa_nil))) (nomark _))))) (pss_one (ps_ret pe_bl)) pss_nil)
      (pss_one (ps_ret (pe_and (pe_cmpR op_eq (pe_callB c_len (by rfl) T.b_len (by decide +kernel) (pa_cons (pv 0) pa_nil)) (pe_callB c_len (by rfl) T.b_len (by decide +kernel) (pa_cons (pv 1) pa_nil)) (nomark _)) (pe_one (pe_callB (cr_all rfl) (by rfl) T.b_all (by decide +kernel) (pa_cons (pe_lc (own := [("_law_a", 2), ("_law_b", 3)]) (g := (gTup K 2 (gCons (gName 2) (gCons (gName 3) gNil)))) (by rfl) sc_law_same.nd (RZ.pi_zipA (by rfl) T.b_zip (pa_cons (pv 0) (pa_cons (pv 1) pa_nil))) (blkOk_by (own := [("_law_a", 2), ("_law_b", 3)]) (N := ["_law_found", "_law_due", "_law_a", "_law_b"]) (sc := defScope s_law_same) (by decide +kernel)) (fun _ _ _ _ _ => (pg_tup rfl (pgs_cons (pg_name (i := 2) sc_law_same.nd rfl (.inl rfl)) (pgs_cons (pg_name (i := 3) sc_law_same.nd rfl (.inl rfl)) pgs_nil)))) (fun _ _ _ _ _ => pts_nil) (fun _ _ _ _ _ => (pe_ok h_law_same (hr.mono (by omega)) (by rfl) (pa_cons (pv 2) (pa_cons (pv 3) pa_nil))))) pa_nil))))))) pss_nil)
      (pss_cons (ps_if (PW.pt (pw_or (pt_cmpR op_ne (pe_callB call_isi (by rfl) T.b_isinstance (by decide +kernel) (pa_cons (pv 1) (pa_cons (pe_gty (T := "int") T.b_int (by rfl) (by decide +kernel)) pa_nil))) (pe_callB call_isi (by rfl) T.b_isinstance (by decide +kernel) (pa_cons (pv 0) (pa_cons (pe_gty (T := "int") T.b_int (by rfl) (by decide +kernel)) pa_nil))) (nomark _)) (pw_or1 (pt_cmpR op_ne (pe_callB call_isi (by rfl) T.b_isinstance (by decide +kernel) (pa_cons (pv 1) (pa_cons (pe_gty (T := "str") T.b_str (by rfl) (by decide +kernel)) pa_nil))) (pe_callB call_isi (by rfl) T.b_isinstance (by decide +kernel) (pa_cons (pv 0) (pa_cons (pe_gty (T := "str") T.b_str (by rfl) (by decide +kernel)) pa_nil))) (nomark _))))) (pss_one (ps_ret pe_bl)) pss_nil)
      (pss_one (ps_ret (pe_cmpR op_eq (pv 0) (pv 1) (nomark _)))))))), ?_⟩
    have hN : ∀ v, Dn n H v d → d ≠ .none → v ≠ .non := fun v h hd hv => by
      subst hv
      cases d with
      | none => exact hd rfl
      | str x => cases n <;> cases h.1
      | list => cases n with
        | zero => exact h
        | succ => obtain ⟨_, _, h, _⟩ := h; cases h
      | tuple => cases n with
        | zero => exact h
        | succ => obtain ⟨_, _, h, _⟩ := h; cases h
      | dict => cases n <;> exact h
      | _ => cases n <;> cases h
    by_cases hd : d = .none
    · subst hd
      have e1 : v1 = .non := by cases n <;> exact hA
      have e2 : v2 = .non := by cases n <;> exact hB
      subst e1 e2
      walk_at "r"
      refine ⟨rfl, ?_⟩
      walk_at "r"
      refine rd_dec (fun _ => ?_) (fun z => absurd rfl z)
      walk_at "r"
      refine ⟨rfl, ?_⟩
      walk_at "r"
      refine rd_dec (fun _ => ?_) (fun z => absurd rfl z)
      walk_at "r"
      exact ⟨rfl, k _ (.refl _)⟩
    · have n1 := hN v1 hA hd
      have n2 := hN v2 hB hd
      walk_at "r"
      refine ⟨rfl, ?_⟩
      walk_at "r"
      refine rd_dec (fun z => absurd z n2) (fun _ => ?_)
      walk_at "r"
      refine ⟨rfl, ?_⟩
      walk_at "r"
      refine rd_dec (fun z => absurd z n1) (fun _ => ?_)
      walk_at "r"
      refine rd_isi hB (by decide) ?_
      walk_at "r"
      refine rd_bool (fun eb => ?_) (fun eb => ?_)
      · obtain ⟨b, rfl⟩ : ∃ b, d = .bool b := by
          rw [isA_bool] at eb
          cases d with
          | bool b => exact ⟨b, rfl⟩
          | _ => cases eb
        have e1 : v1 = .bl b := by cases n <;> exact hA
        have e2 : v2 = .bl b := by cases n <;> exact hB
        subst e1 e2
        walk_at "r"
        refine rd_isi hB (by decide) ?_
        walk_at "r"
        refine rd_bool (fun _ => ?_) (fun z => by rw [eb] at z; cases z)
        walk_at "r"
        refine rd_isi hA (by decide) ?_
        walk_at "r"
        refine rd_bool (fun _ => ?_) (fun z => by rw [eb] at z; cases z)
        walk_at "r"
        have q := k H (.refl _)
        rw [← decide_eq_true (rfl : V.bl b = V.bl b)] at q
        exact q
      · walk_at "r"
        refine rd_isi hA (by decide) ?_
        walk_at "r"
        refine rd_bool (fun z => by rw [eb] at z; cases z) (fun _ => ?_)
        walk_at "r"
        refine rd_newT (by show 2 ≤ sizeLine; decide) fun pt H1 m1 s1 h1 => ?_
        replace hA := hA.same s1
        replace hB := hB.same s1
        walk_at "r"
        refine rd_isiLT hB h1 ?_
        walk_at "r"
        cases d with
        | none => exact absurd rfl hd
        | bool b => cases eb
        | dict => cases n <;> exact hA.elim
        | int i =>
          have e1 := hA.eq_int
          have e2 := hB.eq_int
          subst e1 e2
          refine rd_bool (fun z => by rw [isA_list, isA_tuple] at z; cases z) (fun _ => ?_)
          walk_at "r"
          refine rd_newT (by show 2 ≤ sizeLine; decide) fun pt2 H2 m2 s2 h2 => ?_
          replace hA := hA.same s2
          replace hB := hB.same s2
          walk_at "r"
          refine rd_isiLT hA h2 ?_
          walk_at "r"
          refine rd_bool (fun z => by rw [isA_list, isA_tuple] at z; cases z) (fun _ => ?_)
          walk_at "r"
          refine rd_isi hB (by decide) ?_
          walk_at "r"
          refine rd_isi hA (by decide) ?_
          walk_at "r"
          refine rd_ndec (fun z => absurd rfl z) (fun _ => ?_)
          walk_at "r"
          refine rd_isi hB (by decide) ?_
          walk_at "r"
          refine rd_isi hA (by decide) ?_
          walk_at "r"
          refine rd_ndec (fun z => absurd rfl z) (fun _ => ?_)
          walk_at "r"
          have q := k H2 (s1.trans s2)
          rw [← decide_eq_true (rfl : V.int i = V.int i)] at q
          exact q
        | str x =>
          have e1 := hA.eq_str
          have e2 := hB.eq_str
          subst e1 e2
          refine rd_bool (fun z => by rw [isA_list, isA_tuple] at z; cases z) (fun _ => ?_)
          walk_at "r"
          refine rd_newT (by show 2 ≤ sizeLine; decide) fun pt2 H2 m2 s2 h2 => ?_
          replace hA := hA.same s2
          replace hB := hB.same s2
          walk_at "r"
          refine rd_isiLT hA h2 ?_
          walk_at "r"
          refine rd_bool (fun z => by rw [isA_list, isA_tuple] at z; cases z) (fun _ => ?_)
          walk_at "r"
          refine rd_isi hB (by decide) ?_
          walk_at "r"
          refine rd_isi hA (by decide) ?_
          walk_at "r"
          refine rd_ndec (fun z => absurd rfl z) (fun _ => ?_)
          walk_at "r"
          refine rd_isi hB (by decide) ?_
          walk_at "r"
          refine rd_isi hA (by decide) ?_
          walk_at "r"
          refine rd_ndec (fun z => absurd rfl z) (fun _ => ?_)
          walk_at "r"
          have q := k H2 (s1.trans s2)
          rw [← decide_eq_true (rfl : V.str x = V.str x)] at q
          exact q
        | list ds =>
          refine rd_bool (fun _ => ?_) (fun z => by rw [isA_list, isA_tuple] at z; cases z)
          walk_at "r"
          refine rd_isi hB (by decide) ?_
          walk_at "r"
          refine rd_isi hA (by decide) ?_
          walk_at "r"
          refine rd_ndec (fun z => absurd rfl z) (fun _ => ?_)
          walk_at "r"
          refine rd_isi hB (by decide) ?_
          walk_at "r"
          refine rd_isi hA (by decide) ?_
          walk_at "r"
          refine rd_ndec (fun z => absurd rfl z) (fun _ => ?_)
          walk_at "r"
          obtain ⟨m, a, xs, rfl, rfl, a1, ab, ap⟩ := hA.of_list
          obtain ⟨m', b, ys, e, rfl, b1, bb, bp⟩ := hB.of_list
          cases e
          have la := Dn.len ap
          have lb := Dn.len bp
          refine rd_lenL (sqL_of a1) ?_
          walk_at "r"
          refine rd_lenL (sqL_of b1) ?_
          walk_at "r"
          refine rd_dec (fun _ => ?_) (fun z => absurd (by rw [la, lb]) z)
          walk_at "r"
          refine rd_wkZL (sqL_of a1) (sqL_of b1) ?_
          have hz := hA.llen a1
          refine lc_pure (walk_zip (xs := xs) (ys := ys) rfl) (fun H' s => ⟨sqL_of (s _ _ a1), sqL_of (s _ _ b1)⟩) (fun _ => some (.bl true)) ?_ (fun i x H2 H3 Q' N' hi s2 y q1 q2 => ?_) (fun D H' nD s2 hD1 => ?_)
          · omega
          · obtain ⟨tt, x, y, rfl, ht, rfl, hx, hy⟩ := y
            obtain ⟨di, hdi, pi⟩ := pat ap hx
            obtain ⟨dj, hdj, pj⟩ := pat bp hy
            rw [hdi] at hdj
            cases hdj
            have st := Same.new (o := .tup [x, y]) ht
            walk_at "r"
            refine rd_gTup (sqT_of upd_same) rfl ?_
            walk_at "r"
            exact hR m rfl _ _ _ _ ⟨x, y, di, rfl, (pi.same s2).same st, (pj.same s2).same st, fun H4 s4 => q1 _ _ rfl (st.trans s4)⟩
          · walk_at "r"
            refine all_lst hD1 (all_yes _) ?_
            rw [all_yes2]
            exact k H' (s1.trans s2)
        | tuple ds =>
          refine rd_bool (fun _ => ?_) (fun z => by rw [isA_list, isA_tuple] at z; cases z)
          walk_at "r"
          refine rd_isi hB (by decide) ?_
          walk_at "r"
          refine rd_isi hA (by decide) ?_
          walk_at "r"
          refine rd_ndec (fun z => absurd rfl z) (fun _ => ?_)
          walk_at "r"
          refine rd_isi hB (by decide) ?_
          walk_at "r"
          refine rd_isi hA (by decide) ?_
          walk_at "r"
          refine rd_ndec (fun z => absurd rfl z) (fun _ => ?_)
          walk_at "r"
          obtain ⟨m, a, xs, rfl, rfl, a1, ap⟩ := hA.of_tuple
          obtain ⟨m', b, ys, e, rfl, b1, bp⟩ := hB.of_tuple
          cases e
          have la := Dn.len ap
          have lb := Dn.len bp
          refine rd_lenT (sqT_of a1) ?_
          walk_at "r"
          refine rd_lenT (sqT_of b1) ?_
          walk_at "r"
          refine rd_dec (fun _ => ?_) (fun z => absurd (by rw [la, lb]) z)
          walk_at "r"
          refine rd_wkZT (sqT_of a1) (sqT_of b1) ?_
          have hz := hA.tlen a1
          refine lc_pure (walk_zipT (xs := xs) (ys := ys) rfl) (fun H' s => ⟨sqT_of (s _ _ a1), sqT_of (s _ _ b1)⟩) (fun _ => some (.bl true)) ?_ (fun i x H2 H3 Q' N' hi s2 y q1 q2 => ?_) (fun D H' nD s2 hD1 => ?_)
          · omega
          · obtain ⟨tt, x, y, rfl, ht, rfl, hx, hy⟩ := y
            obtain ⟨di, hdi, pi⟩ := pat ap hx
            obtain ⟨dj, hdj, pj⟩ := pat bp hy
            rw [hdi] at hdj
            cases hdj
            have st := Same.new (o := .tup [x, y]) ht
            walk_at "r"
            refine rd_gTup (sqT_of upd_same) rfl ?_
            walk_at "r"
            exact hR m rfl _ _ _ _ ⟨x, y, di, rfl, (pi.same s2).same st, (pj.same s2).same st, fun H4 s4 => q1 _ _ rfl (st.trans s4)⟩
          · walk_at "r"
            refine all_lst hD1 (all_yes _) ?_
            rw [all_yes2]
            exact k H' (s1.trans s2)
theorem ok_law_same (T : Txt K mg) : ∀ n : Nat, n ≤ 60 → Ok P w K mg base (n + 1) "_law_same" ["_law_found", "_law_due"] (spSame n)
  | 0, h => ok_law_same1 T 0 h (Ok.never T.F_law_same T.g_law_same (fun _ _ _ _ _ _ us hl => match us, hl with | [_, _], _ => rfl)) (fun j e => by cases e)
  | n + 1, h => ok_law_same1 T (n + 1) h (ok_law_same T n (by omega)) (fun j e vs H Q E h => by cases e; exact h)
theorem ok_law_any_slope (T : Txt K mg) (h_law_pull : Ok P w K mg base 1 "_law_pull" ["_law_bag_here", "_law_sides"] spPull) : Ok P w K mg base 2 "_law_any_slope" ["_law_bag_here"] spAnySlope := by
  refine Ok.mk T.F_law_any_slope T.g_law_any_slope sc_law_any_slope (fun _ _ _ _ _ _ us hl => match us, hl with | [_], _ => rfl) (fun vs H Q E h => ?_) (fun cdv A outer s H vs Q E hr h => ?_)
  · obtain ⟨a, c, ns, rfl, _⟩ := h
    rfl
  · obtain ⟨a, c, ns, rfl, hB, k⟩ := h
    refine ⟨_, (pss_one (ps_ret (pe_tup (pa_cons (pe_op op_sub (pe_ok h_law_pull (hr.mono (by omega)) (by rfl) (pa_cons (pv 0) (pa_cons pe_int pa_nil))) pe_int) (pa_cons (pe_op op_sub (pe_ok h_law_pull (hr.mono (by omega)) (by rfl) (pa_cons (pv 0) (pa_cons pe_int pa_nil))) pe_int) (pa_cons (pe_op op_add pe_int (pe_ok h_law_pull (hr.mono (by omega)) (by rfl) (pa_cons (pv 0) (pa_cons pe_int pa_nil)))) pa_nil)))))), ?_⟩
    walk_at "r"
    refine ⟨a, c, ns, _, rfl, hB, by decide, by decide, fun i H1 i0 i1 x1 B1 => ?_⟩
    walk_at "r"
    refine ⟨a, c, ns, _, rfl, B1, by decide, by decide, fun j H2 j0 j1 x2 B2 => ?_⟩
    walk_at "r"
    refine ⟨a, c, ns, _, rfl, B2, by decide, by decide, fun m H3 m0 m1 x3 B3 => ?_⟩
    walk_at "r"
    refine rd_newT (by show 3 ≤ sizeLine; decide) fun p H4 _ s4 h4 => ?_
    exact k _ (i - 9) (j - 3) (1 + m) H4 ⟨by omega, by omega, by omega, by omega, by omega, by omega⟩ (((x1.trans x2).trans x3).trans (.of s4)) (B3.same s4) (Dt.tup h4 (.cons (Dt.int _) (.cons (Dt.int _) (.cons (Dt.int _) .nil))) (by show 3 ≤ 100000; decide))
theorem ok_law_any_term1 (T : Txt K mg) (n : Nat) {spR : Sp} (h_law_pull : Ok P w K mg base 1 "_law_pull" ["_law_bag_here", "_law_sides"] spPull) (h_law_of : Ok P w K mg base 2 "_law_of" ["_law_bag_here", "_law_some"] (spOf K)) (h_law_any_slope : Ok P w K mg base 2 "_law_any_slope" ["_law_bag_here"] spAnySlope)
    (h_law_any_term : Ok P w K mg base (2 + n) "_law_any_term" ["_law_bag_here", "_law_names", "_law_deep"] spR) (hR : ∀ j, n = j + 1 → ∀ vs H Q E, spAnyTerm j vs H Q E → spR vs H Q E) :
    Ok P w K mg base (3 + n) "_law_any_term" ["_law_bag_here", "_law_names", "_law_deep"] (spAnyTerm n) := by
  refine Ok.mono (Ok.mk (k := 2 + n) T.F_law_any_term T.g_law_any_term sc_law_any_term (fun _ _ _ _ _ _ us hl => match us, hl with | [_, _, _], _ => rfl) (fun vs H Q E h => ?_) (fun cdv A outer s H vs Q E hr h => ?_)) (by omega)
  · obtain ⟨a, c, l, ns, nms, rfl, _⟩ := h
    rfl
  · obtain ⟨a, c, l, ns, nms, rfl, hB, hl, hg, k⟩ := h
    refine ⟨_, (pss_cons (ps_set (i := 3) sc_law_any_term.nd rfl (.inl rfl) (pe_lst pa_nil))
      (pss_cons (ps_for PassesOwn.never rfl (pi_range1 (by rfl) T.b_range (pa_cons (pe_ok h_law_of (hr.mono (by omega)) (by rfl) (pa_cons (pv 0) (pa_cons (pe_lst (pa_cons pe_int (pa_cons pe_int (pa_cons pe_int (pa_cons pe_int (pa_cons pe_int (pa_cons pe_int (pa_cons pe_int pa_nil)))))))) pa_nil))) pa_nil)) (pg_name (i := 4) sc_law_any_term.nd rfl (.inl rfl)) (pss_cons (ps_set (i := 5) sc_law_any_term.nd rfl (.inl rfl) (pe_op op_mul (pe_op op_add pe_int (pe_ok h_law_pull (hr.mono (by omega)) (by rfl) (pa_cons (pv 0) (pa_cons pe_int pa_nil)))) (pe_ok h_law_of (hr.mono (by omega)) (by rfl) (pa_cons (pv 0) (pa_cons (pe_lst (pa_cons pe_int (pa_cons (pe_un un_neg pe_int) (pa_cons pe_int pa_nil)))) pa_nil)))))
      (pss_one (ps_if (PW.pt (pw_and (pt_cmpR op_gt (pv 2) pe_int (nomark _)) (pw_and1 (pt_cmpR op_eq (pe_ok h_law_pull (hr.mono (by omega)) (by rfl) (pa_cons (pv 0) (pa_cons pe_int pa_nil))) pe_int (nomark _))))) (pss_one (ps_expr (pe_bm PySem.F.plainAttrs_list PySem.F.slot_list_append PySem.F.type_list_append mt_append (pv 3) (pa_cons (pe_tup (pa_cons (pv 5) (pa_cons (pe_tup (pa_cons pe_str (pa_cons (pe_ok h_law_any_slope (hr.mono (by omega)) (by rfl) (pa_cons (pv 0) pa_nil)) (pa_cons (pe_ok h_law_any_term (hr.mono (by omega)) (by rfl) (pa_cons (pv 0) (pa_cons (pv 1) (pa_cons (pe_op op_sub (pv 2) pe_int) pa_nil)))) pa_nil)))) pa_nil))) pa_nil)))) (pss_one (ps_if (pt_cmpR (op_neD hr.units) (pv 1) (pe_lst pa_nil) (nomark _)) (pss_one (ps_expr (pe_bm PySem.F.plainAttrs_list PySem.F.slot_list_append PySem.F.type_list_append mt_append (pv 3) (pa_cons (pe_tup (pa_cons (pv 5) (pa_cons (pe_ok h_law_of (hr.mono (by omega)) (by rfl) (pa_cons (pv 0) (pa_cons (pv 1) pa_nil))) pa_nil))) pa_nil)))) pss_nil))))))
      (pss_one (ps_ret (pe_tup (pa_cons (pe_tupleOf (by rfl) T.b_tuple (pe_slice sl_list (pv 3) po_none (po_some pe_int))) (pa_cons (pe_ok h_law_of (hr.mono (by omega)) (by rfl) (pa_cons (pv 0) (pa_cons (pe_lst (pa_cons pe_int (pa_cons pe_int (pa_cons (pe_op op_sub (pe_ok h_law_pull (hr.mono (by omega)) (by rfl) (pa_cons (pv 0) (pa_cons pe_int pa_nil))) pe_int) (pa_cons pe_int (pa_cons (pe_un un_neg pe_int) pa_nil)))))) pa_nil))) pa_nil))))))), ?_⟩
    walk_at "r"
    refine rd_newL (by show 0 ≤ sizeLine; decide) fun q H0 nq s0 h0 => ?_
    have B0 := hB.same s0
    obtain ⟨aq, cq⟩ := hB.free nq
    have hl0 := s0 _ _ hl
    walk_at "r"
    refine rd_newL (by show 7 ≤ sizeLine; decide) fun t0 H1 nt0 s1 h1 => ?_
    walk_at "r"
    refine ⟨a, c, t0, ns, _, rfl, B0.same s1, sqL_of h1, rfl, by decide, by decide, fun v H2 hv x2 B2 => ?_⟩
    obtain ⟨j, rfl, hj0, hj4⟩ : ∃ j : Int, v = .int j ∧ 0 ≤ j ∧ j ≤ 4 := by
      simp only [List.mem_cons, List.not_mem_nil, or_false] at hv
      rcases hv with rfl | rfl | rfl | rfl | rfl | rfl | rfl <;> exact ⟨_, rfl, by decide, by decide⟩
    walk_at "r"
    refine rd_wkR ⟨by omega, by omega⟩ ?_
    refine fo_it (walk_range (lo := 0) (n := j.toNat)) (TermInv a c l q ns nms n H)
      ⟨none, none, [], [], rfl, ((Ext.of s0).trans (.of s1)).trans x2, B2, x2 _ _ (s1 _ _ h0) rfl, .nil, Nat.le_refl _, fun d h => by cases h⟩ (fun _ _ _ _ _ => trivial) ?_ ?_
    · rintro i y σ1 H4 H3 hi ⟨o5, o6, ps, ds, rfl, x3, B3, h3, pd, ld, gd⟩ ⟨rfl, rfl⟩
      have hl3 := x3 _ _ hl (bag_strs _)
      walk_at "r"
      refine ⟨a, c, ns, _, rfl, B3, by decide, by decide, fun f H5 f0 f1 x5 B5 => ?_⟩
      walk_at "r"
      refine rd_newL (by show 3 ≤ sizeLine; decide) fun t1 H6 nt1 s6 h6 => ?_
      walk_at "r"
      refine ⟨a, c, t1, ns, _, rfl, B5.same s6, sqL_of h6, rfl, by decide, by decide, fun v H7 hv x7 B7 => ?_⟩
      obtain ⟨g, rfl, hg1⟩ : ∃ g : Int, v = .int g ∧ (g = 1 ∨ g = -1) := by
        simp only [List.mem_cons, List.not_mem_nil, or_false] at hv
        rcases hv with rfl | rfl | rfl
        · exact ⟨_, rfl, .inl rfl⟩
        · exact ⟨_, rfl, .inr rfl⟩
        · exact ⟨_, rfl, .inl rfl⟩
      refine rd_I (.inl ⟨by omega, by omega⟩) ?_
      have hF : -9 ≤ (1 + f) * g ∧ (1 + f) * g ≤ 9 ∧ (1 + f) * g ≠ 0 := by
        rcases hg1 with rfl | rfl
        · omega
        · omega
      generalize (1 + f) * g = F at hF
      have x8 : Ext H3 H7 := (x5.trans (.of s6)).trans x7
      have h7 := x8 _ _ h3 (bag_refs _)
      have pd7 := pimp pd fun _ _ z => z.keep (Tps.of x8)
      have hl7 := x8 _ _ hl3 (bag_strs _)
      replace x8 := x3.trans x8
      walk_at "r"
      refine rd_dec (fun hd => ?_) (fun hd => ?_)
      · walk_at "r"
        refine ⟨a, c, ns, _, rfl, B7, by decide, by decide, fun zz H8 _ _ x9 B8 => ?_⟩
        walk_at "r"
        replace h7 := x9 _ _ h7 (bag_refs _)
        replace pd7 := pimp pd7 fun _ _ z => z.keep (Tps.of x9)
        replace hl7 := x9 _ _ hl7 (bag_strs _)
        replace x8 := x8.trans x9
        replace B7 := B8
        clear B8 x9 x7 x5 s6 h6 h3 hl3
        refine rd_dec (fun hz => ?_) (fun hz => ?_)
        · walk_at "r"
          refine rd_bml (sqL_of h7) ?_
          walk_at "r"
          refine ⟨a, c, ns, rfl, B7, fun sv i1 j1 k1 H9 hs x9 B9 ds9 => ?_⟩
          walk_at "r"
          cases n with
          | zero => exact absurd hd (by decide)
          | succ m =>
            refine hR m rfl _ _ _ _ ⟨a, c, l, ns, nms, ?_, B9, x9 _ _ hl7 (bag_strs _), hg, fun tv td G1 y1 B10 dt gt => ?_⟩
            · show [V.ref a, V.ref l, V.int (((m + 1 : Nat) : Int) - 1)] = _
              rw [show (((m + 1 : Nat) : Int) - 1) = (m : Int) by omega]
            · walk_at "r"
              refine rd_newT (by show 3 ≤ sizeLine; decide) fun p1 G2 _ u2 g2 => ?_
              walk_at "r"
              refine rd_newT (by show 2 ≤ sizeLine; decide) fun p2 G3 _ u3 g3 => ?_
              walk_at "r"
              have y3 := ((x9.trans y1).trans (Ext.of u2)).trans (Ext.of u3)
              have t3 : Tps H9 G3 := Tps.of ((y1.trans (Ext.of u2)).trans (Ext.of u3))
              have t4 : Tps G1 G3 := Tps.of ((Ext.of u2).trans (Ext.of u3))
              refine TermInv.put nq aq cq ld (by omega) gd (x8.trans y3) ((B10.same u2).same u3) (y3 _ _ h7 (bag_refs _)) (pimp pd7 fun _ _ z => z.keep (Tps.of y3))
                (d := .tuple [.int F, .tuple [.str "floor", .tuple [.int i1, .int j1, .int k1], td]]) ?_ ⟨F, _, rfl, hF.1, hF.2.1, hF.2.2, .inr ⟨i1, j1, k1, td, rfl, hs, gt⟩⟩ (fun _ _ z => z)
              have d1 : Dt (1 + (3 + 4 * m)) G3 (.ref p1) (.tuple [.str "floor", .tuple [.int i1, .int j1, .int k1], td]) := by
                rw [Nat.add_comm]
                exact Dt.tup (u3 _ _ g2) (.cons (Dt.str (by decide +kernel) (by decide)) (.cons ((ds9.keep t3).up (by omega)) (.cons (dt.keep t4) .nil))) (by show 3 ≤ 100000; decide)
              have d2 : Dt (1 + (3 + 4 * m) + 1) G3 (.ref p2) (.tuple [.int F, .tuple [.str "floor", .tuple [.int i1, .int j1, .int k1], td]]) := Dt.tup g3 (.cons (Dt.int F) (.cons d1 .nil)) (by show 2 ≤ 100000; decide)
              exact d2.up (by omega)
        · walk_at "r"
          refine rd_newL (by show 0 ≤ sizeLine; decide) fun t2 G1 nt2 u1 g1 => ?_
          walk_at "r"
          refine rd_neD (n := 1) (m := 1) (by decide) (by decide) (dn_strs (u1 _ _ hl7) hg) (Dn.lst g1 rfl .nil (by decide)) ?_
          walk_at "r"
          rw [eqv_nil]
          refine rd_nbool (fun en => ?_) (fun en => ?_)
          · walk_at "r"
            refine rd_bml (sqL_of (u1 _ _ h7)) ?_
            walk_at "r"
            have hne : nms.map V.str ≠ [] := fun z => by
              rw [List.map_eq_nil_iff] at z
              subst z
              cases en
            have hsz : (nms.map V.str).length < 1073741824 := by rw [List.length_map]; have := hg.1; omega
            refine ⟨a, c, l, ns, _, rfl, B7.same u1, sqL_of (u1 _ _ hl7), bag_strs _, hne, hsz, fun v G2 hv y2 B8 => ?_⟩
            obtain ⟨z, hz, rfl⟩ : ∃ z, z ∈ nms ∧ v = .str z := by
              obtain ⟨z, hz, e⟩ := List.mem_map.mp hv
              exact ⟨z, hz, e.symm⟩
            walk_at "r"
            refine rd_newT (by show 2 ≤ sizeLine; decide) fun pt G3 npt u3 g3 => ?_
            walk_at "r"
            have y3 := ((Ext.of u1).trans y2).trans (Ext.of u3)
            exact TermInv.put nq aq cq ld (by omega) gd (x8.trans y3) (B8.same u3) (y3 _ _ h7 (bag_refs _)) (pimp pd7 fun _ _ z => z.keep (Tps.of y3))
              ((Dt.tup (n := 0) g3 (.cons (Dt.int F) (.cons (Dt.str (hg.2 z hz).1 (hg.2 z hz).2) .nil)) (by show 2 ≤ 100000; decide)).up (by omega)) ⟨F, .str z, rfl, hF.1, hF.2.1, hF.2.2, .inl ⟨z, rfl, hz⟩⟩ (fun _ _ z => z)
          · walk_at "r"
            have y3 := Ext.of u1
            exact ⟨_, _, ps, ds, rfl, x8.trans y3, B7.same u1, y3 _ _ h7 (bag_refs _), pimp pd7 fun _ _ z => z.keep (Tps.of y3), by omega, gd⟩
      · walk_at "r"
        refine rd_newL (by show 0 ≤ sizeLine; decide) fun t2 G1 nt2 u1 g1 => ?_
        walk_at "r"
        refine rd_neD (n := 1) (m := 1) (by decide) (by decide) (dn_strs (u1 _ _ hl7) hg) (Dn.lst g1 rfl .nil (by decide)) ?_
        walk_at "r"
        rw [eqv_nil]
        refine rd_nbool (fun en => ?_) (fun en => ?_)
        · walk_at "r"
          refine rd_bml (sqL_of (u1 _ _ h7)) ?_
          walk_at "r"
          have hne : nms.map V.str ≠ [] := fun z => by
            rw [List.map_eq_nil_iff] at z
            subst z
            cases en
          have hsz : (nms.map V.str).length < 1073741824 := by rw [List.length_map]; have := hg.1; omega
          refine ⟨a, c, l, ns, _, rfl, B7.same u1, sqL_of (u1 _ _ hl7), bag_strs _, hne, hsz, fun v G2 hv y2 B8 => ?_⟩
          obtain ⟨z, hz, rfl⟩ : ∃ z, z ∈ nms ∧ v = .str z := by
            obtain ⟨z, hz, e⟩ := List.mem_map.mp hv
            exact ⟨z, hz, e.symm⟩
          walk_at "r"
          refine rd_newT (by show 2 ≤ sizeLine; decide) fun pt G3 npt u3 g3 => ?_
          walk_at "r"
          have y3 := ((Ext.of u1).trans y2).trans (Ext.of u3)
          exact TermInv.put nq aq cq ld (by omega) gd (x8.trans y3) (B8.same u3) (y3 _ _ h7 (bag_refs _)) (pimp pd7 fun _ _ z => z.keep (Tps.of y3))
            ((Dt.tup (n := 0) g3 (.cons (Dt.int F) (.cons (Dt.str (hg.2 z hz).1 (hg.2 z hz).2) .nil)) (by show 2 ≤ 100000; decide)).up (by omega)) ⟨F, .str z, rfl, hF.1, hF.2.1, hF.2.2, .inl ⟨z, rfl, hz⟩⟩ (fun _ _ z => z)
        · walk_at "r"
          have y3 := Ext.of u1
          exact ⟨_, _, ps, ds, rfl, x8.trans y3, B7.same u1, y3 _ _ h7 (bag_refs _), pimp pd7 fun _ _ z => z.keep (Tps.of y3), by omega, gd⟩
    · rintro σ1 H3 ⟨o5, o6, ps, ds, rfl, x3, B3, h3, pd, ld, gd⟩
      have lp : (ps.map V.ref).length = ds.length := pd.length
      walk_at "r"
      refine rd_slL (sqL_of h3) fun t1 H4 _ s4 h4 => ?_
      rw [cut4 _ (by omega)] at h4
      refine rd_kTupL (sqL_of h4) fun t2 H5 _ s5 h5 => ?_
      walk_at "r"
      refine ⟨a, c, ns, _, rfl, (B3.same s4).same s5, by decide, by decide, fun u H6 u0 u1 x6 B6 => ?_⟩
      walk_at "r"
      refine rd_newL (by show 5 ≤ sizeLine; decide) fun t3 H7 _ s7 h7 => ?_
      walk_at "r"
      refine ⟨a, c, t3, ns, _, rfl, B6.same s7, sqL_of h7, rfl, List.cons_ne_nil _ _, by show 5 < 1073741824; decide, fun v H8 hv x8 B8 => ?_⟩
      obtain ⟨z, rfl, z0, z1⟩ : ∃ z : Int, v = .int z ∧ -1000 ≤ z ∧ z ≤ 1000 := by
        simp only [List.mem_cons, List.not_mem_nil, or_false] at hv
        rcases hv with rfl | rfl | rfl | rfl | rfl
        · exact ⟨_, rfl, by decide, by decide⟩
        · exact ⟨_, rfl, by decide, by decide⟩
        · exact ⟨_, rfl, by omega, by omega⟩
        · exact ⟨_, rfl, by decide, by decide⟩
        · exact ⟨_, rfl, by decide, by decide⟩
      walk_at "r"
      refine rd_newT (by show 2 ≤ sizeLine; decide) fun t4 H9 _ s9 h9 => ?_
      have y : Ext H5 H9 := ((x6.trans (.of s7)).trans x8).trans (.of s9)
      refine k _ (.tuple [.tuple ds, .int z]) H9 (((x3.trans (.of s4)).trans (.of s5)).trans y) (B8.same s9) ?_ ?_
      · have d1 : Dt (1 + 4 * n + 1) H9 (.ref t2) (.tuple ds) := Dt.tup (y _ _ h5 rfl) (pimp pd fun _ _ q => q.keep (Tps.of (((Ext.of s4).trans (.of s5)).trans y))) (by omega)
        have d2 : Dt (1 + 4 * n + 1 + 1) H9 (.ref t4) (.tuple [.tuple ds, .int z]) := Dt.tup h9 (.cons d1 (.cons (Dt.int z) .nil)) (by show 2 ≤ 100000; decide)
        exact d2.up (by omega)
      · rw [GTerm_eq]
        exact ⟨ds, z, rfl, by omega, z0, z1, gd⟩
theorem ok_law_any_term (T : Txt K mg) (h_law_pull : Ok P w K mg base 1 "_law_pull" ["_law_bag_here", "_law_sides"] spPull) (h_law_of : Ok P w K mg base 2 "_law_of" ["_law_bag_here", "_law_some"] (spOf K)) (h_law_any_slope : Ok P w K mg base 2 "_law_any_slope" ["_law_bag_here"] spAnySlope) :
    ∀ n : Nat, Ok P w K mg base (3 + n) "_law_any_term" ["_law_bag_here", "_law_names", "_law_deep"] (spAnyTerm n)
  | 0 => ok_law_any_term1 T 0 h_law_pull h_law_of h_law_any_slope (Ok.never T.F_law_any_term T.g_law_any_term (fun _ _ _ _ _ _ us hl => match us, hl with | [_, _, _], _ => rfl)) (fun j e => by cases e)
  | n + 1 => ok_law_any_term1 T (n + 1) h_law_pull h_law_of h_law_any_slope ((ok_law_any_term T h_law_pull h_law_of h_law_any_slope n).mono (by omega)) (fun j e vs H Q E h => by cases e; exact h)
theorem ok_numerator_text (T : Txt K mg) : Ok P w K mg base 1 "numerator_text" ["i", "j"] spNumT := by
  refine Ok.mk T.F_numerator_text T.g_numerator_text sc_numerator_text (fun _ _ _ _ _ _ us hl => match us, hl with | [_, _], _ => rfl) (fun vs H Q E h => ?_) (fun cdv A outer s H vs Q E hr h => ?_)
  · obtain ⟨i, j, rfl, _⟩ := h
    rfl
  · obtain ⟨i, j, rfl, h1, h2, q⟩ := h
    have a1 := iT_len (i := i) (by omega)
    have a2 := iT_len (i := (j.natAbs : Int)) (by omega)
    have lr : ("r" : Str).length = 1 := by decide
    have l1 : ("-" : Str).length = 1 := by decide
    have l2 : ("+" : Str).length = 1 := by decide
    have l0 : ("" : Str).length = 0 := by decide
    refine ⟨_, (pss_cons (ps_if (pt_cmpR op_eq (pv 1) pe_int (nomark _)) (pss_one (ps_ret (pe_callTy c_str (by rfl) T.b_str (by decide +kernel) (pa_cons (pv 0) pa_nil)))) pss_nil)
      (pss_cons (ps_set (i := 2) sc_numerator_text.nd rfl (.inl rfl) (pe_ifExp (pt_cmpR op_eq (pe_callB c_abs (by rfl) T.b_abs (by decide +kernel) (pa_cons (pv 1) pa_nil)) pe_int (nomark _)) pe_str (pe_callTy c_str (by rfl) T.b_str (by decide +kernel) (pa_cons (pe_callB c_abs (by rfl) T.b_abs (by decide +kernel) (pa_cons (pv 1) pa_nil)) pa_nil))))
      (pss_cons (ps_if (pt_cmpR op_eq (pv 0) pe_int (nomark _)) (pss_one (ps_ret (pe_op op_catS (pe_op op_catS (pe_ifExp (pt_cmpR op_lt (pv 1) pe_int (nomark _)) pe_str pe_str) (pv 2)) pe_str))) pss_nil)
      (pss_one (ps_ret (pe_op op_catS (pe_op op_catS (pe_op op_catS (pe_callTy c_str (by rfl) T.b_str (by decide +kernel) (pa_cons (pv 0) pa_nil)) (pe_ifExp (pt_cmpR op_lt (pv 1) pe_int (nomark _)) pe_str pe_str)) (pv 2)) pe_str)))))), ?_⟩
    walk_at "st"
    walk_at "r"
    unfold numT at q
    refine rd_dec (fun z => ?_) (fun z => ?_)
    · have z : j = 0 := by injection z
      rw [if_pos z] at q
      walk_at "r"
      exact rd_strI (by omega) q
    · have z : j ≠ 0 := fun e => z (by rw [e])
      rw [if_neg z] at q
      walk_at "r"
      refine rd_abs ?_
      walk_at "r"
      refine rd_dec (fun y => ?_) (fun y => ?_)
      · have y : j.natAbs = 1 := by
          have : ((j.natAbs : Nat) : Int) = 1 := by injection y
          omega
        rw [if_pos y] at q
        walk_at "r"
        refine rd_dec (fun x => ?_) (fun x => ?_)
        · have x : i = 0 := by injection x
          rw [if_pos x] at q
          walk_at "r"
          refine rd_dec (fun v => ?_) (fun v => ?_)
          · rw [if_pos v] at q
            walk_at "r"
            refine rd_catS (by omega) ?_
            walk_at "r"
            exact rd_catS (by rw [Str.length_append]; omega) q
          · rw [if_neg v] at q
            walk_at "r"
            refine rd_catS (by omega) ?_
            walk_at "r"
            exact rd_catS (by rw [Str.length_append]; omega) q
        · have x : i ≠ 0 := fun e => x (by rw [e])
          rw [if_neg x] at q
          walk_at "r"
          refine rd_strI (by omega) ?_
          rw [show (Str.ofString (toString i)) = iT i from rfl]
          walk_at "r"
          refine rd_dec (fun v => ?_) (fun v => ?_)
          · rw [if_pos v] at q
            walk_at "r"
            refine rd_catS (by omega) ?_
            walk_at "r"
            refine rd_catS (by rw [Str.length_append]; omega) ?_
            walk_at "r"
            exact rd_catS (by rw [Str.length_append, Str.length_append]; omega) q
          · rw [if_neg v] at q
            walk_at "r"
            refine rd_catS (by omega) ?_
            walk_at "r"
            refine rd_catS (by rw [Str.length_append]; omega) ?_
            walk_at "r"
            exact rd_catS (by rw [Str.length_append, Str.length_append]; omega) q
      · have y : j.natAbs ≠ 1 := fun e => y (by rw [e]; rfl)
        rw [if_neg y] at q
        walk_at "r"
        refine rd_abs ?_
        walk_at "r"
        refine rd_strI (by omega) ?_
        rw [show (Str.ofString (toString ((j.natAbs : Nat) : Int))) = iT j.natAbs from rfl]
        walk_at "r"
        refine rd_dec (fun x => ?_) (fun x => ?_)
        · have x : i = 0 := by injection x
          rw [if_pos x] at q
          walk_at "r"
          refine rd_dec (fun v => ?_) (fun v => ?_)
          · rw [if_pos v] at q
            walk_at "r"
            refine rd_catS (by omega) ?_
            walk_at "r"
            exact rd_catS (by rw [Str.length_append]; omega) q
          · rw [if_neg v] at q
            walk_at "r"
            refine rd_catS (by omega) ?_
            walk_at "r"
            exact rd_catS (by rw [Str.length_append]; omega) q
        · have x : i ≠ 0 := fun e => x (by rw [e])
          rw [if_neg x] at q
          walk_at "r"
          refine rd_strI (by omega) ?_
          rw [show (Str.ofString (toString i)) = iT i from rfl]
          walk_at "r"
          refine rd_dec (fun v => ?_) (fun v => ?_)
          · rw [if_pos v] at q
            walk_at "r"
            refine rd_catS (by omega) ?_
            walk_at "r"
            refine rd_catS (by rw [Str.length_append]; omega) ?_
            walk_at "r"
            exact rd_catS (by rw [Str.length_append, Str.length_append]; omega) q
          · rw [if_neg v] at q
            walk_at "r"
            refine rd_catS (by omega) ?_
            walk_at "r"
            refine rd_catS (by rw [Str.length_append]; omega) ?_
            walk_at "r"
            exact rd_catS (by rw [Str.length_append, Str.length_append]; omega) q
theorem ok_slope_text (T : Txt K mg) (h_numerator_text : Ok P w K mg base 1 "numerator_text" ["i", "j"] spNumT) : Ok P w K mg base 2 "slope_text" ["slope"] spSlopeT := by
  refine Ok.mk T.F_slope_text T.g_slope_text sc_slope_text (fun _ _ _ _ _ _ us hl => match us, hl with | [_], _ => rfl) (fun vs H Q E h => ?_) (fun cdv A outer s H vs Q E hr h => ?_)
  · obtain ⟨p, i, j, k, rfl, _⟩ := h
    rfl
  · obtain ⟨p, i, j, k, rfl, hp, hs, q⟩ := h
    obtain ⟨h1, h2, h3, h4⟩ := hs
    have a1 := numT_len h1 h2
    have a2 := iT_len (i := k) (by omega)
    have l1 : ("(" : Str).length = 1 := by decide
    have l2 : (")/" : Str).length = 2 := by decide
    have l3 : ("/" : Str).length = 1 := by decide
    refine ⟨_, (pss_cons (ps_asg (pv 0) (pg_tup rfl (pgs_cons (pg_name (i := 1) sc_slope_text.nd rfl (.inl rfl)) (pgs_cons (pg_name (i := 2) sc_slope_text.nd rfl (.inl rfl)) (pgs_cons (pg_name (i := 3) sc_slope_text.nd rfl (.inl rfl)) pgs_nil)))))
      (pss_cons (ps_set (i := 4) sc_slope_text.nd rfl (.inl rfl) (pe_ok h_numerator_text (hr.mono (by omega)) (by rfl) (pa_cons (pv 1) (pa_cons (pv 2) pa_nil))))
      (pss_cons (ps_if (pt_cmpR op_eq (pv 3) pe_int (nomark _)) (pss_one (ps_ret (pv 4))) pss_nil)
      (pss_one (ps_ret (pe_ifExp (PW.pt (pw_and (pt_cmpR op_ne (pv 1) pe_int (nomark _)) (pw_and1 (pt_cmpR op_ne (pv 2) pe_int (nomark _))))) (pe_joinT (PJ.cons pe_str (PJ.cons (pe_fmt (pv 4)) (PJ.cons pe_str (PJ.cons (pe_fmt (pv 3)) PJ.nil))))) (pe_joinT (PJ.cons (pe_fmt (pv 4)) (PJ.cons pe_str (PJ.cons (pe_fmt (pv 3)) PJ.nil)))))))))), ?_⟩
    walk_at "st"
    walk_at "r"
    refine rd_gTup (sqT_of hp) rfl ?_
    walk_at "r"
    refine ⟨i, j, rfl, h1, h2, ?_⟩
    walk_at "r"
    unfold slopeT at q
    refine rd_dec (fun z => ?_) (fun z => ?_)
    · have z : k = 1 := by injection z
      rw [if_pos z] at q
      walk_at "r"
      exact q
    · have z : k ≠ 1 := fun e => z (by rw [e])
      rw [if_neg z] at q
      walk_at "r"
      refine rd_ndec (fun y => ?_) (fun y => ?_)
      · have y : i ≠ 0 := fun e => y (by rw [e])
        walk_at "r"
        refine rd_ndec (fun x => ?_) (fun x => ?_)
        · have x : j ≠ 0 := fun e => x (by rw [e])
          rw [if_pos ⟨y, x⟩] at q
          walk_at "r"
          refine rd_jsB (Str.empty_append _) (by omega) ?_
          walk_at "r"
          refine rd_fmS (by omega) (rd_jsB rfl (by rw [Str.length_append]; omega) ?_)
          walk_at "r"
          refine rd_jsB rfl (by rw [Str.length_append, Str.length_append]; omega) ?_
          walk_at "r"
          refine rd_fmI (by omega) (rd_jsB rfl (by
            rw [Str.length_append, Str.length_append, Str.length_append]
            show _ + (iT k).length ≤ _
            omega) ?_)
          walk_at "r"
          exact q
        · have x : j = 0 := by injection x
          rw [if_neg (fun c => c.2 x)] at q
          walk_at "r"
          refine rd_fmS (by omega) (rd_jsB (Str.empty_append _) (by omega) ?_)
          walk_at "r"
          refine rd_jsB rfl (by rw [Str.length_append]; omega) ?_
          walk_at "r"
          refine rd_fmI (by omega) (rd_jsB rfl (by
            rw [Str.length_append, Str.length_append]
            show _ + (iT k).length ≤ _
            omega) ?_)
          walk_at "r"
          exact q
      · have y : i = 0 := by injection y
        rw [if_neg (fun c => c.1 y)] at q
        walk_at "r"
        refine rd_fmS (by omega) (rd_jsB (Str.empty_append _) (by omega) ?_)
        walk_at "r"
        refine rd_jsB rfl (by rw [Str.length_append]; omega) ?_
        walk_at "r"
        refine rd_fmI (by omega) (rd_jsB rfl (by
          rw [Str.length_append, Str.length_append]
          show _ + (iT k).length ≤ _
          omega) ?_)
        walk_at "r"
        exact q
theorem ok_law_step_text (T : Txt K mg) : Ok P w K mg base 1 "_law_step_text" ["_law_slope"] spSlopeT := by
  refine Ok.mk T.F_law_step_text T.g_law_step_text sc_law_step_text (fun _ _ _ _ _ _ us hl => match us, hl with | [_], _ => rfl) (fun vs H Q E h => ?_) (fun cdv A outer s H vs Q E hr h => ?_)
  · obtain ⟨p, i, j, k, rfl, _⟩ := h
    rfl
  · obtain ⟨p, i, j, k, rfl, hp, hs, q⟩ := h
    obtain ⟨h1, h2, h3, h4⟩ := hs
    have a0 := iT_len (i := i) (by omega)
    have a1 := iT_len (i := (j.natAbs : Int)) (by omega)
    have a2 := iT_len (i := k) (by omega)
    have a3 := numT_len h1 h2
    have l1 : ("(" : Str).length = 1 := by decide
    have l2 : (")/" : Str).length = 2 := by decide
    have l3 : ("/" : Str).length = 1 := by decide
    have lr : ("r" : Str).length = 1 := by decide
    have lm : ("-" : Str).length = 1 := by decide
    have lp : ("+" : Str).length = 1 := by decide
    have l0 : ("" : Str).length = 0 := by decide
    unfold slopeT at q
    obtain ⟨N, hN⟩ : ∃ N, N = numT i j := ⟨_, rfl⟩
    rw [← hN] at q a3
    unfold numT at hN
    refine ⟨_, (pss_cons (ps_asg (pv 0) (pg_tup rfl (pgs_cons (pg_name (i := 1) sc_law_step_text.nd rfl (.inl rfl)) (pgs_cons (pg_name (i := 2) sc_law_step_text.nd rfl (.inl rfl)) (pgs_cons (pg_name (i := 3) sc_law_step_text.nd rfl (.inl rfl)) pgs_nil)))))
      (pss_cons (ps_set (i := 4) sc_law_step_text.nd rfl (.inl rfl) (pe_ifExp (pt_cmpR op_eq (pe_callB c_abs (by rfl) T.b_abs (by decide +kernel) (pa_cons (pv 2) pa_nil)) pe_int (nomark _)) pe_str (pe_callTy c_str (by rfl) T.b_str (by decide +kernel) (pa_cons (pe_callB c_abs (by rfl) T.b_abs (by decide +kernel) (pa_cons (pv 2) pa_nil)) pa_nil))))
      (pss_cons (ps_set (i := 5) sc_law_step_text.nd rfl (.inl rfl) (pe_ifExp (pt_cmpR op_eq (pv 2) pe_int (nomark _)) (pe_callTy c_str (by rfl) T.b_str (by decide +kernel) (pa_cons (pv 1) pa_nil)) (pe_op op_catS (pe_op op_catS (pe_ifExp (pt_cmpR op_lt (pv 2) pe_int (nomark _)) pe_str pe_str) (pv 4)) pe_str)))
      (pss_cons (ps_if (PW.pt (pw_and (pt_cmpR op_ne (pv 1) pe_int (nomark _)) (pw_and1 (pt_cmpR op_ne (pv 2) pe_int (nomark _))))) (pss_one (ps_set (i := 5) sc_law_step_text.nd rfl (.inl rfl) (pe_op op_catS (pe_op op_catS (pe_op op_catS (pe_callTy c_str (by rfl) T.b_str (by decide +kernel) (pa_cons (pv 1) pa_nil)) (pe_ifExp (pt_cmpR op_lt (pv 2) pe_int (nomark _)) pe_str pe_str)) (pv 4)) pe_str))) pss_nil)
      (pss_cons (ps_if (pt_cmpR op_eq (pv 3) pe_int (nomark _)) (pss_one (ps_ret (pv 5))) pss_nil)
      (pss_one (ps_ret (pe_ifExp (PW.pt (pw_and (pt_cmpR op_ne (pv 1) pe_int (nomark _)) (pw_and1 (pt_cmpR op_ne (pv 2) pe_int (nomark _))))) (pe_op op_catS (pe_op op_catS (pe_op op_catS pe_str (pv 5)) pe_str) (pe_callTy c_str (by rfl) T.b_str (by decide +kernel) (pa_cons (pv 3) pa_nil))) (pe_op op_catS (pe_op op_catS (pv 5) pe_str) (pe_callTy c_str (by rfl) T.b_str (by decide +kernel) (pa_cons (pv 3) pa_nil))))))))))), ?_⟩
    walk_at "st"
    walk_at "r"
    refine rd_gTup (sqT_of hp) rfl ?_
    walk_at "r"
    refine rd_abs ?_
    walk_at "r"
    refine rd_dec (fun y => ?_) (fun y => ?_)
    · have y : j.natAbs = 1 := by
        have : ((j.natAbs : Nat) : Int) = 1 := by injection y
        omega
      rw [if_pos y] at hN
      have zj : j ≠ 0 := by omega
      rw [if_neg zj] at hN
      walk_at "r"
      rw [decide_eq_false (fun e : V.int j = V.int 0 => zj (by injection e))]
      walk_at "r"
      refine rd_dec (fun v => ?_) (fun v => ?_)
      · rw [if_pos v, if_pos v] at hN
        walk_at "r"
        refine rd_catS (by omega) ?_
        walk_at "r"
        refine rd_catS (by rw [Str.length_append]; omega) ?_
        walk_at "r"
        refine rd_ndec (fun x => ?_) (fun x => ?_)
        · have x : i ≠ 0 := fun e => x (by rw [e])
          rw [if_neg x] at hN
          walk_at "r"
          rw [decide_eq_false (fun e : V.int j = V.int 0 => zj (by injection e))]
          walk_at "r"
          refine rd_strI (by omega) ?_
          rw [show (Str.ofString (toString i)) = iT i from rfl]
          walk_at "r"
          first | rw [decide_eq_true v] | rw [decide_eq_false v]
          walk_at "r"
          refine rd_catS (by omega) ?_
          walk_at "r"
          refine rd_catS (by rw [Str.length_append]; omega) ?_
          walk_at "r"
          refine rd_catS (by rw [Str.length_append, Str.length_append]; omega) ?_
          rw [← hN]
          walk_at "r"
          refine rd_dec (fun ek => ?_) (fun ek => ?_)
          · have ek : k = 1 := by injection ek
            rw [if_pos ek] at q
            walk_at "r"
            exact q
          · have ek : k ≠ 1 := fun e => ek (by rw [e])
            rw [if_neg ek] at q
            walk_at "r"
            refine rd_ndec (fun ei => ?_) (fun ei => ?_)
            · have ei : i ≠ 0 := fun e => ei (by rw [e])
              walk_at "r"
              refine rd_ndec (fun ej => ?_) (fun ej => ?_)
              · have ej : j ≠ 0 := fun e => ej (by rw [e])
                rw [if_pos ⟨ei, ej⟩] at q
                walk_at "r"
                refine rd_catS (by omega) ?_
                walk_at "r"
                refine rd_catS (by rw [Str.length_append]; omega) ?_
                walk_at "r"
                refine rd_strI (by omega) ?_
                refine rd_catS (by
                  rw [Str.length_append, Str.length_append]
                  show _ + (iT k).length ≤ _
                  omega) ?_
                exact q
              · have ej : j = 0 := by injection ej
                rw [if_neg (fun c => c.2 ej)] at q
                walk_at "r"
                refine rd_catS (by omega) ?_
                walk_at "r"
                refine rd_strI (by omega) ?_
                exact rd_catS (by
                  rw [Str.length_append]
                  show _ + (iT k).length ≤ _
                  omega) q
            · have ei : i = 0 := by injection ei
              rw [if_neg (fun c => c.1 ei)] at q
              walk_at "r"
              refine rd_catS (by omega) ?_
              walk_at "r"
              refine rd_strI (by omega) ?_
              exact rd_catS (by
                rw [Str.length_append]
                show _ + (iT k).length ≤ _
                omega) q
        · have x : i = 0 := by injection x
          rw [if_pos x] at hN
          rw [← hN]
          walk_at "r"
          refine rd_dec (fun ek => ?_) (fun ek => ?_)
          · have ek : k = 1 := by injection ek
            rw [if_pos ek] at q
            walk_at "r"
            exact q
          · have ek : k ≠ 1 := fun e => ek (by rw [e])
            rw [if_neg ek] at q
            walk_at "r"
            refine rd_ndec (fun ei => ?_) (fun ei => ?_)
            · have ei : i ≠ 0 := fun e => ei (by rw [e])
              walk_at "r"
              refine rd_ndec (fun ej => ?_) (fun ej => ?_)
              · have ej : j ≠ 0 := fun e => ej (by rw [e])
                rw [if_pos ⟨ei, ej⟩] at q
                walk_at "r"
                refine rd_catS (by omega) ?_
                walk_at "r"
                refine rd_catS (by rw [Str.length_append]; omega) ?_
                walk_at "r"
                refine rd_strI (by omega) ?_
                refine rd_catS (by
                  rw [Str.length_append, Str.length_append]
                  show _ + (iT k).length ≤ _
                  omega) ?_
                exact q
              · have ej : j = 0 := by injection ej
                rw [if_neg (fun c => c.2 ej)] at q
                walk_at "r"
                refine rd_catS (by omega) ?_
                walk_at "r"
                refine rd_strI (by omega) ?_
                exact rd_catS (by
                  rw [Str.length_append]
                  show _ + (iT k).length ≤ _
                  omega) q
            · have ei : i = 0 := by injection ei
              rw [if_neg (fun c => c.1 ei)] at q
              walk_at "r"
              refine rd_catS (by omega) ?_
              walk_at "r"
              refine rd_strI (by omega) ?_
              exact rd_catS (by
                rw [Str.length_append]
                show _ + (iT k).length ≤ _
                omega) q
      · rw [if_neg v, if_neg v] at hN
        walk_at "r"
        refine rd_catS (by omega) ?_
        walk_at "r"
        refine rd_catS (by rw [Str.length_append]; omega) ?_
        walk_at "r"
        refine rd_ndec (fun x => ?_) (fun x => ?_)
        · have x : i ≠ 0 := fun e => x (by rw [e])
          rw [if_neg x] at hN
          walk_at "r"
          rw [decide_eq_false (fun e : V.int j = V.int 0 => zj (by injection e))]
          walk_at "r"
          refine rd_strI (by omega) ?_
          rw [show (Str.ofString (toString i)) = iT i from rfl]
          walk_at "r"
          first | rw [decide_eq_true v] | rw [decide_eq_false v]
          walk_at "r"
          refine rd_catS (by omega) ?_
          walk_at "r"
          refine rd_catS (by rw [Str.length_append]; omega) ?_
          walk_at "r"
          refine rd_catS (by rw [Str.length_append, Str.length_append]; omega) ?_
          rw [← hN]
          walk_at "r"
          refine rd_dec (fun ek => ?_) (fun ek => ?_)
          · have ek : k = 1 := by injection ek
            rw [if_pos ek] at q
            walk_at "r"
            exact q
          · have ek : k ≠ 1 := fun e => ek (by rw [e])
            rw [if_neg ek] at q
            walk_at "r"
            refine rd_ndec (fun ei => ?_) (fun ei => ?_)
            · have ei : i ≠ 0 := fun e => ei (by rw [e])
              walk_at "r"
              refine rd_ndec (fun ej => ?_) (fun ej => ?_)
              · have ej : j ≠ 0 := fun e => ej (by rw [e])
                rw [if_pos ⟨ei, ej⟩] at q
                walk_at "r"
                refine rd_catS (by omega) ?_
                walk_at "r"
                refine rd_catS (by rw [Str.length_append]; omega) ?_
                walk_at "r"
                refine rd_strI (by omega) ?_
                refine rd_catS (by
                  rw [Str.length_append, Str.length_append]
                  show _ + (iT k).length ≤ _
                  omega) ?_
                exact q
              · have ej : j = 0 := by injection ej
                rw [if_neg (fun c => c.2 ej)] at q
                walk_at "r"
                refine rd_catS (by omega) ?_
                walk_at "r"
                refine rd_strI (by omega) ?_
                exact rd_catS (by
                  rw [Str.length_append]
                  show _ + (iT k).length ≤ _
                  omega) q
            · have ei : i = 0 := by injection ei
              rw [if_neg (fun c => c.1 ei)] at q
              walk_at "r"
              refine rd_catS (by omega) ?_
              walk_at "r"
              refine rd_strI (by omega) ?_
              exact rd_catS (by
                rw [Str.length_append]
                show _ + (iT k).length ≤ _
                omega) q
        · have x : i = 0 := by injection x
          rw [if_pos x] at hN
          rw [← hN]
          walk_at "r"
          refine rd_dec (fun ek => ?_) (fun ek => ?_)
          · have ek : k = 1 := by injection ek
            rw [if_pos ek] at q
            walk_at "r"
            exact q
          · have ek : k ≠ 1 := fun e => ek (by rw [e])
            rw [if_neg ek] at q
            walk_at "r"
            refine rd_ndec (fun ei => ?_) (fun ei => ?_)
            · have ei : i ≠ 0 := fun e => ei (by rw [e])
              walk_at "r"
              refine rd_ndec (fun ej => ?_) (fun ej => ?_)
              · have ej : j ≠ 0 := fun e => ej (by rw [e])
                rw [if_pos ⟨ei, ej⟩] at q
                walk_at "r"
                refine rd_catS (by omega) ?_
                walk_at "r"
                refine rd_catS (by rw [Str.length_append]; omega) ?_
                walk_at "r"
                refine rd_strI (by omega) ?_
                refine rd_catS (by
                  rw [Str.length_append, Str.length_append]
                  show _ + (iT k).length ≤ _
                  omega) ?_
                exact q
              · have ej : j = 0 := by injection ej
                rw [if_neg (fun c => c.2 ej)] at q
                walk_at "r"
                refine rd_catS (by omega) ?_
                walk_at "r"
                refine rd_strI (by omega) ?_
                exact rd_catS (by
                  rw [Str.length_append]
                  show _ + (iT k).length ≤ _
                  omega) q
            · have ei : i = 0 := by injection ei
              rw [if_neg (fun c => c.1 ei)] at q
              walk_at "r"
              refine rd_catS (by omega) ?_
              walk_at "r"
              refine rd_strI (by omega) ?_
              exact rd_catS (by
                rw [Str.length_append]
                show _ + (iT k).length ≤ _
                omega) q
    · have y : j.natAbs ≠ 1 := fun e => y (by rw [e]; rfl)
      rw [if_neg y] at hN
      walk_at "r"
      refine rd_abs ?_
      walk_at "r"
      refine rd_strI (by omega) ?_
      rw [show (Str.ofString (toString ((j.natAbs : Nat) : Int))) = iT j.natAbs from rfl]
      walk_at "r"
      refine rd_dec (fun x => ?_) (fun x => ?_)
      · have x : j = 0 := by injection x
        rw [if_pos x] at hN
        walk_at "r"
        refine rd_strI (by omega) ?_
        rw [show (Str.ofString (toString i)) = iT i from rfl, ← hN]
        walk_at "r"
        refine rd_ndec (fun v => ?_) (fun v => ?_)
        · walk_at "r"
          rw [decide_eq_true (show V.int j = V.int 0 by rw [x])]
          walk_at "r"
          refine rd_dec (fun ek => ?_) (fun ek => ?_)
          · have ek : k = 1 := by injection ek
            rw [if_pos ek] at q
            walk_at "r"
            exact q
          · have ek : k ≠ 1 := fun e => ek (by rw [e])
            rw [if_neg ek] at q
            walk_at "r"
            refine rd_ndec (fun ei => ?_) (fun ei => ?_)
            · have ei : i ≠ 0 := fun e => ei (by rw [e])
              walk_at "r"
              refine rd_ndec (fun ej => ?_) (fun ej => ?_)
              · have ej : j ≠ 0 := fun e => ej (by rw [e])
                rw [if_pos ⟨ei, ej⟩] at q
                walk_at "r"
                refine rd_catS (by omega) ?_
                walk_at "r"
                refine rd_catS (by rw [Str.length_append]; omega) ?_
                walk_at "r"
                refine rd_strI (by omega) ?_
                refine rd_catS (by
                  rw [Str.length_append, Str.length_append]
                  show _ + (iT k).length ≤ _
                  omega) ?_
                exact q
              · have ej : j = 0 := by injection ej
                rw [if_neg (fun c => c.2 ej)] at q
                walk_at "r"
                refine rd_catS (by omega) ?_
                walk_at "r"
                refine rd_strI (by omega) ?_
                exact rd_catS (by
                  rw [Str.length_append]
                  show _ + (iT k).length ≤ _
                  omega) q
            · have ei : i = 0 := by injection ei
              rw [if_neg (fun c => c.1 ei)] at q
              walk_at "r"
              refine rd_catS (by omega) ?_
              walk_at "r"
              refine rd_strI (by omega) ?_
              exact rd_catS (by
                rw [Str.length_append]
                show _ + (iT k).length ≤ _
                omega) q
        · walk_at "r"
          refine rd_dec (fun ek => ?_) (fun ek => ?_)
          · have ek : k = 1 := by injection ek
            rw [if_pos ek] at q
            walk_at "r"
            exact q
          · have ek : k ≠ 1 := fun e => ek (by rw [e])
            rw [if_neg ek] at q
            walk_at "r"
            refine rd_ndec (fun ei => ?_) (fun ei => ?_)
            · have ei : i ≠ 0 := fun e => ei (by rw [e])
              walk_at "r"
              refine rd_ndec (fun ej => ?_) (fun ej => ?_)
              · have ej : j ≠ 0 := fun e => ej (by rw [e])
                rw [if_pos ⟨ei, ej⟩] at q
                walk_at "r"
                refine rd_catS (by omega) ?_
                walk_at "r"
                refine rd_catS (by rw [Str.length_append]; omega) ?_
                walk_at "r"
                refine rd_strI (by omega) ?_
                refine rd_catS (by
                  rw [Str.length_append, Str.length_append]
                  show _ + (iT k).length ≤ _
                  omega) ?_
                exact q
              · have ej : j = 0 := by injection ej
                rw [if_neg (fun c => c.2 ej)] at q
                walk_at "r"
                refine rd_catS (by omega) ?_
                walk_at "r"
                refine rd_strI (by omega) ?_
                exact rd_catS (by
                  rw [Str.length_append]
                  show _ + (iT k).length ≤ _
                  omega) q
            · have ei : i = 0 := by injection ei
              rw [if_neg (fun c => c.1 ei)] at q
              walk_at "r"
              refine rd_catS (by omega) ?_
              walk_at "r"
              refine rd_strI (by omega) ?_
              exact rd_catS (by
                rw [Str.length_append]
                show _ + (iT k).length ≤ _
                omega) q
      · have zj : j ≠ 0 := fun e => x (by rw [e])
        rw [if_neg zj] at hN
        walk_at "r"
        refine rd_dec (fun v => ?_) (fun v => ?_)
        · rw [if_pos v, if_pos v] at hN
          walk_at "r"
          refine rd_catS (by omega) ?_
          walk_at "r"
          refine rd_catS (by rw [Str.length_append]; omega) ?_
          walk_at "r"
          refine rd_ndec (fun x => ?_) (fun x => ?_)
          · have x : i ≠ 0 := fun e => x (by rw [e])
            rw [if_neg x] at hN
            walk_at "r"
            rw [decide_eq_false (fun e : V.int j = V.int 0 => zj (by injection e))]
            walk_at "r"
            refine rd_strI (by omega) ?_
            rw [show (Str.ofString (toString i)) = iT i from rfl]
            walk_at "r"
            first | rw [decide_eq_true v] | rw [decide_eq_false v]
            walk_at "r"
            refine rd_catS (by omega) ?_
            walk_at "r"
            refine rd_catS (by rw [Str.length_append]; omega) ?_
            walk_at "r"
            refine rd_catS (by rw [Str.length_append, Str.length_append]; omega) ?_
            rw [← hN]
            walk_at "r"
            refine rd_dec (fun ek => ?_) (fun ek => ?_)
            · have ek : k = 1 := by injection ek
              rw [if_pos ek] at q
              walk_at "r"
              exact q
            · have ek : k ≠ 1 := fun e => ek (by rw [e])
              rw [if_neg ek] at q
              walk_at "r"
              refine rd_ndec (fun ei => ?_) (fun ei => ?_)
              · have ei : i ≠ 0 := fun e => ei (by rw [e])
                walk_at "r"
                refine rd_ndec (fun ej => ?_) (fun ej => ?_)
                · have ej : j ≠ 0 := fun e => ej (by rw [e])
                  rw [if_pos ⟨ei, ej⟩] at q
                  walk_at "r"
                  refine rd_catS (by omega) ?_
                  walk_at "r"
                  refine rd_catS (by rw [Str.length_append]; omega) ?_
                  walk_at "r"
                  refine rd_strI (by omega) ?_
                  refine rd_catS (by
                    rw [Str.length_append, Str.length_append]
                    show _ + (iT k).length ≤ _
                    omega) ?_
                  exact q
                · have ej : j = 0 := by injection ej
                  rw [if_neg (fun c => c.2 ej)] at q
                  walk_at "r"
                  refine rd_catS (by omega) ?_
                  walk_at "r"
                  refine rd_strI (by omega) ?_
                  exact rd_catS (by
                    rw [Str.length_append]
                    show _ + (iT k).length ≤ _
                    omega) q
              · have ei : i = 0 := by injection ei
                rw [if_neg (fun c => c.1 ei)] at q
                walk_at "r"
                refine rd_catS (by omega) ?_
                walk_at "r"
                refine rd_strI (by omega) ?_
                exact rd_catS (by
                  rw [Str.length_append]
                  show _ + (iT k).length ≤ _
                  omega) q
          · have x : i = 0 := by injection x
            rw [if_pos x] at hN
            rw [← hN]
            walk_at "r"
            refine rd_dec (fun ek => ?_) (fun ek => ?_)
            · have ek : k = 1 := by injection ek
              rw [if_pos ek] at q
              walk_at "r"
              exact q
            · have ek : k ≠ 1 := fun e => ek (by rw [e])
              rw [if_neg ek] at q
              walk_at "r"
              refine rd_ndec (fun ei => ?_) (fun ei => ?_)
              · have ei : i ≠ 0 := fun e => ei (by rw [e])
                walk_at "r"
                refine rd_ndec (fun ej => ?_) (fun ej => ?_)
                · have ej : j ≠ 0 := fun e => ej (by rw [e])
                  rw [if_pos ⟨ei, ej⟩] at q
                  walk_at "r"
                  refine rd_catS (by omega) ?_
                  walk_at "r"
                  refine rd_catS (by rw [Str.length_append]; omega) ?_
                  walk_at "r"
                  refine rd_strI (by omega) ?_
                  refine rd_catS (by
                    rw [Str.length_append, Str.length_append]
                    show _ + (iT k).length ≤ _
                    omega) ?_
                  exact q
                · have ej : j = 0 := by injection ej
                  rw [if_neg (fun c => c.2 ej)] at q
                  walk_at "r"
                  refine rd_catS (by omega) ?_
                  walk_at "r"
                  refine rd_strI (by omega) ?_
                  exact rd_catS (by
                    rw [Str.length_append]
                    show _ + (iT k).length ≤ _
                    omega) q
              · have ei : i = 0 := by injection ei
                rw [if_neg (fun c => c.1 ei)] at q
                walk_at "r"
                refine rd_catS (by omega) ?_
                walk_at "r"
                refine rd_strI (by omega) ?_
                exact rd_catS (by
                  rw [Str.length_append]
                  show _ + (iT k).length ≤ _
                  omega) q
        · rw [if_neg v, if_neg v] at hN
          walk_at "r"
          refine rd_catS (by omega) ?_
          walk_at "r"
          refine rd_catS (by rw [Str.length_append]; omega) ?_
          walk_at "r"
          refine rd_ndec (fun x => ?_) (fun x => ?_)
          · have x : i ≠ 0 := fun e => x (by rw [e])
            rw [if_neg x] at hN
            walk_at "r"
            rw [decide_eq_false (fun e : V.int j = V.int 0 => zj (by injection e))]
            walk_at "r"
            refine rd_strI (by omega) ?_
            rw [show (Str.ofString (toString i)) = iT i from rfl]
            walk_at "r"
            first | rw [decide_eq_true v] | rw [decide_eq_false v]
            walk_at "r"
            refine rd_catS (by omega) ?_
            walk_at "r"
            refine rd_catS (by rw [Str.length_append]; omega) ?_
            walk_at "r"
            refine rd_catS (by rw [Str.length_append, Str.length_append]; omega) ?_
            rw [← hN]
            walk_at "r"
            refine rd_dec (fun ek => ?_) (fun ek => ?_)
            · have ek : k = 1 := by injection ek
              rw [if_pos ek] at q
              walk_at "r"
              exact q
            · have ek : k ≠ 1 := fun e => ek (by rw [e])
              rw [if_neg ek] at q
              walk_at "r"
              refine rd_ndec (fun ei => ?_) (fun ei => ?_)
              · have ei : i ≠ 0 := fun e => ei (by rw [e])
                walk_at "r"
                refine rd_ndec (fun ej => ?_) (fun ej => ?_)
                · have ej : j ≠ 0 := fun e => ej (by rw [e])
                  rw [if_pos ⟨ei, ej⟩] at q
                  walk_at "r"
                  refine rd_catS (by omega) ?_
                  walk_at "r"
                  refine rd_catS (by rw [Str.length_append]; omega) ?_
                  walk_at "r"
                  refine rd_strI (by omega) ?_
                  refine rd_catS (by
                    rw [Str.length_append, Str.length_append]
                    show _ + (iT k).length ≤ _
                    omega) ?_
                  exact q
                · have ej : j = 0 := by injection ej
                  rw [if_neg (fun c => c.2 ej)] at q
                  walk_at "r"
                  refine rd_catS (by omega) ?_
                  walk_at "r"
                  refine rd_strI (by omega) ?_
                  exact rd_catS (by
                    rw [Str.length_append]
                    show _ + (iT k).length ≤ _
                    omega) q
              · have ei : i = 0 := by injection ei
                rw [if_neg (fun c => c.1 ei)] at q
                walk_at "r"
                refine rd_catS (by omega) ?_
                walk_at "r"
                refine rd_strI (by omega) ?_
                exact rd_catS (by
                  rw [Str.length_append]
                  show _ + (iT k).length ≤ _
                  omega) q
          · have x : i = 0 := by injection x
            rw [if_pos x] at hN
            rw [← hN]
            walk_at "r"
            refine rd_dec (fun ek => ?_) (fun ek => ?_)
            · have ek : k = 1 := by injection ek
              rw [if_pos ek] at q
              walk_at "r"
              exact q
            · have ek : k ≠ 1 := fun e => ek (by rw [e])
              rw [if_neg ek] at q
              walk_at "r"
              refine rd_ndec (fun ei => ?_) (fun ei => ?_)
              · have ei : i ≠ 0 := fun e => ei (by rw [e])
                walk_at "r"
                refine rd_ndec (fun ej => ?_) (fun ej => ?_)
                · have ej : j ≠ 0 := fun e => ej (by rw [e])
                  rw [if_pos ⟨ei, ej⟩] at q
                  walk_at "r"
                  refine rd_catS (by omega) ?_
                  walk_at "r"
                  refine rd_catS (by rw [Str.length_append]; omega) ?_
                  walk_at "r"
                  refine rd_strI (by omega) ?_
                  refine rd_catS (by
                    rw [Str.length_append, Str.length_append]
                    show _ + (iT k).length ≤ _
                    omega) ?_
                  exact q
                · have ej : j = 0 := by injection ej
                  rw [if_neg (fun c => c.2 ej)] at q
                  walk_at "r"
                  refine rd_catS (by omega) ?_
                  walk_at "r"
                  refine rd_strI (by omega) ?_
                  exact rd_catS (by
                    rw [Str.length_append]
                    show _ + (iT k).length ≤ _
                    omega) q
              · have ei : i = 0 := by injection ei
                rw [if_neg (fun c => c.1 ei)] at q
                walk_at "r"
                refine rd_catS (by omega) ?_
                walk_at "r"
                refine rd_strI (by omega) ?_
                exact rd_catS (by
                  rw [Str.length_append]
                  show _ + (iT k).length ≤ _
                  omega) q
theorem ok_signed (T : Txt K mg) : Ok P w K mg base 1 "signed" ["text", "number", "first"] spSigned := by
  refine Ok.mk T.F_signed T.g_signed sc_signed (fun _ _ _ _ _ _ us hl => match us, hl with | [_, _, _], _ => rfl) (fun vs H Q E h => ?_) (fun cdv A outer s H vs Q E hr h => ?_)
  · obtain ⟨t, n, b, rfl, _⟩ := h
    rfl
  · obtain ⟨t, n, b, rfl, hl, q⟩ := h
    have l1 : ("-" : Str).length = 1 := by decide
    have l2 : (" - " : Str).length = 3 := by decide
    have l3 : (" + " : Str).length = 3 := by decide
    unfold sgnT at q
    refine ⟨_, (pss_cons (ps_if (pt_val (pv 2)) (pss_one (ps_ret (pe_ifExp (pt_cmpR op_lt (pv 1) pe_int (nomark _)) (pe_op op_catS pe_str (pv 0)) (pv 0)))) pss_nil)
      (pss_one (ps_ret (pe_op op_catS (pe_ifExp (pt_cmpR op_lt (pv 1) pe_int (nomark _)) pe_str pe_str) (pv 0))))), ?_⟩
    walk_at "st"
    walk_at "r"
    cases b with
    | true =>
      rw [if_pos rfl] at q
      walk_at "r"
      refine rd_dec (fun z => ?_) (fun z => ?_)
      · rw [if_pos z] at q
        walk_at "r"
        exact rd_catS (by omega) q
      · rw [if_neg z] at q
        walk_at "r"
        exact q
    | false =>
      rw [if_neg (by decide)] at q
      walk_at "r"
      refine rd_dec (fun z => ?_) (fun z => ?_)
      · rw [if_pos z] at q
        walk_at "r"
        exact rd_catS (by omega) q
      · rw [if_neg z] at q
        walk_at "r"
        exact rd_catS (by omega) q
/-- a floor as it stands -/
theorem ok_thing_text (T : Txt K mg) (k n : Nat) (nms : List Str) (hn : smallN nms) (hL : lenB n ≤ 90000) (h_slope_text : Ok P w K mg base 2 "slope_text" ["slope"] spSlopeT) (h_term_text : Ok P w K mg base (k + 2) "term_text" ["term"] (spRecT nms n)) : Ok P w K mg base (k + 3) "thing_text" ["thing"] (spThingT nms n) := by
  refine Ok.mk T.F_thing_text T.g_thing_text sc_thing_text (fun _ _ _ _ _ _ us hl => match us, hl with | [_], _ => rfl) (fun vs H Q E h => ?_) (fun cdv A outer s H vs Q E hr h => ?_)
  · obtain ⟨m, v, d, rfl, _⟩ := h
    rfl
  · obtain ⟨m, v, d, rfl, m60, hD, hG, q⟩ := h
    refine ⟨_, (pss_cons (ps_if (pt_val (pe_callB call_isi (by rfl) T.b_isinstance (by decide +kernel) (pa_cons (pv 0) (pa_cons (pe_gty (T := "str") T.b_str (by rfl) (by decide +kernel)) pa_nil)))) (pss_one (ps_ret (pv 0))) pss_nil)
      (pss_one (ps_ret (pe_joinT (PJ.cons pe_str (PJ.cons (pe_fmt (pe_ok h_slope_text (hr.mono (by omega)) (by rfl) (pa_cons (pe_ix ix_tup (pv 0) pe_int (fun _ _ => rfl)) pa_nil))) (PJ.cons pe_str (PJ.cons (pe_fmt (pe_ok h_term_text (hr.mono (by omega)) (by rfl) (pa_cons (pe_ix ix_tup (pv 0) pe_int (fun _ _ => rfl)) pa_nil))) (PJ.cons pe_str PJ.nil))))))))), ?_⟩
    walk_at "st"
    walk_at "r"
    refine rd_isi hD.dn (by decide) ?_
    rcases hG with ⟨z, rfl, hz⟩ | ⟨i, j, k', t, rfl, hs, ht⟩
    · cases hD.dn.eq_str
      rw [show isA "str" (PyData.str z) = true from rfl]
      walk_at "r"
      exact q H (.refl _)
    · rw [show isA "str" (PyData.tuple [.str "floor", .tuple [.int i, .int j, .int k'], t]) = false from rfl]
      obtain ⟨m', a, p, x, mm, rfl, h1, h2, h3⟩ := floor_at hD
      have sm : SmS i j k' := ⟨by omega, by omega, by omega, by omega⟩
      have a1 := slopeT_len sm
      have a2 := recT_len hn n t ht
      have l1 : ("floor(" : Str).length = 6 := by decide
      have l2 : (", " : Str).length = 2 := by decide
      have l3 : (")" : Str).length = 1 := by decide
      walk_at "r"
      refine rd_jsB (Str.empty_append _) (by omega) ?_
      walk_at "a"
      refine ⟨p, i, j, k', rfl, h2, sm, ?_⟩
      refine rd_fmS (by omega) (rd_jsB rfl (by rw [Str.length_append]; omega) ?_)
      walk_at "r"
      refine rd_jsB rfl (by rw [Str.length_append, Str.length_append]; omega) ?_
      walk_at "a"
      refine ⟨m', x, t, rfl, by omega, h3, ht, fun H1 s1 => ?_⟩
      refine rd_fmS (by omega) (rd_jsB rfl (by rw [Str.length_append, Str.length_append, Str.length_append]; omega) ?_)
      walk_at "r"
      refine rd_jsB rfl (by rw [Str.length_append, Str.length_append, Str.length_append, Str.length_append]; omega) ?_
      walk_at "r"
      exact q H1 s1
theorem ok_term_text (T : Txt K mg) (k n : Nat) (nms : List Str) (hn : smallN nms) (hL : lenB (n + 1) ≤ 90000) (h_thing_text : Ok P w K mg base (k + 3) "thing_text" ["thing"] (spThingT nms n)) (h_signed : Ok P w K mg base 1 "signed" ["text", "number", "first"] spSigned) : Ok P w K mg base (k + 4) "term_text" ["term"] (spTermT nms n) := by
  refine Ok.mk T.F_term_text T.g_term_text sc_term_text (fun _ _ _ _ _ _ us hl => match us, hl with | [_], _ => rfl) (fun vs H Q E h => ?_) (fun cdv A outer s H vs Q E hr h => ?_)
  · obtain ⟨m, v, d, rfl, _⟩ := h
    rfl
  · obtain ⟨m, v, d, rfl, m60, hD, hG, q⟩ := h
    rw [GTerm_eq] at hG
    rw [termT_eq] at q
    obtain ⟨its, c, rfl, i4, c0, c1, gi⟩ := hG
    obtain ⟨m', a, p, xs, mm, rfl, h1, h2, h3, h4⟩ := term_at hD
    have lx : xs.length = its.length := h3.length
    have rl := recT_len hn n
    have LB : lenB (n + 1) = 400 + 4 * lenB n := rfl
    refine ⟨_, (pss_cons (ps_asg (pv 0) (pg_tup rfl (pgs_cons (pg_name (i := 1) sc_term_text.nd rfl (.inl rfl)) (pgs_cons (pg_name (i := 2) sc_term_text.nd rfl (.inl rfl)) pgs_nil))))
      (pss_cons (ps_set (i := 3) sc_term_text.nd rfl (.inl rfl) pe_str)
      (pss_cons (ps_for PassesOwn.never rfl (pi_enumM (by rfl) T.b_enumerate (pa_cons (pv 1) pa_nil)) (pg_tup rfl (pgs_cons (pg_name (i := 4) sc_term_text.nd rfl (.inl rfl)) (pgs_cons (pg_tup rfl (pgs_cons (pg_name (i := 5) sc_term_text.nd rfl (.inl rfl)) (pgs_cons (pg_name (i := 6) sc_term_text.nd rfl (.inl rfl)) pgs_nil))) pgs_nil))) (pss_cons (ps_set (i := 7) sc_term_text.nd rfl (.inl rfl) (pe_ifExp (pt_cmpR op_eq (pe_callB c_abs (by rfl) T.b_abs (by decide +kernel) (pa_cons (pv 5) pa_nil)) pe_int (nomark _)) (pe_ok h_thing_text (hr.mono (by omega)) (by rfl) (pa_cons (pv 6) pa_nil)) (pe_joinT (PJ.cons (pe_fmt (pe_callB c_abs (by rfl) T.b_abs (by decide +kernel) (pa_cons (pv 5) pa_nil))) (PJ.cons pe_str (PJ.cons (pe_fmt (pe_ok h_thing_text (hr.mono (by omega)) (by rfl) (pa_cons (pv 6) pa_nil))) PJ.nil))))))
      (pss_one (ps_set (i := 3) sc_term_text.nd rfl (.inl rfl) (pe_op op_catS (pv 3) (pe_ok h_signed (hr.mono (by omega)) (by rfl) (pa_cons (pv 7) (pa_cons (pv 5) (pa_cons (pe_cmpR op_eq (pv 4) pe_int (nomark _)) pa_nil)))))))))
      (pss_cons (ps_if (PW.pt (pw_or (pt_cmpR op_ne (pv 2) pe_int (nomark _)) (pw_or1 (pt_cmpR (op_eqD hr.units) (pv 1) (pe_tup pa_nil) (nomark _))))) (pss_one (ps_set (i := 3) sc_term_text.nd rfl (.inl rfl) (pe_op op_catS (pv 3) (pe_ok h_signed (hr.mono (by omega)) (by rfl) (pa_cons (pe_callTy c_str (by rfl) T.b_str (by decide +kernel) (pa_cons (pe_callB c_abs (by rfl) T.b_abs (by decide +kernel) (pa_cons (pv 2) pa_nil)) pa_nil)) (pa_cons (pv 2) (pa_cons (pe_cmpR (op_eqD hr.units) (pv 1) (pe_tup pa_nil) (nomark _)) pa_nil))))))) pss_nil)
      (pss_one (ps_ret (pv 3))))))), ?_⟩
    walk_at "st"
    walk_at "r"
    refine rd_gTup (sqT_of h1) rfl ?_
    walk_at "r"
    refine rd_wkE (b := true) (sqT_of h2) ?_
    refine fo_it walk_enumM (fun i σ1 H2 => ∃ o4 o5 o6 o7 : Option V, σ1 = [some (.ref a), some (.ref p), some (.int c), some (.str (catT (recT n) true (its.take i))), o4, o5, o6, o7] ∧ Same H H2) ⟨_, _, _, _, rfl, .refl _⟩ (fun _ σ1 H2 _ ⟨_, _, _, _, _, s2⟩ => sqT_of (s2 _ _ h2)) ?_ ?_
    · rintro i v σ1 H2 H3 hi ⟨o4, o5, o6, o7, rfl, s2⟩ ⟨T1, x, z, rfl, nT, rfl, hx, hz⟩
      obtain rfl : V.int ((i : Nat) : Int) = x := by injection hx
      obtain ⟨d, ed, dt⟩ := paired_get h3 hz
      have hil : i < its.length := (List.getElem?_eq_some_iff.mp ed).1
      obtain ⟨f, y, rfl, f9, f0, gt⟩ := (gi d (List.mem_of_getElem? ed)).two
      obtain ⟨m2, b, yv, mm2, rfl, hb, dy⟩ := item_at dt
      have s3 : Same H (upd H2 T1 (.tup [.int (i : Nat), .ref b])) := s2.trans (Same.new nT)
      refine rd_gTup (sqT_of upd_same) rfl ?_
      generalize upd H2 T1 (.tup [.int (i : Nat), .ref b]) = G at s3
      have il := itemT_len f9 hn rl gt
      have tl := thingT_len hn rl gt
      have cl := catT_len hn rl true (its.take i) fun d hd => (gi d (List.mem_of_mem_take hd)).two
      have cl2 : (its.take i).length * (90 + lenB n) ≤ 4 * (90 + lenB n) := Nat.mul_le_mul_right _ (by rw [List.length_take]; omega)
      have fl := iT_len (i := (f.natAbs : Int)) (by omega)
      have ls : ("*" : Str).length = 1 := by decide
      walk_at "r"
      refine rd_gTup (sqT_of (s3 _ _ hb)) rfl ?_
      walk_at "r"
      refine rd_abs ?_
      walk_at "r"
      have eT : its.take (i + 1) = its.take i ++ [.tuple [.int f, y]] := by
        rw [List.take_succ_eq_append_getElem hil]
        congr 2
        exact (List.getElem?_eq_some_iff.mp ed).2
      have eE : (true && (its.take i).isEmpty) = decide (V.int ((i : Nat) : Int) = V.int 0) := by
        cases i with
        | zero => rfl
        | succ i =>
          rw [decide_eq_false (fun e => by injection e with e; omega)]
          cases its with
          | nil => exact absurd hil (by simp)
          | cons _ _ => rfl
      refine rd_dec (fun w => ?_) (fun w => ?_)
      · have w : f.natAbs = 1 := by
          have : ((f.natAbs : Nat) : Int) = 1 := by injection w
          omega
        have eI : itemT (recT n) f y = thingT (recT n) y := if_pos w
        walk_at "r"
        refine ⟨m2, yv, y, rfl, by omega, dy.sm s3, gt, fun G1 s4 => ?_⟩
        rw [← eI]
        walk_at "r"
        refine ⟨itemT (recT n) f y, f, decide (V.int ((i : Nat) : Int) = V.int 0), rfl, by omega, ?_⟩
        have pl := sgnT_len (itemT (recT n) f y) f (decide (V.int ((i : Nat) : Int) = V.int 0))
        refine rd_catS (by omega) ?_
        walk_at "r"
        rw [← eE, show catT (recT n) true (its.take i) ++ sgnT (itemT (recT n) f y) f (true && (its.take i).isEmpty) = catT (recT n) true (its.take (i + 1)) by rw [eT, catT_snoc]; rfl]
        exact ⟨_, _, _, _, rfl, s3.trans s4⟩
      · have w : f.natAbs ≠ 1 := fun e => w (by rw [e]; rfl)
        have eI : itemT (recT n) f y = iT f.natAbs ++ "*" ++ thingT (recT n) y := if_neg w
        walk_at "r"
        refine rd_abs ?_
        refine rd_fmI (by omega) (rd_jsB (Str.empty_append _) (by show (iT f.natAbs).length ≤ _; omega) ?_)
        walk_at "r"
        refine rd_jsB rfl (by rw [Str.length_append]; show (iT f.natAbs).length + _ ≤ _; omega) ?_
        walk_at "r"
        refine ⟨m2, yv, y, rfl, by omega, dy.sm s3, gt, fun G1 s4 => ?_⟩
        refine rd_fmS (by omega) (rd_jsB eI.symm (by omega) ?_)
        walk_at "r"
        refine ⟨itemT (recT n) f y, f, decide (V.int ((i : Nat) : Int) = V.int 0), rfl, by omega, ?_⟩
        have pl := sgnT_len (itemT (recT n) f y) f (decide (V.int ((i : Nat) : Int) = V.int 0))
        refine rd_catS (by omega) ?_
        walk_at "r"
        rw [← eE, show catT (recT n) true (its.take i) ++ sgnT (itemT (recT n) f y) f (true && (its.take i).isEmpty) = catT (recT n) true (its.take (i + 1)) by rw [eT, catT_snoc]; rfl]
        exact ⟨_, _, _, _, rfl, s3.trans s4⟩
    · rintro σ1 H2 ⟨o4, o5, o6, o7, rfl, s2⟩
      rw [show its.take xs.length = its by rw [lx]; exact List.take_length]
      have cl := catT_len hn rl true its fun d hd => (gi d hd).two
      have cl2 : its.length * (90 + lenB n) ≤ 4 * (90 + lenB n) := Nat.mul_le_mul_right _ i4
      have al := iT_len (i := (c.natAbs : Int)) (by omega)
      have sl := sgnT_len (iT c.natAbs) c its.isEmpty
      have q : ∀ H', Same H H' → Q (.str (if c ≠ 0 ∨ its = [] then catT (recT n) true its ++ sgnT (iT c.natAbs) c its.isEmpty else catT (recT n) true its)) H' := q
      walk_at "r"
      refine rd_ndec (fun w => ?_) (fun w => ?_)
      · have w : c ≠ 0 := fun e => w (by rw [e])
        rw [if_pos (.inl w)] at q
        walk_at "r"
        refine rd_abs ?_
        walk_at "r"
        refine rd_strI (by omega) ?_
        rw [show (Str.ofString (toString ((c.natAbs : Nat) : Int))) = iT c.natAbs from rfl]
        walk_at "r"
        refine rd_newT (by show 0 ≤ sizeLine; decide) fun e2 G2 _ u2 v2 => ?_
        refine rd_eqD (n := m' + 1) (m := 1) (by omega) (by decide) ((h4.sm s2).sm u2).dn (Dn.tup (n := 0) v2 .nil (by simp)) ?_
        rw [eqv_nilT]
        walk_at "r"
        refine ⟨_, c, _, rfl, by omega, ?_⟩
        refine rd_catS (by omega) ?_
        walk_at "r"
        exact q G2 (s2.trans u2)
      · have w : c = 0 := by injection w
        walk_at "r"
        refine rd_newT (by show 0 ≤ sizeLine; decide) fun e0 G1 _ u1 v1 => ?_
        refine rd_eqD (n := m' + 1) (m := 1) (by omega) (by decide) ((h4.sm s2).sm u1).dn (Dn.tup (n := 0) v1 .nil (by simp)) ?_
        rw [eqv_nilT]
        replace s2 := s2.trans u1
        cases its with
        | nil =>
          rw [show ([] : List PyData).isEmpty = true from rfl]
          rw [if_pos (.inr rfl)] at q
          walk_at "r"
          refine rd_abs ?_
          walk_at "r"
          refine rd_strI (by omega) ?_
          rw [show (Str.ofString (toString ((c.natAbs : Nat) : Int))) = iT c.natAbs from rfl]
          walk_at "r"
          refine rd_newT (by show 0 ≤ sizeLine; decide) fun e2 G2 _ u2 v2 => ?_
          refine rd_eqD (n := m' + 1) (m := 1) (by omega) (by decide) ((h4.sm s2).sm u2).dn (Dn.tup (n := 0) v2 .nil (by simp)) ?_
          rw [eqv_nilT]
          walk_at "r"
          refine ⟨_, c, _, rfl, by omega, ?_⟩
          refine rd_catS (by omega) ?_
          walk_at "r"
          exact q G2 (s2.trans u2)
        | cons d ds =>
          rw [show (d :: ds).isEmpty = false from rfl]
          rw [if_neg (by rintro (h | h); exact h w; cases h)] at q
          walk_at "r"
          exact q G1 s2
theorem ofS_app (a b : String) : Str.ofString (a ++ b) = Str.ofString a ++ Str.ofString b := by
  rw [Str.ofString_eq_toList, Str.ofString_eq_toList, Str.ofString_eq_toList]
  refine Str.ext' ?_
  rw [Str.cps_append]
  simp
theorem iT_neg (c : Int) : iT c = if c < 0 then ("-" : Str) ++ iT c.natAbs else iT c.natAbs := by
  cases c with
  | ofNat n =>
    rw [if_neg (by show ¬ Int.ofNat n < 0; exact Int.not_lt.mpr (Int.natCast_nonneg n))]
    rfl
  | negSucc n =>
    rw [if_pos (Int.negSucc_lt_zero n)]
    show Str.ofString ("-" ++ toString (n + 1)) = Str.ofString "-" ++ Str.ofString (toString (n + 1))
    exact ofS_app _ _
theorem ok_law_thing_text (T : Txt K mg) (k n : Nat) (nms : List Str) (hn : smallN nms) (hL : lenB n ≤ 90000) (h_law_step_text : Ok P w K mg base 1 "_law_step_text" ["_law_slope"] spSlopeT) (h_law_term_text : Ok P w K mg base (k + 2) "_law_term_text" ["_law_term"] (spRecT nms n)) : Ok P w K mg base (k + 3) "_law_thing_text" ["_law_thing"] (spThingT nms n) := by
  refine Ok.mk T.F_law_thing_text T.g_law_thing_text sc_law_thing_text (fun _ _ _ _ _ _ us hl => match us, hl with | [_], _ => rfl) (fun vs H Q E h => ?_) (fun cdv A outer s H vs Q E hr h => ?_)
  · obtain ⟨m, v, d, rfl, _⟩ := h
    rfl
  · obtain ⟨m, v, d, rfl, m60, hD, hG, q⟩ := h
    refine ⟨_, (pss_cons (ps_if (pt_val (pe_callB call_isi (by rfl) T.b_isinstance (by decide +kernel) (pa_cons (pv 0) (pa_cons (pe_gty (T := "str") T.b_str (by rfl) (by decide +kernel)) pa_nil)))) (pss_one (ps_ret (pv 0))) pss_nil)
      (pss_one (ps_ret (pe_op op_catS (pe_op op_catS (pe_op op_catS (pe_op op_catS pe_str (pe_ok h_law_step_text (hr.mono (by omega)) (by rfl) (pa_cons (pe_ix ix_tup (pv 0) pe_int (fun _ _ => rfl)) pa_nil))) pe_str) (pe_ok h_law_term_text (hr.mono (by omega)) (by rfl) (pa_cons (pe_ix ix_tup (pv 0) pe_int (fun _ _ => rfl)) pa_nil))) pe_str)))), ?_⟩
    walk_at "st"
    walk_at "r"
    refine rd_isi hD.dn (by decide) ?_
    rcases hG with ⟨z, rfl, hz⟩ | ⟨i, j, k', t, rfl, hs, ht⟩
    · cases hD.dn.eq_str
      rw [show isA "str" (PyData.str z) = true from rfl]
      walk_at "r"
      exact q H (.refl _)
    · rw [show isA "str" (PyData.tuple [.str "floor", .tuple [.int i, .int j, .int k'], t]) = false from rfl]
      obtain ⟨m', a, p, x, mm, rfl, h1, h2, h3⟩ := floor_at hD
      have sm : SmS i j k' := ⟨by omega, by omega, by omega, by omega⟩
      have a1 := slopeT_len sm
      have a2 := recT_len hn n t ht
      have l1 : ("floor(" : Str).length = 6 := by decide
      have l2 : (", " : Str).length = 2 := by decide
      have l3 : (")" : Str).length = 1 := by decide
      walk_at "a"
      refine ⟨p, i, j, k', rfl, h2, sm, ?_⟩
      refine rd_catS (by omega) ?_
      walk_at "r"
      refine rd_catS (by rw [Str.length_append]; omega) ?_
      walk_at "a"
      refine ⟨m', x, t, rfl, by omega, h3, ht, fun H1 s1 => ?_⟩
      refine rd_catS (by rw [Str.length_append, Str.length_append]; omega) ?_
      walk_at "r"
      refine rd_catS (by rw [Str.length_append, Str.length_append, Str.length_append]; omega) ?_
      exact q H1 s1
theorem catT_pos {nms : List Str} {n : Nat} {R : PyData → Prop} {rec : PyData → Str} (hn : smallN nms) (hr : ∀ t, R t → (rec t).length ≤ n) (b : Bool) : ∀ (ds : List PyData), (∀ d ∈ ds, GItem2 nms R d) → ds ≠ [] → 1 ≤ (catT rec b ds).length
  | [], _, h => absurd rfl h
  | d :: ds, h, _ => by
    obtain ⟨f, x, rfl, h1, h2, h3⟩ := h d (List.mem_cons_self ..)
    have a1 := itemT_len h1 hn hr h3
    show 1 ≤ (sgnT (itemT rec f x) f b ++ catT rec false ds).length
    rw [Str.length_append]
    have : (itemT rec f x).length ≤ (sgnT (itemT rec f x) f b).length := by
      unfold sgnT
      split
      · split
        · rw [Str.length_append]
          omega
        · omega
      · rw [Str.length_append]
        omega
    omega
theorem ok_law_term_text (T : Txt K mg) (k n : Nat) (nms : List Str) (hn : smallN nms) (hL : lenB (n + 1) ≤ 90000) (h_law_thing_text : Ok P w K mg base (k + 3) "_law_thing_text" ["_law_thing"] (spThingT nms n)) : Ok P w K mg base (k + 4) "_law_term_text" ["_law_term"] (spTermT nms n) := by
  refine Ok.mk T.F_law_term_text T.g_law_term_text sc_law_term_text (fun _ _ _ _ _ _ us hl => match us, hl with | [_], _ => rfl) (fun vs H Q E h => ?_) (fun cdv A outer s H vs Q E hr h => ?_)
  · obtain ⟨m, v, d, rfl, _⟩ := h
    rfl
  · obtain ⟨m, v, d, rfl, m60, hD, hG, q⟩ := h
    rw [GTerm_eq] at hG
    rw [termT_eq] at q
    obtain ⟨its, c, rfl, i4, c0, c1, gi⟩ := hG
    obtain ⟨m', a, p, xs, mm, rfl, h1, h2, h3, h4⟩ := term_at hD
    have lx : xs.length = its.length := h3.length
    have rl := recT_len hn n
    have LB : lenB (n + 1) = 400 + 4 * lenB n := rfl
    have l1 : ("-" : Str).length = 1 := by decide
    have l2 : (" - " : Str).length = 3 := by decide
    have l3 : (" + " : Str).length = 3 := by decide
    have ls : ("*" : Str).length = 1 := by decide
    refine ⟨_, (pss_cons (ps_set (i := 1) sc_law_term_text.nd rfl (.inl rfl) pe_str)
      (pss_cons (ps_for PassesOwn.never rfl (pi_tup (pe_ix ix_tup (pv 0) pe_int (fun _ _ => rfl))) (pg_tup rfl (pgs_cons (pg_name (i := 2) sc_law_term_text.nd rfl (.inl rfl)) (pgs_cons (pg_name (i := 3) sc_law_term_text.nd rfl (.inl rfl)) pgs_nil))) (pss_cons (ps_set (i := 4) sc_law_term_text.nd rfl (.inl rfl) (pe_ok h_law_thing_text (hr.mono (by omega)) (by rfl) (pa_cons (pv 3) pa_nil)))
      (pss_cons (ps_set (i := 4) sc_law_term_text.nd rfl (.inl rfl) (pe_ifExp (pt_cmpR op_eq (pe_callB c_abs (by rfl) T.b_abs (by decide +kernel) (pa_cons (pv 2) pa_nil)) pe_int (nomark _)) (pv 4) (pe_op op_catS (pe_op op_catS (pe_callTy c_str (by rfl) T.b_str (by decide +kernel) (pa_cons (pe_callB c_abs (by rfl) T.b_abs (by decide +kernel) (pa_cons (pv 2) pa_nil)) pa_nil)) pe_str) (pv 4))))
      (pss_one (ps_if (pt_cmpR op_eq (pv 1) pe_str (nomark _)) (pss_one (ps_set (i := 1) sc_law_term_text.nd rfl (.inl rfl) (pe_ifExp (pt_cmpR op_lt (pv 2) pe_int (nomark _)) (pe_op op_catS pe_str (pv 4)) (pv 4)))) (pss_one (ps_set (i := 1) sc_law_term_text.nd rfl (.inl rfl) (pe_op op_catS (pe_op op_catS (pv 1) (pe_ifExp (pt_cmpR op_lt (pv 2) pe_int (nomark _)) pe_str pe_str)) (pv 4)))))))))
      (pss_cons (ps_if (pt_cmpR (op_eqD hr.units) (pe_ix ix_tup (pv 0) pe_int (fun _ _ => rfl)) (pe_tup pa_nil) (nomark _)) (pss_one (ps_ret (pe_callTy c_str (by rfl) T.b_str (by decide +kernel) (pa_cons (pe_ix ix_tup (pv 0) pe_int (fun _ _ => rfl)) pa_nil)))) pss_nil)
      (pss_cons (ps_if (pt_cmpR op_ne (pe_ix ix_tup (pv 0) pe_int (fun _ _ => rfl)) pe_int (nomark _)) (pss_one (ps_set (i := 1) sc_law_term_text.nd rfl (.inl rfl) (pe_op op_catS (pe_op op_catS (pv 1) (pe_ifExp (pt_cmpR op_lt (pe_ix ix_tup (pv 0) pe_int (fun _ _ => rfl)) pe_int (nomark _)) pe_str pe_str)) (pe_callTy c_str (by rfl) T.b_str (by decide +kernel) (pa_cons (pe_callB c_abs (by rfl) T.b_abs (by decide +kernel) (pa_cons (pe_ix ix_tup (pv 0) pe_int (fun _ _ => rfl)) pa_nil)) pa_nil))))) pss_nil)
      (pss_one (ps_ret (pv 1))))))), ?_⟩
    walk_at "st"
    walk_at "a"
    refine rd_wkT (sqT_of h2) ?_
    refine fo_it walk_tup (fun i σ1 H2 => ∃ o2 o3 o4 : Option V, σ1 = [some (.ref a), some (.str (catT (recT n) true (its.take i))), o2, o3, o4] ∧ Same H H2) ⟨_, _, _, rfl, .refl _⟩ (fun _ σ1 H2 _ ⟨_, _, _, _, s2⟩ => sqT_of (s2 _ _ h2)) ?_ ?_
    · rintro i v σ1 H2 H3 hi ⟨o2, o3, o4, rfl, s2⟩ ⟨rfl, hz⟩
      obtain ⟨d, ed, dt⟩ := paired_get h3 hz
      have hil : i < its.length := (List.getElem?_eq_some_iff.mp ed).1
      obtain ⟨f, y, rfl, f9, f0, gt⟩ := (gi d (List.mem_of_getElem? ed)).two
      obtain ⟨m2, b, yv, mm2, rfl, hb, dy⟩ := item_at dt
      have il := itemT_len f9 hn rl gt
      have tl := thingT_len hn rl gt
      have gtk : ∀ d ∈ its.take i, GItem2 nms (GRec nms n) d := fun d hd => (gi d (List.mem_of_mem_take hd)).two
      have cl := catT_len hn rl true (its.take i) gtk
      have cl2 : (its.take i).length * (90 + lenB n) ≤ 4 * (90 + lenB n) := Nat.mul_le_mul_right _ (by rw [List.length_take]; omega)
      have fl := iT_len (i := (f.natAbs : Int)) (by omega)
      have eT : its.take (i + 1) = its.take i ++ [.tuple [.int f, y]] := by
        rw [List.take_succ_eq_append_getElem hil]
        congr 2
        exact (List.getElem?_eq_some_iff.mp ed).2
      refine rd_gTup (sqT_of (s2 _ _ hb)) rfl ?_
      walk_at "r"
      refine ⟨m2, yv, y, rfl, by omega, dy.sm s2, gt, fun G1 s4 => ?_⟩
      walk_at "r"
      refine rd_abs ?_
      walk_at "r"
      refine rd_dec (fun w => ?_) (fun w => ?_)
      · have w : f.natAbs = 1 := by
          have : ((f.natAbs : Nat) : Int) = 1 := by injection w
          omega
        have eI : itemT (recT n) f y = thingT (recT n) y := if_pos w
        walk_at "r"
        rw [← eI]
        walk_at "r"
        cases i with
        | zero =>
          rw [show its.take 0 = [] from List.take_zero, show catT (recT n) true [] = "" from rfl]
          rw [decide_eq_true rfl]
          have e : catT (recT n) true (its.take (0 + 1)) = if f < 0 then ("-" : Str) ++ itemT (recT n) f y else itemT (recT n) f y := by
            rw [eT, show its.take 0 = [] from List.take_zero]
            show sgnT (itemT (recT n) f y) f true ++ ("" : Str) = _
            rw [show sgnT (itemT (recT n) f y) f true = if f < 0 then ("-" : Str) ++ itemT (recT n) f y else itemT (recT n) f y from if_pos rfl]
            exact Str.append_empty _
          walk_at "r"
          refine rd_dec (fun v => ?_) (fun v => ?_)
          · rw [if_pos v] at e
            walk_at "r"
            refine rd_catS (by omega) ?_
            walk_at "r"
            rw [← e]
            exact ⟨_, _, _, rfl, s2.trans s4⟩
          · rw [if_neg v] at e
            walk_at "r"
            rw [← e]
            exact ⟨_, _, _, rfl, s2.trans s4⟩
        | succ i =>
          have ne : its.take (i + 1) ≠ [] := by
            cases its with
            | nil => exact absurd hil (by simp)
            | cons _ _ => intro e; cases e
          have pos := catT_pos hn rl true (its.take (i + 1)) gtk ne
          rw [decide_eq_false (fun e : V.str (catT (recT n) true (its.take (i + 1))) = V.str "" => by
            injection e with e
            rw [e] at pos
            exact absurd pos (by decide))]
          have e : catT (recT n) true (its.take (i + 1 + 1)) = catT (recT n) true (its.take (i + 1)) ++ (if f < 0 then (" - " : Str) else " + ") ++ itemT (recT n) f y := by
            rw [eT, catT_snoc, show (true && (its.take (i + 1)).isEmpty) = false by
              cases h : its.take (i + 1) with
              | nil => exact absurd h ne
              | cons _ _ => rfl]
            show _ ++ sgnT (itemT (recT n) f y) f false = _
            rw [show sgnT (itemT (recT n) f y) f false = (if f < 0 then (" - " : Str) else " + ") ++ itemT (recT n) f y from if_neg (by decide), Str.append_assoc]
          walk_at "r"
          refine rd_dec (fun v => ?_) (fun v => ?_)
          · rw [if_pos v] at e
            walk_at "r"
            refine rd_catS (by omega) ?_
            walk_at "r"
            refine rd_catS (by rw [Str.length_append]; omega) ?_
            walk_at "r"
            rw [← e]
            exact ⟨_, _, _, rfl, s2.trans s4⟩
          · rw [if_neg v] at e
            walk_at "r"
            refine rd_catS (by omega) ?_
            walk_at "r"
            refine rd_catS (by rw [Str.length_append]; omega) ?_
            walk_at "r"
            rw [← e]
            exact ⟨_, _, _, rfl, s2.trans s4⟩
      · have w : f.natAbs ≠ 1 := fun e => w (by rw [e]; rfl)
        have eI : itemT (recT n) f y = iT f.natAbs ++ "*" ++ thingT (recT n) y := if_neg w
        walk_at "r"
        refine rd_abs ?_
        walk_at "r"
        refine rd_strI (by omega) ?_
        rw [show (Str.ofString (toString ((f.natAbs : Nat) : Int))) = iT f.natAbs from rfl]
        walk_at "r"
        refine rd_catS (by omega) ?_
        walk_at "r"
        refine rd_catS (by rw [Str.length_append]; omega) ?_
        rw [← eI]
        walk_at "r"
        walk_at "r"
        cases i with
        | zero =>
          rw [show its.take 0 = [] from List.take_zero, show catT (recT n) true [] = "" from rfl]
          rw [decide_eq_true rfl]
          have e : catT (recT n) true (its.take (0 + 1)) = if f < 0 then ("-" : Str) ++ itemT (recT n) f y else itemT (recT n) f y := by
            rw [eT, show its.take 0 = [] from List.take_zero]
            show sgnT (itemT (recT n) f y) f true ++ ("" : Str) = _
            rw [show sgnT (itemT (recT n) f y) f true = if f < 0 then ("-" : Str) ++ itemT (recT n) f y else itemT (recT n) f y from if_pos rfl]
            exact Str.append_empty _
          walk_at "r"
          refine rd_dec (fun v => ?_) (fun v => ?_)
          · rw [if_pos v] at e
            walk_at "r"
            refine rd_catS (by omega) ?_
            walk_at "r"
            rw [← e]
            exact ⟨_, _, _, rfl, s2.trans s4⟩
          · rw [if_neg v] at e
            walk_at "r"
            rw [← e]
            exact ⟨_, _, _, rfl, s2.trans s4⟩
        | succ i =>
          have ne : its.take (i + 1) ≠ [] := by
            cases its with
            | nil => exact absurd hil (by simp)
            | cons _ _ => intro e; cases e
          have pos := catT_pos hn rl true (its.take (i + 1)) gtk ne
          rw [decide_eq_false (fun e : V.str (catT (recT n) true (its.take (i + 1))) = V.str "" => by
            injection e with e
            rw [e] at pos
            exact absurd pos (by decide))]
          have e : catT (recT n) true (its.take (i + 1 + 1)) = catT (recT n) true (its.take (i + 1)) ++ (if f < 0 then (" - " : Str) else " + ") ++ itemT (recT n) f y := by
            rw [eT, catT_snoc, show (true && (its.take (i + 1)).isEmpty) = false by
              cases h : its.take (i + 1) with
              | nil => exact absurd h ne
              | cons _ _ => rfl]
            show _ ++ sgnT (itemT (recT n) f y) f false = _
            rw [show sgnT (itemT (recT n) f y) f false = (if f < 0 then (" - " : Str) else " + ") ++ itemT (recT n) f y from if_neg (by decide), Str.append_assoc]
          walk_at "r"
          refine rd_dec (fun v => ?_) (fun v => ?_)
          · rw [if_pos v] at e
            walk_at "r"
            refine rd_catS (by omega) ?_
            walk_at "r"
            refine rd_catS (by rw [Str.length_append]; omega) ?_
            walk_at "r"
            rw [← e]
            exact ⟨_, _, _, rfl, s2.trans s4⟩
          · rw [if_neg v] at e
            walk_at "r"
            refine rd_catS (by omega) ?_
            walk_at "r"
            refine rd_catS (by rw [Str.length_append]; omega) ?_
            walk_at "r"
            rw [← e]
            exact ⟨_, _, _, rfl, s2.trans s4⟩
    · rintro σ1 H2 ⟨o2, o3, o4, rfl, s2⟩
      rw [show its.take xs.length = its by rw [lx]; exact List.take_length]
      have cl := catT_len hn rl true its fun d hd => (gi d hd).two
      have cl2 : its.length * (90 + lenB n) ≤ 4 * (90 + lenB n) := Nat.mul_le_mul_right _ i4
      have al := iT_len (i := (c.natAbs : Int)) (by omega)
      have q : ∀ H', Same H H' → Q (.str (if c ≠ 0 ∨ its = [] then catT (recT n) true its ++ sgnT (iT c.natAbs) c its.isEmpty else catT (recT n) true its)) H' := q
      walk_at "r"
      refine rd_ixT (sqT_of (s2 _ _ h1)) (v := .ref p) rfl ?_
      walk_at "r"
      refine rd_newT (by show 0 ≤ sizeLine; decide) fun e0 G1 _ u1 v1 => ?_
      refine rd_eqD (n := m' + 1) (m := 1) (by omega) (by decide) ((h4.sm s2).sm u1).dn (Dn.tup (n := 0) v1 .nil (by simp)) ?_
      rw [eqv_nilT]
      replace s2 := s2.trans u1
      cases its with
      | nil =>
        rw [show ([] : List PyData).isEmpty = true from rfl]
        rw [if_pos (.inr rfl)] at q
        walk_at "r"
        refine rd_ixT (sqT_of (s2 _ _ h1)) (v := .int c) rfl ?_
        walk_at "r"
        refine rd_strI (by omega) ?_
        rw [show (Str.ofString (toString c)) = iT c from rfl, iT_neg c]
        have e : catT (recT n) true [] ++ sgnT (iT c.natAbs) c ([] : List PyData).isEmpty = if c < 0 then ("-" : Str) ++ iT c.natAbs else iT c.natAbs := by
          show ("" : Str) ++ sgnT (iT c.natAbs) c true = _
          rw [show sgnT (iT c.natAbs) c true = if c < 0 then ("-" : Str) ++ iT c.natAbs else iT c.natAbs from if_pos rfl]
          exact Str.empty_append _
        rw [← e]
        exact q G1 s2
      | cons d ds =>
        rw [show (d :: ds).isEmpty = false from rfl] at q ⊢
        walk_at "r"
        refine rd_ixT (sqT_of (s2 _ _ h1)) (v := .int c) rfl ?_
        walk_at "r"
        refine rd_ndec (fun w => ?_) (fun w => ?_)
        · have w : c ≠ 0 := fun e => w (by rw [e])
          rw [if_pos (.inl w)] at q
          have e : ∀ G, sgnT G c false = (if c < 0 then (" - " : Str) else " + ") ++ G := fun G => if_neg (by decide)
          rw [e] at q
          walk_at "r"
          refine rd_ixT (sqT_of (s2 _ _ h1)) (v := .int c) rfl ?_
          walk_at "r"
          refine rd_dec (fun v => ?_) (fun v => ?_)
          · rw [if_pos v, ← Str.append_assoc] at q
            walk_at "r"
            refine rd_catS (by omega) ?_
            walk_at "r"
            refine rd_ixT (sqT_of (s2 _ _ h1)) (v := .int c) rfl ?_
            walk_at "r"
            refine rd_abs ?_
            walk_at "r"
            refine rd_strI (by omega) ?_
            rw [show (Str.ofString (toString ((c.natAbs : Nat) : Int))) = iT c.natAbs from rfl]
            refine rd_catS (by rw [Str.length_append]; omega) ?_
            walk_at "r"
            exact q G1 s2
          · rw [if_neg v, ← Str.append_assoc] at q
            walk_at "r"
            refine rd_catS (by omega) ?_
            walk_at "r"
            refine rd_ixT (sqT_of (s2 _ _ h1)) (v := .int c) rfl ?_
            walk_at "r"
            refine rd_abs ?_
            walk_at "r"
            refine rd_strI (by omega) ?_
            rw [show (Str.ofString (toString ((c.natAbs : Nat) : Int))) = iT c.natAbs from rfl]
            refine rd_catS (by rw [Str.length_append]; omega) ?_
            walk_at "r"
            exact q G1 s2
        · have w : c = 0 := by injection w
          rw [if_neg (by rintro (h | h); exact h w; cases h)] at q
          walk_at "r"
          exact q G1 s2
theorem ok_saying_text (T : Txt K mg) (k n : Nat) (nms : List Str) (hn : smallN nms) (h_slope_text : Ok P w K mg base 2 "slope_text" ["slope"] spSlopeT) (h_term_text : Ok P w K mg base (k + 2) "term_text" ["term"] (spTermT nms 3)) (h_saying_text : Ok P w K mg base (k + 2) "saying_text" ["saying"] (spRSay nms n)) (hR : ∀ d, RSay nms n d → (rsay n d).length ≤ 1000000) : Ok P w K mg base (k + 3) "saying_text" ["saying"] (spSayT nms n) := by
  refine Ok.mk T.F_saying_text T.g_saying_text sc_saying_text (fun _ _ _ _ _ _ us hl => match us, hl with | [_], _ => rfl) (fun vs H Q E h => ?_) (fun cdv A outer s H vs Q E hr h => ?_)
  · obtain ⟨m, v, d, rfl, _⟩ := h
    rfl
  · obtain ⟨m, v, d, rfl, m60, hD, hG, q⟩ := h
    rw [GSay_eq] at hG
    rw [sayT_eq] at q
    refine ⟨_, (pss_cons (ps_asg (pv 0) (pg_star rfl (pgs_cons (pg_name (i := 1) sc_saying_text.nd rfl (.inl rfl)) (pgs_cons (pg_name (i := 2) sc_saying_text.nd rfl (.inl rfl)) pgs_nil))))
      (pss_cons (ps_if (pt_cmpR op_eq (pv 1) pe_str (nomark _)) (pss_one (ps_ret (pe_joinT (PJ.cons (pe_fmt (pe_ok h_term_text (hr.mono (by omega)) (by rfl) (pa_cons (pe_ix ix_list (pv 2) pe_int (fun _ _ => rfl)) pa_nil))) (PJ.cons pe_str (PJ.cons (pe_fmt (pe_ok h_term_text (hr.mono (by omega)) (by rfl) (pa_cons (pe_ix ix_list (pv 2) pe_int (fun _ _ => rfl)) pa_nil))) PJ.nil)))))) pss_nil)
      (pss_cons (ps_if (pt_cmpR op_eq (pv 1) pe_str (nomark _)) (pss_one (ps_ret (pe_joinT (PJ.cons (pe_fmt (pe_ok h_term_text (hr.mono (by omega)) (by rfl) (pa_cons (pe_ix ix_list (pv 2) pe_int (fun _ _ => rfl)) pa_nil))) (PJ.cons pe_str (PJ.cons (pe_fmt (pe_ok h_term_text (hr.mono (by omega)) (by rfl) (pa_cons (pe_ix ix_list (pv 2) pe_int (fun _ _ => rfl)) pa_nil))) PJ.nil)))))) pss_nil)
      (pss_cons (ps_if (pt_cmpR op_eq (pv 1) pe_str (nomark _)) (pss_one (ps_ret (pe_joinT (PJ.cons pe_str (PJ.cons (pe_fmt (pe_ok h_term_text (hr.mono (by omega)) (by rfl) (pa_cons (pe_ix ix_list (pv 2) pe_int (fun _ _ => rfl)) pa_nil))) (PJ.cons pe_str (PJ.cons (pe_fmt (pe_ok h_slope_text (hr.mono (by omega)) (by rfl) (pa_cons (pe_ix ix_list (pv 2) pe_int (fun _ _ => rfl)) pa_nil))) (PJ.cons pe_str (PJ.cons (pe_fmt (pe_ok h_term_text (hr.mono (by omega)) (by rfl) (pa_cons (pe_ix ix_list (pv 2) pe_int (fun _ _ => rfl)) pa_nil))) (PJ.cons pe_str PJ.nil)))))))))) pss_nil)
      (pss_cons (ps_if (pt_cmpR op_eq (pv 1) pe_str (nomark _)) (pss_one (ps_ret (pe_joinT (PJ.cons pe_str (PJ.cons (pe_fmt (pe_ok h_term_text (hr.mono (by omega)) (by rfl) (pa_cons (pe_ix ix_list (pv 2) pe_int (fun _ _ => rfl)) pa_nil))) (PJ.cons pe_str (PJ.cons (pe_fmt (pe_ix ix_list (pv 2) pe_int (fun _ _ => rfl))) (PJ.cons pe_str (PJ.cons (pe_fmt (pe_ix ix_list (pv 2) pe_int (fun _ _ => rfl))) (PJ.cons pe_str PJ.nil)))))))))) pss_nil)
      (pss_cons (ps_if (pt_cmpR op_eq (pv 1) pe_str (nomark _)) (pss_one (ps_ret (pe_op op_catS pe_str (pe_ok h_saying_text (hr.mono (by omega)) (by rfl) (pa_cons (pe_ix ix_list (pv 2) pe_int (fun _ _ => rfl)) pa_nil))))) pss_nil)
      (pss_cons (ps_if (pt_cmpR op_in_seq (pv 1) (pe_gref T.g_BINDERS (by rfl)) (by rfl)) (pss_one (ps_ret (pe_joinT (PJ.cons (pe_fmt (pv 1)) (PJ.cons pe_str (PJ.cons (pe_fmt (pe_ix ix_list (pv 2) pe_int (fun _ _ => rfl))) (PJ.cons pe_str (PJ.cons (pe_fmt (pe_ok h_saying_text (hr.mono (by omega)) (by rfl) (pa_cons (pe_ix ix_list (pv 2) pe_int (fun _ _ => rfl)) pa_nil))) PJ.nil)))))))) pss_nil)
      (pss_cons (ps_if (pt_cmpR op_in_seq (pv 1) (pe_gref T.g_GROUPS (by rfl)) (by rfl)) (pss_one (ps_ret (pe_op op_catS (pe_op op_catS pe_str (pe_joinS (pe_joinT (PJ.cons pe_str (PJ.cons (pe_fmt (pv 1)) (PJ.cons pe_str PJ.nil)))) (pe_lc (own := [("item", 3)]) (by rfl) sc_saying_text.nd (pi_list (pv 2)) (blkOk_by (own := [("item", 3)]) (N := ["saying", "word", "items", "item"]) (sc := defScope s_saying_text) (by decide +kernel)) (fun _ _ _ _ _ => (pg_name (i := 3) sc_saying_text.nd rfl (.inl rfl))) (fun _ _ _ _ _ => pts_nil) (fun _ _ _ _ _ => (pe_ok h_saying_text (hr.mono (by omega)) (by rfl) (pa_cons (pv 3) pa_nil)))))) pe_str))) pss_nil)
      (pss_one (ps_ret (pe_op op_catS (pe_op op_catS (pe_op op_catS (pe_ix ix_list (pv 2) pe_int (fun _ _ => rfl)) pe_str) (pe_joinS pe_str (pe_callTy c_list (by rfl) T.b_list (by decide +kernel) (pa_cons (pe_ix ix_list (pv 2) pe_int (fun _ _ => rfl)) pa_nil)))) pe_str))))))))))), ?_⟩
    walk_at "st"
    walk_at "r"
    cases hG with
    | cmp hw ha hb =>
      obtain ⟨m', a, xs, mm, rfl, h1, _, h3⟩ := tup_at hD
      rcases h3 with _ | ⟨b0, _ | ⟨b1, _ | ⟨b2, _ | _⟩⟩⟩
      cases b0.dn.eq_str
      have l1 := tM_len hn ha
      have l2 := tM_len hn hb
      refine rd_star (sqT_of h1) (by simp) fun D G1 _ s1 t1 => ?_
      walk_at "r"
      rcases hw with rfl | rfl
      · rw [wd_eq]
        have le : (" = " : Str).length = 3 := by decide
        walk_at "a"
        refine ⟨m', _, _, rfl, by omega, b1.sm s1, ha, fun G2 s2 => ?_⟩
        refine rd_fmS (by show (tM _).length ≤ _; omega) (rd_jsB (Str.empty_append _) (by show (tM _).length ≤ _; omega) ?_)
        walk_at "r"
        refine rd_jsB rfl (by rw [Str.length_append]; show (tM _).length + _ ≤ _; omega) ?_
        walk_at "a"
        refine ⟨m', _, _, rfl, by omega, (b2.sm s1).sm s2, hb, fun G3 s3 => ?_⟩
        refine rd_fmS (by show (tM _).length ≤ _; omega) (rd_jsB rfl (by rw [Str.length_append, Str.length_append]; show (tM _).length + _ + (tM _).length ≤ _; omega) ?_)
        walk_at "r"
        exact q G3 ((s1.trans s2).trans s3)
      · rw [wd_ne (by decide)]
        have le : (" < " : Str).length = 3 := by decide
        walk_at "r"
        rw [wd_eq]
        walk_at "a"
        refine ⟨m', _, _, rfl, by omega, b1.sm s1, ha, fun G2 s2 => ?_⟩
        refine rd_fmS (by show (tM _).length ≤ _; omega) (rd_jsB (Str.empty_append _) (by show (tM _).length ≤ _; omega) ?_)
        walk_at "r"
        refine rd_jsB rfl (by rw [Str.length_append]; show (tM _).length + _ ≤ _; omega) ?_
        walk_at "a"
        refine ⟨m', _, _, rfl, by omega, (b2.sm s1).sm s2, hb, fun G3 s3 => ?_⟩
        refine rd_fmS (by show (tM _).length ≤ _; omega) (rd_jsB rfl (by rw [Str.length_append, Str.length_append]; show (tM _).length + _ + (tM _).length ≤ _; omega) ?_)
        walk_at "r"
        exact q G3 ((s1.trans s2).trans s3)
    | und ha hs hb =>
      obtain ⟨m', a, xs, mm, rfl, h1, _, h3⟩ := tup_at hD
      rcases h3 with _ | ⟨b0, _ | ⟨b1, _ | ⟨b2, _ | ⟨b3, _ | _⟩⟩⟩⟩
      cases b0.dn.eq_str
      obtain ⟨_, ps, ys, _, rfl, g1, _, g3⟩ := tup_at b2
      rcases g3 with _ | ⟨c0, _ | ⟨c1, _ | ⟨c2, _ | _⟩⟩⟩
      cases c0.eq_int
      cases c1.eq_int
      cases c2.eq_int
      have l1 := tM_len hn ha
      have l2 := tM_len hn hb
      have l3 := slopeT_len hs
      have l4 : ("under(" : Str).length = 6 := by decide
      have l5 : (", " : Str).length = 2 := by decide
      have l6 : (")" : Str).length = 1 := by decide
      refine rd_star (sqT_of h1) (by simp) fun D G1 _ s1 t1 => ?_
      walk_at "r"
      rw [wd_ne (by decide)]
      walk_at "r"
      rw [wd_ne (by decide)]
      walk_at "r"
      rw [wd_eq]
      walk_at "r"
      refine rd_jsB (Str.empty_append _) (by omega) ?_
      walk_at "a"
      refine ⟨m', _, _, rfl, by omega, b1.sm s1, ha, fun G2 s2 => ?_⟩
      rw [show termT 3 _ = tM _ from rfl]
      refine rd_fmS (by omega) (rd_jsB rfl (by simp only [Str.length_append]; omega) ?_)
      walk_at "r"
      refine rd_jsB rfl (by simp only [Str.length_append]; omega) ?_
      walk_at "a"
      refine ⟨ps, _, _, _, rfl, s2 _ _ (s1 _ _ g1), hs, ?_⟩
      refine rd_fmS (by omega) (rd_jsB rfl (by simp only [Str.length_append]; omega) ?_)
      walk_at "r"
      refine rd_jsB rfl (by simp only [Str.length_append]; omega) ?_
      walk_at "a"
      refine ⟨m', _, _, rfl, by omega, (b3.sm s1).sm s2, hb, fun G3 s3 => ?_⟩
      rw [show termT 3 _ = tM _ from rfl]
      refine rd_fmS (by omega) (rd_jsB rfl (by simp only [Str.length_append]; omega) ?_)
      walk_at "r"
      refine rd_jsB rfl (by simp only [Str.length_append]; omega) ?_
      walk_at "r"
      exact q G3 ((s1.trans s2).trans s3)
    | @lea a0 mi ri ha hm hr' =>
      obtain ⟨m', a, xs, mm, rfl, h1, _, h3⟩ := tup_at hD
      rcases h3 with _ | ⟨b0, _ | ⟨b1, _ | ⟨b2, _ | ⟨b3, _ | _⟩⟩⟩⟩
      cases b0.dn.eq_str
      cases b2.eq_int
      cases b3.eq_int
      have l1 := tM_len hn ha
      have l2 := iT_len (i := mi) (by omega)
      have l3 := iT_len (i := ri) (by omega)
      have l4 : ("leaves(" : Str).length = 7 := by decide
      have l5 : (", " : Str).length = 2 := by decide
      have l6 : (")" : Str).length = 1 := by decide
      refine rd_star (sqT_of h1) (by simp) fun D G1 _ s1 t1 => ?_
      walk_at "r"
      rw [wd_ne (by decide)]
      walk_at "r"
      rw [wd_ne (by decide)]
      walk_at "r"
      rw [wd_ne (by decide)]
      walk_at "r"
      rw [wd_eq]
      walk_at "r"
      refine rd_jsB (Str.empty_append _) (by omega) ?_
      walk_at "a"
      refine ⟨m', _, _, rfl, by omega, b1.sm s1, ha, fun G2 s2 => ?_⟩
      rw [show termT 3 _ = tM _ from rfl]
      refine rd_fmS (by omega) (rd_jsB rfl (by simp only [Str.length_append]; omega) ?_)
      walk_at "r"
      refine rd_jsB rfl (by simp only [Str.length_append]; omega) ?_
      walk_at "a"
      refine rd_fmI (by omega) ?_
      rw [show (Str.ofString (toString mi)) = iT mi from rfl]
      refine rd_jsB rfl (by simp only [Str.length_append]; omega) ?_
      walk_at "r"
      refine rd_jsB rfl (by simp only [Str.length_append]; omega) ?_
      walk_at "a"
      refine rd_fmI (by omega) ?_
      rw [show (Str.ofString (toString ri)) = iT ri from rfl]
      refine rd_jsB rfl (by simp only [Str.length_append]; omega) ?_
      walk_at "r"
      refine rd_jsB rfl (by simp only [Str.length_append]; omega) ?_
      walk_at "r"
      exact q G2 (s1.trans s2)
    | @use x0 vs0 hx hv hs =>
      obtain ⟨m', a, xs, mm, rfl, h1, _, h3⟩ := tup_at hD
      rcases h3 with _ | ⟨b0, _ | ⟨b1, _ | ⟨b2, _ | _⟩⟩⟩
      cases b0.dn.eq_str
      cases b1.dn.eq_str
      obtain ⟨_, ps, ys, _, rfl, g1, _, g3⟩ := tup_at b2
      have ey : ys = vs0.map V.str := paired_strs g3
      subst ey
      obtain ⟨x1, x2, _⟩ := hx
      have l2 : (", " : Str).length = 2 := by decide
      have l5 : ("(" : Str).length = 1 := by decide
      have l6 : (")" : Str).length = 1 := by decide
      have lj := joinT_len (B := 10) ", " vs0 fun y hy => (hs y hy).2.1
      have ls := len_sum (B := 10) vs0 fun y hy => (hs y hy).2.1
      rw [l2] at lj
      refine rd_star (sqT_of h1) (by simp) fun D G1 _ s1 t1 => ?_
      walk_at "r"
      rw [wd_ne (by decide)]
      walk_at "r"
      rw [wd_ne (by decide)]
      walk_at "r"
      rw [wd_ne (by decide)]
      walk_at "r"
      rw [wd_ne (by decide)]
      walk_at "r"
      rw [wd_ne (by decide)]
      walk_at "r"
      refine rd_in (T.t_BINDERS _) rfl rfl ?_
      rw [show inV _ _ = false from by decide]
      walk_at "r"
      refine rd_in (T.t_GROUPS _) rfl rfl ?_
      rw [show inV _ _ = false from by decide]
      walk_at "a"
      refine rd_catS (by omega) ?_
      walk_at "a"
      refine rd_list (.inr (sqT_of (s1 _ _ g1))) fun l G2 _ s2 h2 => ?_
      walk_at "r"
      refine rd_joinL (sqL_of h2) (by rw [l2]; omega) ?_
      walk_at "a"
      refine rd_catS (by simp only [Str.length_append]; omega) ?_
      walk_at "r"
      refine rd_catS (by simp only [Str.length_append]; omega) ?_
      rw [← sList_map vs0]
      exact q G2 (s1.trans s2)
    | neg ha =>
      obtain ⟨m', a, xs, mm, rfl, h1, _, h3⟩ := tup_at hD
      rcases h3 with _ | ⟨b0, _ | ⟨b1, _ | _⟩⟩
      cases b0.dn.eq_str
      have l1 := hR _ ha
      have l4 : ("not " : Str).length = 4 := by decide
      refine rd_star (sqT_of h1) (by simp) fun D G1 _ s1 t1 => ?_
      walk_at "r"
      rw [wd_ne (by decide)]
      walk_at "r"
      rw [wd_ne (by decide)]
      walk_at "r"
      rw [wd_ne (by decide)]
      walk_at "r"
      rw [wd_ne (by decide)]
      walk_at "r"
      rw [wd_eq]
      walk_at "a"
      refine ⟨m', _, _, rfl, by omega, b1.sm s1, ha, fun G2 s2 => ?_⟩
      refine rd_catS (by omega) ?_
      exact q G2 (s1.trans s2)
    | bnd hw hx ha =>
      obtain ⟨m', a, xs, mm, rfl, h1, _, h3⟩ := tup_at hD
      rcases h3 with _ | ⟨b0, _ | ⟨b1, _ | ⟨b2, _ | _⟩⟩⟩
      cases b0.dn.eq_str
      cases b1.dn.eq_str
      obtain ⟨x1, x2, _⟩ := hx
      have l1 := hR _ ha
      have l5 : (" " : Str).length = 1 := by decide
      refine rd_star (sqT_of h1) (by simp) fun D G1 _ s1 t1 => ?_
      rcases hw with rfl | rfl
      · have lw : ("some" : Str).length = 4 := by decide
        walk_at "r"
        rw [wd_ne (by decide)]
        walk_at "r"
        rw [wd_ne (by decide)]
        walk_at "r"
        rw [wd_ne (by decide)]
        walk_at "r"
        rw [wd_ne (by decide)]
        walk_at "r"
        rw [wd_ne (by decide)]
        walk_at "r"
        refine rd_in (T.t_BINDERS _) rfl rfl ?_
        rw [show inV _ _ = true from by decide]
        walk_at "r"
        refine rd_fmS (by omega) (rd_jsB (Str.empty_append _) (by omega) ?_)
        walk_at "r"
        refine rd_jsB rfl (by simp only [Str.length_append]; omega) ?_
        walk_at "a"
        refine rd_fmS (by omega) (rd_jsB rfl (by simp only [Str.length_append]; omega) ?_)
        walk_at "r"
        refine rd_jsB rfl (by simp only [Str.length_append]; omega) ?_
        walk_at "a"
        refine ⟨m', _, _, rfl, by omega, b2.sm s1, ha, fun G2 s2 => ?_⟩
        refine rd_fmS (by omega) (rd_jsB rfl (by simp only [Str.length_append]; omega) ?_)
        walk_at "r"
        exact q G2 (s1.trans s2)
      · have lw : ("all" : Str).length = 3 := by decide
        walk_at "r"
        rw [wd_ne (by decide)]
        walk_at "r"
        rw [wd_ne (by decide)]
        walk_at "r"
        rw [wd_ne (by decide)]
        walk_at "r"
        rw [wd_ne (by decide)]
        walk_at "r"
        rw [wd_ne (by decide)]
        walk_at "r"
        refine rd_in (T.t_BINDERS _) rfl rfl ?_
        rw [show inV _ _ = true from by decide]
        walk_at "r"
        refine rd_fmS (by omega) (rd_jsB (Str.empty_append _) (by omega) ?_)
        walk_at "r"
        refine rd_jsB rfl (by simp only [Str.length_append]; omega) ?_
        walk_at "a"
        refine rd_fmS (by omega) (rd_jsB rfl (by simp only [Str.length_append]; omega) ?_)
        walk_at "r"
        refine rd_jsB rfl (by simp only [Str.length_append]; omega) ?_
        walk_at "a"
        refine ⟨m', _, _, rfl, by omega, b2.sm s1, ha, fun G2 s2 => ?_⟩
        refine rd_fmS (by omega) (rd_jsB rfl (by simp only [Str.length_append]; omega) ?_)
        walk_at "r"
        exact q G2 (s1.trans s2)
    | @grp w0 ss hw hl hs =>
      obtain ⟨m', a, xs, mm, rfl, h1, _, h3⟩ := tup_at hD
      rcases h3 with _ | ⟨b0, b1⟩
      cases b0.dn.eq_str
      have hlen := b1.length
      have l4 : (" " : Str).length = 1 := by decide
      have l5 : ("(" : Str).length = 1 := by decide
      have l6 : (")" : Str).length = 1 := by decide
      refine rd_star (sqT_of h1) (by omega) fun D G1 _ s1 t1 => ?_
      rcases hw with rfl | rfl
      · have lw : ("and" : Str).length = 3 := by decide
        walk_at "r"
        rw [wd_ne (by decide)]
        walk_at "r"
        rw [wd_ne (by decide)]
        walk_at "r"
        rw [wd_ne (by decide)]
        walk_at "r"
        rw [wd_ne (by decide)]
        walk_at "r"
        rw [wd_ne (by decide)]
        walk_at "r"
        refine rd_in (T.t_BINDERS _) rfl rfl ?_
        rw [show inV _ _ = false from by decide]
        walk_at "r"
        refine rd_in (T.t_GROUPS _) rfl rfl ?_
        rw [show inV _ _ = true from by decide]
        walk_at "r"
        refine rd_jsB (Str.empty_append _) (by rw [l4]; decide) ?_
        walk_at "r"
        refine rd_fmS (by rw [lw]; decide) (rd_jsB rfl (by simp only [Str.length_append]; omega) ?_)
        walk_at "r"
        refine rd_jsB rfl (by simp only [Str.length_append]; omega) ?_
        walk_at "r"
        refine rd_wkL (sqL_of t1) ?_
        refine lc_dat walk_list (fun H' s' => sqL_of (s' _ _ t1)) (b1.mono fun _ _ h => h.sm s1) (fun d => .str (rsay n d)) (by omega) (fun x d G2 Q' N' hd hx s2 q1 => ?_) (fun D2 G2 nD2 s2 t2 => ?_)
        · walk_at "r"
          exact ⟨m', _, _, rfl, by omega, hx.sm s2, hs d hd, fun G3 s3 => q1 G3 s3⟩
        · have h0 : ∀ y ∈ ss.map (rsay n), y.length ≤ 1000000 := fun y hy => by
            obtain ⟨z, h1, rfl⟩ := List.mem_map.1 hy
            exact hR z (hs z h1)
          have es : ss.map (fun d => V.str (rsay n d)) = (ss.map (rsay n)).map V.str := by rw [List.map_map]; rfl
          rw [es] at t2
          have lj := joinT_len ((" " : Str) ++ "and" ++ " ") (ss.map (rsay n)) h0
          have ls := len_sum (ss.map (rsay n)) h0
          rw [List.length_map] at lj ls
          have lq : ((" " : Str) ++ "and" ++ " ").length ≤ 5 := by simp only [Str.length_append]; omega
          have lp : ss.length * ((" " : Str) ++ "and" ++ " ").length ≤ 3 * 5 := Nat.mul_le_mul hl.2 lq
          refine rd_joinL (sqL_of t2) (by rw [List.length_map]; omega) ?_
          walk_at "r"
          refine rd_catS (by omega) ?_
          walk_at "r"
          refine rd_catS (by rw [Str.length_append]; omega) ?_
          exact q G2 (s1.trans s2)
      · have lw : ("or" : Str).length = 2 := by decide
        walk_at "r"
        rw [wd_ne (by decide)]
        walk_at "r"
        rw [wd_ne (by decide)]
        walk_at "r"
        rw [wd_ne (by decide)]
        walk_at "r"
        rw [wd_ne (by decide)]
        walk_at "r"
        rw [wd_ne (by decide)]
        walk_at "r"
        refine rd_in (T.t_BINDERS _) rfl rfl ?_
        rw [show inV _ _ = false from by decide]
        walk_at "r"
        refine rd_in (T.t_GROUPS _) rfl rfl ?_
        rw [show inV _ _ = true from by decide]
        walk_at "r"
        refine rd_jsB (Str.empty_append _) (by rw [l4]; decide) ?_
        walk_at "r"
        refine rd_fmS (by rw [lw]; decide) (rd_jsB rfl (by simp only [Str.length_append]; omega) ?_)
        walk_at "r"
        refine rd_jsB rfl (by simp only [Str.length_append]; omega) ?_
        walk_at "r"
        refine rd_wkL (sqL_of t1) ?_
        refine lc_dat walk_list (fun H' s' => sqL_of (s' _ _ t1)) (b1.mono fun _ _ h => h.sm s1) (fun d => .str (rsay n d)) (by omega) (fun x d G2 Q' N' hd hx s2 q1 => ?_) (fun D2 G2 nD2 s2 t2 => ?_)
        · walk_at "r"
          exact ⟨m', _, _, rfl, by omega, hx.sm s2, hs d hd, fun G3 s3 => q1 G3 s3⟩
        · have h0 : ∀ y ∈ ss.map (rsay n), y.length ≤ 1000000 := fun y hy => by
            obtain ⟨z, h1, rfl⟩ := List.mem_map.1 hy
            exact hR z (hs z h1)
          have es : ss.map (fun d => V.str (rsay n d)) = (ss.map (rsay n)).map V.str := by rw [List.map_map]; rfl
          rw [es] at t2
          have lj := joinT_len ((" " : Str) ++ "or" ++ " ") (ss.map (rsay n)) h0
          have ls := len_sum (ss.map (rsay n)) h0
          rw [List.length_map] at lj ls
          have lq : ((" " : Str) ++ "or" ++ " ").length ≤ 5 := by simp only [Str.length_append]; omega
          have lp : ss.length * ((" " : Str) ++ "or" ++ " ").length ≤ 3 * 5 := Nat.mul_le_mul hl.2 lq
          refine rd_joinL (sqL_of t2) (by rw [List.length_map]; omega) ?_
          walk_at "r"
          refine rd_catS (by omega) ?_
          walk_at "r"
          refine rd_catS (by rw [Str.length_append]; omega) ?_
          exact q G2 (s1.trans s2)
theorem ok_law_text (T : Txt K mg) (k n : Nat) (nms : List Str) (hn : smallN nms) (h_law_step_text : Ok P w K mg base 1 "_law_step_text" ["_law_slope"] spSlopeT) (h_law_term_text : Ok P w K mg base (k + 2) "_law_term_text" ["_law_term"] (spTermT nms 3)) (h_law_text : Ok P w K mg base (k + 2) "_law_text" ["_law_saying_z"] (spRSay nms n)) (hR : ∀ d, RSay nms n d → (rsay n d).length ≤ 1000000) : Ok P w K mg base (k + 3) "_law_text" ["_law_saying_z"] (spSayT nms n) := by
  refine Ok.mk T.F_law_text T.g_law_text sc_law_text (fun _ _ _ _ _ _ us hl => match us, hl with | [_], _ => rfl) (fun vs H Q E h => ?_) (fun cdv A outer s H vs Q E hr h => ?_)
  · obtain ⟨m, v, d, rfl, _⟩ := h
    rfl
  · obtain ⟨m, v, d, rfl, m60, hD, hG, q⟩ := h
    rw [GSay_eq] at hG
    rw [sayT_eq] at q
    refine ⟨_, (pss_cons (ps_set (i := 1) sc_law_text.nd rfl (.inl rfl) (pe_ix ix_tup (pv 0) pe_int (fun _ _ => rfl)))
      (pss_cons (ps_if (pt_cmpR op_in_seq (pv 1) (pe_tup (pa_cons pe_str (pa_cons pe_str pa_nil))) (by rfl)) (pss_one (ps_ret (pe_op op_catS (pe_op op_catS (pe_ok h_law_term_text (hr.mono (by omega)) (by rfl) (pa_cons (pe_ix ix_tup (pv 0) pe_int (fun _ _ => rfl)) pa_nil)) (pe_ifExp (pt_cmpR op_eq (pv 1) pe_str (nomark _)) pe_str pe_str)) (pe_ok h_law_term_text (hr.mono (by omega)) (by rfl) (pa_cons (pe_ix ix_tup (pv 0) pe_int (fun _ _ => rfl)) pa_nil))))) pss_nil)
      (pss_cons (ps_if (pt_cmpR op_eq (pv 1) pe_str (nomark _)) (pss_cons (ps_set (i := 2) sc_law_text.nd rfl (.inl rfl) (pe_ok h_law_step_text (hr.mono (by omega)) (by rfl) (pa_cons (pe_ix ix_tup (pv 0) pe_int (fun _ _ => rfl)) pa_nil)))
      (pss_one (ps_ret (pe_op op_catS (pe_op op_catS (pe_op op_catS (pe_op op_catS (pe_op op_catS (pe_op op_catS pe_str (pe_ok h_law_term_text (hr.mono (by omega)) (by rfl) (pa_cons (pe_ix ix_tup (pv 0) pe_int (fun _ _ => rfl)) pa_nil))) pe_str) (pv 2)) pe_str) (pe_ok h_law_term_text (hr.mono (by omega)) (by rfl) (pa_cons (pe_ix ix_tup (pv 0) pe_int (fun _ _ => rfl)) pa_nil))) pe_str)))) pss_nil)
      (pss_cons (ps_if (pt_cmpR op_eq (pv 1) pe_str (nomark _)) (pss_one (ps_ret (pe_op op_catS (pe_op op_catS (pe_op op_catS (pe_op op_catS (pe_op op_catS (pe_op op_catS pe_str (pe_ok h_law_term_text (hr.mono (by omega)) (by rfl) (pa_cons (pe_ix ix_tup (pv 0) pe_int (fun _ _ => rfl)) pa_nil))) pe_str) (pe_callTy c_str (by rfl) T.b_str (by decide +kernel) (pa_cons (pe_ix ix_tup (pv 0) pe_int (fun _ _ => rfl)) pa_nil))) pe_str) (pe_callTy c_str (by rfl) T.b_str (by decide +kernel) (pa_cons (pe_ix ix_tup (pv 0) pe_int (fun _ _ => rfl)) pa_nil))) pe_str))) pss_nil)
      (pss_cons (ps_if (pt_cmpR op_eq (pv 1) pe_str (nomark _)) (pss_one (ps_ret (pe_op op_catS pe_str (pe_ok h_law_text (hr.mono (by omega)) (by rfl) (pa_cons (pe_ix ix_tup (pv 0) pe_int (fun _ _ => rfl)) pa_nil))))) pss_nil)
      (pss_cons (ps_if (pt_cmpR op_in_seq (pv 1) (pe_tup (pa_cons pe_str (pa_cons pe_str pa_nil))) (by rfl)) (pss_one (ps_ret (pe_op op_catS (pe_op op_catS (pe_op op_catS (pe_op op_catS (pv 1) pe_str) (pe_ix ix_tup (pv 0) pe_int (fun _ _ => rfl))) pe_str) (pe_ok h_law_text (hr.mono (by omega)) (by rfl) (pa_cons (pe_ix ix_tup (pv 0) pe_int (fun _ _ => rfl)) pa_nil))))) pss_nil)
      (pss_cons (ps_if (pt_cmpR op_eq (pv 1) pe_str (nomark _)) (pss_one (ps_ret (pe_op op_catS (pe_op op_catS (pe_op op_catS (pe_ix ix_tup (pv 0) pe_int (fun _ _ => rfl)) pe_str) (pe_joinS pe_str (pe_callTy c_list (by rfl) T.b_list (by decide +kernel) (pa_cons (pe_ix ix_tup (pv 0) pe_int (fun _ _ => rfl)) pa_nil)))) pe_str))) pss_nil)
      (pss_one (ps_ret (pe_op op_catS (pe_op op_catS pe_str (pe_joinS (pe_op op_catS (pe_op op_catS pe_str (pv 1)) pe_str) (pe_lc (own := [("_law_one", 3)]) (by rfl) sc_law_text.nd (pi_tup (pe_slice sl_tupA (pv 0) (po_some pe_int) po_none)) (blkOk_by (own := [("_law_one", 3)]) (N := ["_law_saying_z", "_law_word", "_law_middle", "_law_one"]) (sc := defScope s_law_text) (by decide +kernel)) (fun _ _ _ _ _ => (pg_name (i := 3) sc_law_text.nd rfl (.inl rfl))) (fun _ _ _ _ _ => pts_nil) (fun _ _ _ _ _ => (pe_ok h_law_text (hr.mono (by omega)) (by rfl) (pa_cons (pv 3) pa_nil)))))) pe_str)))))))))), ?_⟩
    walk_at "st"
    walk_at "r"
    have l1 : ("(" : Str).length = 1 := by decide
    have l2 : (", " : Str).length = 2 := by decide
    have l3 : (")" : Str).length = 1 := by decide
    have l4 : (" " : Str).length = 1 := by decide
    have l5 : (" = " : Str).length = 3 := by decide
    have l6 : (" < " : Str).length = 3 := by decide
    have l7 : ("under(" : Str).length = 6 := by decide
    have l8 : ("leaves(" : Str).length = 7 := by decide
    have l9 : ("not " : Str).length = 4 := by decide
    have l10 : ("some" : Str).length = 4 := by decide
    have l11 : ("all" : Str).length = 3 := by decide
    have l12 : ("and" : Str).length = 3 := by decide
    have l13 : ("or" : Str).length = 2 := by decide
    cases hG with
    | cmp hw ha hb =>
      obtain ⟨m', a, xs, mm, rfl, h1, _, h3⟩ := tup_at hD
      rcases h3 with _ | ⟨b0, _ | ⟨b1, _ | ⟨b2, _ | _⟩⟩⟩
      cases b0.dn.eq_str
      have lt1 := tM_len hn ha
      have lt2 := tM_len hn hb
      rcases hw with rfl | rfl
      · refine rd_ixT (sqT_of h1) rfl ?_
        walk_at "r"
        refine rd_newT (sz_small (by simp)) (fun p1 G1 _ s1 t1 => ?_)
        walk_at "r"
        refine rd_in (sqT_of t1) rfl rfl ?_
        rw [show inV _ _ = true from by decide]
        walk_at "r"
        refine rd_ixT (sqT_of (s1 _ _ h1)) rfl ?_
        walk_at "r"
        refine ⟨m', _, _, rfl, by omega, b1.sm s1, ha, fun G2 s2 => ?_⟩
        walk_at "r"
        rw [wd_eq]
        walk_at "r"
        rw [show termT 3 _ = tM _ from rfl]
        refine rd_catS (by omega) ?_
        walk_at "r"
        refine rd_ixT (sqT_of (s2 _ _ (s1 _ _ h1))) rfl ?_
        walk_at "r"
        refine ⟨m', _, _, rfl, by omega, (b2.sm s1).sm s2, hb, fun G3 s3 => ?_⟩
        rw [show termT 3 _ = tM _ from rfl]
        refine rd_catS (by simp only [Str.length_append]; omega) ?_
        exact q G3 ((s1.trans s2).trans s3)
      · refine rd_ixT (sqT_of h1) rfl ?_
        walk_at "r"
        refine rd_newT (sz_small (by simp)) (fun p1 G1 _ s1 t1 => ?_)
        walk_at "r"
        refine rd_in (sqT_of t1) rfl rfl ?_
        rw [show inV _ _ = true from by decide]
        walk_at "r"
        refine rd_ixT (sqT_of (s1 _ _ h1)) rfl ?_
        walk_at "r"
        refine ⟨m', _, _, rfl, by omega, b1.sm s1, ha, fun G2 s2 => ?_⟩
        walk_at "r"
        rw [wd_ne (by decide)]
        walk_at "r"
        rw [show termT 3 _ = tM _ from rfl]
        refine rd_catS (by omega) ?_
        walk_at "r"
        refine rd_ixT (sqT_of (s2 _ _ (s1 _ _ h1))) rfl ?_
        walk_at "r"
        refine ⟨m', _, _, rfl, by omega, (b2.sm s1).sm s2, hb, fun G3 s3 => ?_⟩
        rw [show termT 3 _ = tM _ from rfl]
        refine rd_catS (by simp only [Str.length_append]; omega) ?_
        exact q G3 ((s1.trans s2).trans s3)
    | und ha hs hb =>
      obtain ⟨m', a, xs, mm, rfl, h1, _, h3⟩ := tup_at hD
      rcases h3 with _ | ⟨b0, _ | ⟨b1, _ | ⟨b2, _ | ⟨b3, _ | _⟩⟩⟩⟩
      cases b0.dn.eq_str
      obtain ⟨_, ps, ys, _, rfl, g1, _, g3⟩ := tup_at b2
      rcases g3 with _ | ⟨c0, _ | ⟨c1, _ | ⟨c2, _ | _⟩⟩⟩
      cases c0.eq_int
      cases c1.eq_int
      cases c2.eq_int
      have lt1 := tM_len hn ha
      have lt2 := tM_len hn hb
      have lt3 := slopeT_len hs
      refine rd_ixT (sqT_of h1) rfl ?_
      walk_at "r"
      refine rd_newT (sz_small (by simp)) (fun p1 G1 _ s1 t1 => ?_)
      walk_at "r"
      refine rd_in (sqT_of t1) rfl rfl ?_
      rw [show inV _ _ = false from by decide]
      walk_at "r"
      rw [wd_eq]
      walk_at "r"
      refine rd_ixT (sqT_of (s1 _ _ h1)) rfl ?_
      walk_at "r"
      refine ⟨ps, _, _, _, rfl, s1 _ _ g1, hs, ?_⟩
      walk_at "r"
      refine rd_ixT (sqT_of (s1 _ _ h1)) rfl ?_
      walk_at "r"
      refine ⟨m', _, _, rfl, by omega, b1.sm s1, ha, fun G2 s2 => ?_⟩
      rw [show termT 3 _ = tM _ from rfl]
      refine rd_catS (by omega) ?_
      walk_at "r"
      refine rd_catS (by simp only [Str.length_append]; omega) ?_
      walk_at "r"
      refine rd_catS (by simp only [Str.length_append]; omega) ?_
      walk_at "r"
      refine rd_catS (by simp only [Str.length_append]; omega) ?_
      walk_at "r"
      refine rd_ixT (sqT_of (s2 _ _ (s1 _ _ h1))) rfl ?_
      walk_at "r"
      refine ⟨m', _, _, rfl, by omega, (b3.sm s1).sm s2, hb, fun G3 s3 => ?_⟩
      rw [show termT 3 _ = tM _ from rfl]
      refine rd_catS (by simp only [Str.length_append]; omega) ?_
      walk_at "r"
      refine rd_catS (by simp only [Str.length_append]; omega) ?_
      exact q G3 ((s1.trans s2).trans s3)
    | @lea a0 mi ri ha hm hr' =>
      obtain ⟨m', a, xs, mm, rfl, h1, _, h3⟩ := tup_at hD
      rcases h3 with _ | ⟨b0, _ | ⟨b1, _ | ⟨b2, _ | ⟨b3, _ | _⟩⟩⟩⟩
      cases b0.dn.eq_str
      cases b2.eq_int
      cases b3.eq_int
      have lt1 := tM_len hn ha
      have lt2 := iT_len (i := mi) (by omega)
      have lt3 := iT_len (i := ri) (by omega)
      refine rd_ixT (sqT_of h1) rfl ?_
      walk_at "r"
      refine rd_newT (sz_small (by simp)) (fun p1 G1 _ s1 t1 => ?_)
      walk_at "r"
      refine rd_in (sqT_of t1) rfl rfl ?_
      rw [show inV _ _ = false from by decide]
      walk_at "r"
      rw [wd_ne (by decide)]
      walk_at "r"
      rw [wd_eq]
      walk_at "r"
      refine rd_ixT (sqT_of (s1 _ _ h1)) rfl ?_
      walk_at "r"
      refine ⟨m', _, _, rfl, by omega, b1.sm s1, ha, fun G2 s2 => ?_⟩
      rw [show termT 3 _ = tM _ from rfl]
      refine rd_catS (by omega) ?_
      walk_at "r"
      refine rd_catS (by simp only [Str.length_append]; omega) ?_
      walk_at "r"
      refine rd_ixT (sqT_of (s2 _ _ (s1 _ _ h1))) rfl ?_
      walk_at "r"
      refine rd_strI (by omega) ?_
      rw [show (Str.ofString (toString mi)) = iT mi from rfl]
      refine rd_catS (by simp only [Str.length_append]; omega) ?_
      walk_at "r"
      refine rd_catS (by simp only [Str.length_append]; omega) ?_
      walk_at "r"
      refine rd_ixT (sqT_of (s2 _ _ (s1 _ _ h1))) rfl ?_
      walk_at "r"
      refine rd_strI (by omega) ?_
      rw [show (Str.ofString (toString ri)) = iT ri from rfl]
      refine rd_catS (by simp only [Str.length_append]; omega) ?_
      walk_at "r"
      refine rd_catS (by simp only [Str.length_append]; omega) ?_
      exact q G2 (s1.trans s2)
    | neg ha =>
      obtain ⟨m', a, xs, mm, rfl, h1, _, h3⟩ := tup_at hD
      rcases h3 with _ | ⟨b0, _ | ⟨b1, _ | _⟩⟩
      cases b0.dn.eq_str
      have lt1 := hR _ ha
      refine rd_ixT (sqT_of h1) rfl ?_
      walk_at "r"
      refine rd_newT (sz_small (by simp)) (fun p1 G1 _ s1 t1 => ?_)
      walk_at "r"
      refine rd_in (sqT_of t1) rfl rfl ?_
      rw [show inV _ _ = false from by decide]
      walk_at "r"
      rw [wd_ne (by decide)]
      walk_at "r"
      rw [wd_ne (by decide)]
      walk_at "r"
      rw [wd_eq]
      walk_at "r"
      refine rd_ixT (sqT_of (s1 _ _ h1)) rfl ?_
      walk_at "r"
      refine ⟨m', _, _, rfl, by omega, b1.sm s1, ha, fun G2 s2 => ?_⟩
      refine rd_catS (by omega) ?_
      exact q G2 (s1.trans s2)
    | bnd hw hx ha =>
      obtain ⟨m', a, xs, mm, rfl, h1, _, h3⟩ := tup_at hD
      rcases h3 with _ | ⟨b0, _ | ⟨b1, _ | ⟨b2, _ | _⟩⟩⟩
      cases b0.dn.eq_str
      cases b1.dn.eq_str
      obtain ⟨x1, x2, _⟩ := hx
      have lt1 := hR _ ha
      rcases hw with rfl | rfl
      · refine rd_ixT (sqT_of h1) rfl ?_
        walk_at "r"
        refine rd_newT (sz_small (by simp)) (fun p1 G1 _ s1 t1 => ?_)
        walk_at "r"
        refine rd_in (sqT_of t1) rfl rfl ?_
        rw [show inV _ _ = false from by decide]
        walk_at "r"
        rw [wd_ne (by decide)]
        walk_at "r"
        rw [wd_ne (by decide)]
        walk_at "r"
        rw [wd_ne (by decide)]
        walk_at "r"
        walk_at "r"
        refine rd_newT (sz_small (by simp)) (fun p2 G2 _ s2 t2 => ?_)
        walk_at "r"
        refine rd_in (sqT_of t2) rfl rfl ?_
        rw [show inV _ _ = true from by decide]
        walk_at "r"
        refine rd_catS (by omega) ?_
        walk_at "r"
        refine rd_ixT (sqT_of (s2 _ _ (s1 _ _ h1))) rfl ?_
        walk_at "r"
        refine rd_catS (by simp only [Str.length_append]; omega) ?_
        walk_at "r"
        refine rd_catS (by simp only [Str.length_append]; omega) ?_
        walk_at "r"
        refine rd_ixT (sqT_of (s2 _ _ (s1 _ _ h1))) rfl ?_
        walk_at "r"
        refine ⟨m', _, _, rfl, by omega, (b2.sm s1).sm s2, ha, fun G3 s3 => ?_⟩
        refine rd_catS (by simp only [Str.length_append]; omega) ?_
        exact q G3 ((s1.trans s2).trans s3)
      · refine rd_ixT (sqT_of h1) rfl ?_
        walk_at "r"
        refine rd_newT (sz_small (by simp)) (fun p1 G1 _ s1 t1 => ?_)
        walk_at "r"
        refine rd_in (sqT_of t1) rfl rfl ?_
        rw [show inV _ _ = false from by decide]
        walk_at "r"
        rw [wd_ne (by decide)]
        walk_at "r"
        rw [wd_ne (by decide)]
        walk_at "r"
        rw [wd_ne (by decide)]
        walk_at "r"
        walk_at "r"
        refine rd_newT (sz_small (by simp)) (fun p2 G2 _ s2 t2 => ?_)
        walk_at "r"
        refine rd_in (sqT_of t2) rfl rfl ?_
        rw [show inV _ _ = true from by decide]
        walk_at "r"
        refine rd_catS (by omega) ?_
        walk_at "r"
        refine rd_ixT (sqT_of (s2 _ _ (s1 _ _ h1))) rfl ?_
        walk_at "r"
        refine rd_catS (by simp only [Str.length_append]; omega) ?_
        walk_at "r"
        refine rd_catS (by simp only [Str.length_append]; omega) ?_
        walk_at "r"
        refine rd_ixT (sqT_of (s2 _ _ (s1 _ _ h1))) rfl ?_
        walk_at "r"
        refine ⟨m', _, _, rfl, by omega, (b2.sm s1).sm s2, ha, fun G3 s3 => ?_⟩
        refine rd_catS (by simp only [Str.length_append]; omega) ?_
        exact q G3 ((s1.trans s2).trans s3)
    | @use x0 vs0 hx hv hs =>
      obtain ⟨m', a, xs, mm, rfl, h1, _, h3⟩ := tup_at hD
      rcases h3 with _ | ⟨b0, _ | ⟨b1, _ | ⟨b2, _ | _⟩⟩⟩
      cases b0.dn.eq_str
      cases b1.dn.eq_str
      obtain ⟨_, ps, ys, _, rfl, g1, _, g3⟩ := tup_at b2
      have ey : ys = vs0.map V.str := paired_strs g3
      subst ey
      obtain ⟨x1, x2, _⟩ := hx
      have lj := joinT_len (B := 10) ", " vs0 fun y hy => (hs y hy).2.1
      have ls := len_sum (B := 10) vs0 fun y hy => (hs y hy).2.1
      rw [l2] at lj
      refine rd_ixT (sqT_of h1) rfl ?_
      walk_at "r"
      refine rd_newT (sz_small (by simp)) (fun p1 G1 _ s1 t1 => ?_)
      walk_at "r"
      refine rd_in (sqT_of t1) rfl rfl ?_
      rw [show inV _ _ = false from by decide]
      walk_at "r"
      rw [wd_ne (by decide)]
      walk_at "r"
      rw [wd_ne (by decide)]
      walk_at "r"
      rw [wd_ne (by decide)]
      walk_at "r"
      walk_at "r"
      refine rd_newT (sz_small (by simp)) (fun p2 G2 _ s2 t2 => ?_)
      walk_at "r"
      refine rd_in (sqT_of t2) rfl rfl ?_
      rw [show inV _ _ = false from by decide]
      walk_at "r"
      rw [wd_eq]
      walk_at "r"
      refine rd_ixT (sqT_of (s2 _ _ (s1 _ _ h1))) rfl ?_
      walk_at "r"
      refine rd_catS (by omega) ?_
      walk_at "r"
      refine rd_ixT (sqT_of (s2 _ _ (s1 _ _ h1))) rfl ?_
      walk_at "r"
      refine rd_list (.inr (sqT_of (s2 _ _ (s1 _ _ g1)))) fun l G3 _ s3 h3 => ?_
      walk_at "r"
      refine rd_joinL (sqL_of h3) (by rw [l2]; omega) ?_
      walk_at "r"
      refine rd_catS (by simp only [Str.length_append]; omega) ?_
      walk_at "r"
      refine rd_catS (by simp only [Str.length_append]; omega) ?_
      rw [← sList_map vs0]
      exact q G3 ((s1.trans s2).trans s3)
    | @grp w0 ss hw hl hs =>
      obtain ⟨m', a, xs, mm, rfl, h1, _, h3⟩ := tup_at hD
      rcases h3 with _ | ⟨b0, b1⟩
      cases b0.dn.eq_str
      have hlen := b1.length
      rcases hw with rfl | rfl
      · refine rd_ixT (sqT_of h1) (show atI _ ((0 : Nat) : Int) = some _ from atI_nat rfl) ?_
        walk_at "r"
        refine rd_newT (sz_small (by simp)) (fun p1 G1 _ s1 t1 => ?_)
        walk_at "r"
        refine rd_in (sqT_of t1) rfl rfl ?_
        rw [show inV _ _ = false from by decide]
        walk_at "r"
        rw [wd_ne (by decide)]
        walk_at "r"
        rw [wd_ne (by decide)]
        walk_at "r"
        rw [wd_ne (by decide)]
        walk_at "r"
        walk_at "r"
        refine rd_newT (sz_small (by simp)) (fun p2 G2 _ s2 t2 => ?_)
        walk_at "r"
        refine rd_in (sqT_of t2) rfl rfl ?_
        rw [show inV _ _ = false from by decide]
        walk_at "r"
        rw [wd_ne (by decide)]
        walk_at "r"
        refine rd_catS (by omega) ?_
        walk_at "r"
        refine rd_catS (by simp only [Str.length_append]; omega) ?_
        walk_at "r"
        refine rd_slA (s2 _ _ (s1 _ _ h1)) fun b G3 s3 t3 => ?_
        rw [cut_tail] at t3
        refine rd_wkT (sqT_of t3) ?_
        refine lc_dat walk_tup (fun H' s' => sqT_of (s' _ _ t3)) (b1.mono fun _ _ h => ((h.sm s1).sm s2).sm s3) (fun d => .str (rsay n d)) (by omega) (fun x d G4 Q' N' hd hx s4 q1 => ?_) (fun D2 G4 nD2 s4 t4 => ?_)
        · walk_at "r"
          exact ⟨m', _, _, rfl, by omega, hx.sm s4, hs d hd, fun G3 s3 => q1 G3 s3⟩
        · have h0 : ∀ y ∈ ss.map (rsay n), y.length ≤ 1000000 := fun y hy => by
            obtain ⟨z, h1, rfl⟩ := List.mem_map.1 hy
            exact hR z (hs z h1)
          have es : ss.map (fun d => V.str (rsay n d)) = (ss.map (rsay n)).map V.str := by rw [List.map_map]; rfl
          rw [es] at t4
          have lj := joinT_len ((" " : Str) ++ "and" ++ " ") (ss.map (rsay n)) h0
          have ls := len_sum (ss.map (rsay n)) h0
          rw [List.length_map] at lj ls
          have lq : ((" " : Str) ++ "and" ++ " ").length ≤ 5 := by simp only [Str.length_append]; omega
          have lp : ss.length * ((" " : Str) ++ "and" ++ " ").length ≤ 3 * 5 := Nat.mul_le_mul hl.2 lq
          refine rd_joinL (sqL_of t4) (by rw [List.length_map]; omega) ?_
          refine rd_catS (by omega) ?_
          walk_at "r"
          refine rd_catS (by rw [Str.length_append]; omega) ?_
          exact q G4 (((s1.trans s2).trans s3).trans s4)
      · refine rd_ixT (sqT_of h1) (show atI _ ((0 : Nat) : Int) = some _ from atI_nat rfl) ?_
        walk_at "r"
        refine rd_newT (sz_small (by simp)) (fun p1 G1 _ s1 t1 => ?_)
        walk_at "r"
        refine rd_in (sqT_of t1) rfl rfl ?_
        rw [show inV _ _ = false from by decide]
        walk_at "r"
        rw [wd_ne (by decide)]
        walk_at "r"
        rw [wd_ne (by decide)]
        walk_at "r"
        rw [wd_ne (by decide)]
        walk_at "r"
        walk_at "r"
        refine rd_newT (sz_small (by simp)) (fun p2 G2 _ s2 t2 => ?_)
        walk_at "r"
        refine rd_in (sqT_of t2) rfl rfl ?_
        rw [show inV _ _ = false from by decide]
        walk_at "r"
        rw [wd_ne (by decide)]
        walk_at "r"
        refine rd_catS (by omega) ?_
        walk_at "r"
        refine rd_catS (by simp only [Str.length_append]; omega) ?_
        walk_at "r"
        refine rd_slA (s2 _ _ (s1 _ _ h1)) fun b G3 s3 t3 => ?_
        rw [cut_tail] at t3
        refine rd_wkT (sqT_of t3) ?_
        refine lc_dat walk_tup (fun H' s' => sqT_of (s' _ _ t3)) (b1.mono fun _ _ h => ((h.sm s1).sm s2).sm s3) (fun d => .str (rsay n d)) (by omega) (fun x d G4 Q' N' hd hx s4 q1 => ?_) (fun D2 G4 nD2 s4 t4 => ?_)
        · walk_at "r"
          exact ⟨m', _, _, rfl, by omega, hx.sm s4, hs d hd, fun G3 s3 => q1 G3 s3⟩
        · have h0 : ∀ y ∈ ss.map (rsay n), y.length ≤ 1000000 := fun y hy => by
            obtain ⟨z, h1, rfl⟩ := List.mem_map.1 hy
            exact hR z (hs z h1)
          have es : ss.map (fun d => V.str (rsay n d)) = (ss.map (rsay n)).map V.str := by rw [List.map_map]; rfl
          rw [es] at t4
          have lj := joinT_len ((" " : Str) ++ "or" ++ " ") (ss.map (rsay n)) h0
          have ls := len_sum (ss.map (rsay n)) h0
          rw [List.length_map] at lj ls
          have lq : ((" " : Str) ++ "or" ++ " ").length ≤ 5 := by simp only [Str.length_append]; omega
          have lp : ss.length * ((" " : Str) ++ "or" ++ " ").length ≤ 3 * 5 := Nat.mul_le_mul hl.2 lq
          refine rd_joinL (sqL_of t4) (by rw [List.length_map]; omega) ?_
          refine rd_catS (by omega) ?_
          walk_at "r"
          refine rd_catS (by rw [Str.length_append]; omega) ?_
          exact q G4 (((s1.trans s2).trans s3).trans s4)
theorem ok_law_ofS (T : Txt K mg) (h_law_pull : Ok P w K mg base 1 "_law_pull" ["_law_bag_here", "_law_sides"] spPull) : Ok P w K mg base 2 "_law_of" ["_law_bag_here", "_law_some"] spOfS := by
  refine Ok.mk T.F_law_of T.g_law_of sc_law_of (fun _ _ _ _ _ _ us hl => match us, hl with | [_, _], _ => rfl) (fun vs H Q E h => ?_) (fun cdv A outer s H vs Q E hr h => ?_)
  · obtain ⟨a, c, ns, z, rfl, _⟩ := h
    rfl
  · obtain ⟨a, c, ns, z, rfl, hB, z0, z1, k⟩ := h
    refine ⟨_, (pss_one (ps_ret (pe_ix ix_str (pv 1) (pe_ok h_law_pull (hr.mono (by omega)) (by rfl) (pa_cons (pv 0) (pa_cons (pe_callB c_len (by rfl) T.b_len (by decide +kernel) (pa_cons (pv 1) pa_nil)) pa_nil))) (fun _ _ => rfl)))), ?_⟩
    walk_at "r"
    refine rd_lenS (sz_small (by omega)) ?_
    walk_at "r"
    refine ⟨a, c, ns, _, rfl, hB, by omega, by omega, fun d H1 h0 h1 x1 B1 => ?_⟩
    have hl : d.toNat < z.cps.toList.length := by rw [Array.length_toList]; show d.toNat < z.length; omega
    have e : ((d.toNat : Nat) : Int) = d := by omega
    have hq : atI z.cps.toList ((d.toNat : Nat) : Int) = some z.cps.toList[d.toNat] := atI_nat (List.getElem?_eq_getElem hl)
    rw [e] at hq
    exact ⟨z, d, z.cps.toList[d.toNat], rfl, rfl, sz_small (by omega), hq, k _ H1 (List.getElem_mem hl) x1 B1⟩
theorem ok_law_any_name (T : Txt K mg) (h_law_pull : Ok P w K mg base 1 "_law_pull" ["_law_bag_here", "_law_sides"] spPull) (h_law_of : Ok P w K mg base 2 "_law_of" ["_law_bag_here", "_law_some"] spOfS) : Ok P w K mg base 3 "_law_any_name" ["_law_bag_here"] spAnyName := by
  refine Ok.mk T.F_law_any_name T.g_law_any_name sc_law_any_name (fun _ _ _ _ _ _ us hl => match us, hl with | [_], _ => rfl) (fun vs H Q E h => ?_) (fun cdv A outer s H vs Q E hr h => ?_)
  · obtain ⟨a, c, ns, rfl, _⟩ := h
    rfl
  · obtain ⟨a, c, ns, rfl, hB, k⟩ := h
    refine ⟨_, (pss_cons (ps_set (i := 1) sc_law_any_name.nd rfl (.inr rfl) pe_str)
      (pss_cons (ps_set (i := 2) sc_law_any_name.nd rfl (.inl rfl) (pe_joinS pe_str (pe_lc (own := [("_law_k", 3)]) (by rfl) sc_law_any_name.nd (pi_range1 (by rfl) T.b_range (pa_cons (pe_op op_add pe_int (pe_ok h_law_pull (hr.mono (by omega)) (by rfl) (pa_cons (pv 0) (pa_cons pe_int pa_nil)))) pa_nil)) (blkOk_by (own := [("_law_k", 3)]) (N := ["_law_bag_here", "_law_letters", "_law_found", "_law_k"]) (sc := defScope s_law_any_name) (by decide +kernel)) (fun _ _ _ _ _ => (pg_name (i := 3) sc_law_any_name.nd rfl (.inl rfl))) (fun _ _ _ _ _ => pts_nil) (fun _ _ _ _ _ => (pe_ok h_law_of (hr.mono (by omega)) (by rfl) (pa_cons (pv 0) (pa_cons (pv 1) pa_nil)))))))
      (pss_one (ps_ret (pe_ifExp (pt_cmpR op_in_seq (pv 2) (pe_tup (pa_cons pe_str (pa_cons pe_str (pa_cons pe_str (pa_cons pe_str pa_nil))))) (by rfl)) pe_str (pv 2)))))), ?_⟩
    walk_at "st"
    walk_at "r"
    refine ⟨a, c, ns, _, rfl, hB, by decide, by decide, fun m H1 m0 m1 x1 B1 => ?_⟩
    walk_at "r"
    refine rd_wkR ⟨by omega, by omega⟩ ?_
    refine lc_bag (walk_range (lo := 0) (n := (4 + m).toNat)) B1 (fun _ _ => trivial) (fun v => ∃ z : Str, v = V.str z ∧ z.length = 1 ∧ ∀ c ∈ z.cps.toList, 97 ≤ c ∧ c ≤ 122) (fun xs h => bag_nint fun x hx i e => by obtain ⟨z, rfl, _⟩ := h x hx; cases e) (by omega) (fun i x H2 H3 Q' N' hi e2 B2 y q1 => ?_) (fun D H2 xs nD e2 B2 h2 hl hx => ?_)
    · obtain ⟨rfl, rfl⟩ := y
      walk_at "r"
      refine ⟨a, c, ns, _, rfl, B2, by decide, by decide, fun e H4 he x4 B4 => q1 _ H4 ⟨_, rfl, rfl, fun c hc => ?_⟩ x4 B4⟩
      cases List.mem_singleton.mp (show c ∈ [e] from hc)
      have : ∀ e ∈ ("abcdefghijklmnopqrstuvwxyz" : Str).cps.toList, 97 ≤ e ∧ e ≤ 122 := by decide +kernel
      exact this _ he
    · obtain ⟨ys, rfl, hy⟩ : ∃ ys : List Str, xs = ys.map V.str ∧ ∀ y ∈ ys, y.length = 1 ∧ ∀ c ∈ y.cps.toList, 97 ≤ c ∧ c ≤ 122 := by
        clear h2 hl
        induction xs with
        | nil => exact ⟨[], rfl, fun y h => by cases h⟩
        | cons x xs ih =>
          obtain ⟨ys, rfl, hs⟩ := ih fun y hy => hx y (List.mem_cons_of_mem _ hy)
          obtain ⟨z, rfl, hz⟩ := hx _ (List.mem_cons_self ..)
          refine ⟨z :: ys, rfl, fun y hy => ?_⟩
          rcases List.mem_cons.mp hy with rfl | hy
          · exact hz
          · exact hs y hy
      rw [List.length_map] at hl
      have ls := len_sum (B := 1) ys fun y h => by rw [(hy y h).1]; exact Nat.le_refl _
      have l0 : ("" : Str).length = 0 := by decide
      refine rd_joinL (sqL_of h2) (by rw [l0]; omega) ?_
      obtain ⟨j1, j2⟩ := join_empty ys hy
      have ej : Txt.join "" ys = PySem.Str.join "" ys := StrLaws.glued_eq_join "" ys
      rw [ej]
      generalize PySem.Str.join "" ys = z at j1 j2
      walk_at "r"
      refine rd_newT (sz_small (by simp)) (fun p3 H3 _ s3 t3 => ?_)
      walk_at "r"
      refine rd_in (sqT_of t3) rfl rfl ?_
      have x3 := (x1.trans e2).trans (Ext.of s3)
      walk_at "r"
      refine rd_bool (fun hb => ?_) (fun hb => ?_)
      · walk_at "r"
        exact k _ H3 ⟨by decide, by decide, by decide +kernel, by decide, by decide, by decide, by decide⟩ x3 (B2.same s3)
      · walk_at "r"
        have nz : ∀ u : Str, V.str u ∈ [V.str "some", V.str "floor", V.str "under", V.str "leaves"] → z ≠ u := fun u hu e => by
          subst e
          have : inV (V.str z) [V.str "some", V.str "floor", V.str "under", V.str "leaves"] = true := List.any_eq_true.mpr ⟨_, hu, by show (z == z) = true; exact beq_self_eq_true z⟩
          rw [hb] at this
          cases this
        exact k z H3 ⟨by omega, by omega, j2, nz _ (by simp), nz _ (by simp), nz _ (by simp), nz _ (by simp)⟩ x3 (B2.same s3)
theorem ok_law_any_atom (T : Txt K mg) (h_law_pull : Ok P w K mg base 1 "_law_pull" ["_law_bag_here", "_law_sides"] spPull) (h_law_of : Ok P w K mg base 2 "_law_of" ["_law_bag_here", "_law_some"] (spOf K)) (h_law_any_slope : Ok P w K mg base 2 "_law_any_slope" ["_law_bag_here"] spAnySlope)
    (h_law_any_term : Ok P w K mg base 6 "_law_any_term" ["_law_bag_here", "_law_names", "_law_deep"] fun vs H Q E => ∃ n, n ≤ 3 ∧ spAnyTerm n vs H Q E) (h_law_any_name : Ok P w K mg base 3 "_law_any_name" ["_law_bag_here"] spAnyName) :
    Ok P w K mg base 7 "_law_any_atom" ["_law_bag_here", "_law_names"] spAnyAtom := by
  refine Ok.mk T.F_law_any_atom T.g_law_any_atom sc_law_any_atom (fun _ _ _ _ _ _ us hl => match us, hl with | [_, _], _ => rfl) (fun vs H Q E h => ?_) (fun cdv A outer s H vs Q E hr h => ?_)
  · obtain ⟨a, c, l, ns, nms, rfl, _⟩ := h
    rfl
  · obtain ⟨a, c, l, ns, nms, rfl, hB, hl, hln, hn, bn, R, k⟩ := h
    have hg := good_of (by omega) hn
    refine ⟨_, (pss_cons (ps_set (i := 2) sc_law_any_atom.nd rfl (.inl rfl) (pe_ok h_law_pull (hr.mono (by omega)) (by rfl) (pa_cons (pv 0) (pa_cons pe_int pa_nil))))
      (pss_cons (ps_par (by rfl) sc_law_any_atom.nd (i := 3) (j := 4) rfl rfl (by decide) rfl rfl (pa_cons (pe_ok h_law_any_term (hr.mono (by omega)) (by rfl) (pa_cons (pv 0) (pa_cons (pv 1) (pa_cons (pe_ok h_law_of (hr.mono (by omega)) (by rfl) (pa_cons (pv 0) (pa_cons (pe_lst (pa_cons pe_int (pa_cons pe_int (pa_cons pe_int (pa_cons pe_int pa_nil))))) pa_nil))) pa_nil)))) (pa_cons (pe_ok h_law_any_term (hr.mono (by omega)) (by rfl) (pa_cons (pv 0) (pa_cons (pv 1) (pa_cons (pe_ok h_law_of (hr.mono (by omega)) (by rfl) (pa_cons (pv 0) (pa_cons (pe_lst (pa_cons pe_int (pa_cons pe_int pa_nil))) pa_nil))) pa_nil)))) pa_nil)) (by rfl))
      (pss_cons (ps_if (pt_cmpR op_eq (pv 2) pe_int (nomark _)) (pss_one (ps_ret (pe_tup (pa_cons pe_str (pa_cons (pv 3) (pa_cons (pe_ok h_law_any_slope (hr.mono (by omega)) (by rfl) (pa_cons (pv 0) pa_nil)) (pa_cons (pv 4) pa_nil))))))) pss_nil)
      (pss_cons (ps_if (pt_cmpR op_eq (pv 2) pe_int (nomark _)) (pss_cons (ps_set (i := 5) sc_law_any_atom.nd rfl (.inl rfl) (pe_op op_add pe_int (pe_ok h_law_pull (hr.mono (by omega)) (by rfl) (pa_cons (pv 0) (pa_cons pe_int pa_nil)))))
      (pss_one (ps_ret (pe_tup (pa_cons pe_str (pa_cons (pv 3) (pa_cons (pv 5) (pa_cons (pe_ok h_law_pull (hr.mono (by omega)) (by rfl) (pa_cons (pv 0) (pa_cons (pv 5) pa_nil))) pa_nil)))))))) pss_nil)
      (pss_cons (ps_if (pt_cmpR op_eq (pv 2) pe_int (nomark _)) (pss_one (ps_ret (pe_tup (pa_cons pe_str (pa_cons (pe_ok h_law_any_name (hr.mono (by omega)) (by rfl) (pa_cons (pv 0) pa_nil)) (pa_cons (pe_tupleOf (by rfl) T.b_tuple (pe_lc (own := [("_law_k", 6)]) (by rfl) sc_law_any_atom.nd (pi_range1 (by rfl) T.b_range (pa_cons (pe_ok h_law_pull (hr.mono (by omega)) (by rfl) (pa_cons (pv 0) (pa_cons pe_int pa_nil))) pa_nil)) (blkOk_by (own := [("_law_k", 6)]) (N := ["_law_bag_here", "_law_names", "_law_way", "_law_one", "_law_two", "_law_modulus", "_law_k"]) (sc := defScope s_law_any_atom) (by decide +kernel)) (fun _ _ _ _ _ => (pg_name (i := 6) sc_law_any_atom.nd rfl (.inl rfl))) (fun _ _ _ _ _ => (pts_one (pt_cmpR (op_neDK (K := K) rfl hr.units) (pv 1) (pe_lst pa_nil) (nomark _)))) (fun _ _ _ _ _ => (pe_ok h_law_of (hr.mono (by omega)) (by rfl) (pa_cons (pv 0) (pa_cons (pv 1) pa_nil)))))) pa_nil)))))) pss_nil)
      (pss_one (ps_ret (pe_tup (pa_cons (pe_ifExp (pt_cmpR op_eq (pe_op op_mod (pe_callTy c_int (by rfl) T.b_int (by decide +kernel) (pa_cons (pv 2) pa_nil)) pe_int) pe_int (nomark _)) pe_str pe_str) (pa_cons (pv 3) (pa_cons (pv 4) pa_nil))))))))))), ?_⟩
    walk_at "st"
    walk_at "r"
    refine ⟨a, c, ns, _, rfl, hB, by decide, by decide, fun wy H1 w0 w1 x1 B1 => ?_⟩
    walk_at "r"
    refine rd_newL (by show 4 ≤ sizeLine; decide) fun t0 H2 _ s2 h2 => ?_
    walk_at "r"
    refine ⟨a, c, t0, ns, _, rfl, B1.same s2, sqL_of h2, rfl, by decide, by decide, fun v H3 hv x3 B3 => ?_⟩
    obtain ⟨j, rfl, hj⟩ : ∃ j : Nat, v = .int j ∧ j ≤ 3 := by
      simp only [List.mem_cons, List.not_mem_nil, or_false] at hv
      rcases hv with rfl | rfl | rfl | rfl
      · exact ⟨0, rfl, by decide⟩
      · exact ⟨0, rfl, by decide⟩
      · exact ⟨1, rfl, by decide⟩
      · exact ⟨3, rfl, by decide⟩
    walk_at "r"
    have y3 := (x1.trans (Ext.of s2)).trans x3
    refine ⟨j, hj, a, c, l, ns, nms, rfl, B3, y3 _ _ hl (bag_strs _), hg, fun v1 d1 H4 x4 B4 dt1 gt1 => ?_⟩
    walk_at "r"
    refine rd_newL (by show 2 ≤ sizeLine; decide) fun t1 H5 _ s5 h5 => ?_
    walk_at "r"
    refine ⟨a, c, t1, ns, _, rfl, B4.same s5, sqL_of h5, rfl, by decide, by decide, fun v H6 hv x6 B6 => ?_⟩
    obtain ⟨i, rfl, hi⟩ : ∃ i : Nat, v = .int i ∧ i ≤ 1 := by
      simp only [List.mem_cons, List.not_mem_nil, or_false] at hv
      rcases hv with rfl | rfl
      · exact ⟨0, rfl, by decide⟩
      · exact ⟨1, rfl, by decide⟩
    walk_at "r"
    have y6 := ((y3.trans x4).trans (Ext.of s5)).trans x6
    refine ⟨i, by omega, a, c, l, ns, nms, rfl, B6, y6 _ _ hl (bag_strs _), hg, fun v2 d2 H7 x7 B7 dt2 gt2 => ?_⟩
    have y7 := y6.trans x7
    have D1 : Dt 18 H7 v1 d1 := (dt1.keep (Tps.of (((Ext.of s5).trans x6).trans x7))).up (by omega)
    have D2 : Dt 18 H7 v2 d2 := dt2.up (by omega)
    have G1 : GTerm nms 3 d1 := gt1.mono (fun _ h => h) hj
    have G2 : GTerm nms 1 d2 := gt2.mono (fun _ h => h) hi
    have L7 := y7 _ _ hl (bag_strs _)
    clear dt1 dt2 gt1 gt2 x7 x6 h5 s5 x4 x3 h2 s2 x1 hB B1 B3 B4 B6 y6 y3
    walk_at "r"
    refine rd_dec (fun e2 => ?_) (fun e2 => ?_)
    · walk_at "r"
      refine ⟨a, c, ns, rfl, B7, fun sv i1 j1 k1 H8 hs x8 B8 ds => ?_⟩
      walk_at "r"
      refine rd_newT (sz_small (by simp)) fun p H9 _ s9 h9 => ?_
      have t9 : Tps H7 H9 := Tps.of (x8.trans (Ext.of s9))
      exact k _ _ H9 ((y7.trans x8).trans (Ext.of s9)) (B8.same s9) (Dt.up (n := 19) (Dt.tup h9 (.cons (Dt.str (by decide +kernel) (by decide)) (.cons (D1.keep t9) (.cons ((ds.sm s9).up (by decide)) (.cons (D2.keep t9) .nil)))) (by simp)) (by decide)) (.und G1 ⟨by omega, by omega, by omega, by omega⟩ G2)
    · walk_at "r"
      refine rd_dec (fun e3 => ?_) (fun e3 => ?_)
      · walk_at "r"
        refine ⟨a, c, ns, _, rfl, B7, by decide, by decide, fun mo H8 m0 m1 x8 B8 => ?_⟩
        walk_at "r"
        refine ⟨a, c, ns, _, rfl, B8, by omega, by omega, fun re H9 r0 r1 x9 B9 => ?_⟩
        walk_at "r"
        refine rd_newT (sz_small (by simp)) fun p H10 _ s10 h10 => ?_
        have t9 : Tps H7 H10 := Tps.of ((x8.trans x9).trans (Ext.of s10))
        exact k _ _ H10 (((y7.trans x8).trans x9).trans (Ext.of s10)) (B9.same s10) (Dt.up (n := 19) (Dt.tup h10 (.cons (Dt.str (by decide +kernel) (by decide)) (.cons (D1.keep t9) (.cons (Dt.int _) (.cons (Dt.int _) .nil)))) (by simp)) (by decide)) (.lea G1 (by omega) (by omega))
      · walk_at "r"
        refine rd_dec (fun e4 => ?_) (fun e4 => ?_)
        · walk_at "r"
          refine ⟨a, c, ns, rfl, B7, fun z H8 hz x8 B8 => ?_⟩
          walk_at "r"
          refine ⟨a, c, ns, _, rfl, B8, by decide, by decide, fun mo H9 m0 m1 x9 B9 => ?_⟩
          walk_at "r"
          have L9 := x9 _ _ (x8 _ _ L7 (bag_strs _)) (bag_strs _)
          refine rd_wkR ⟨by omega, by omega⟩ ?_
          refine lc_bagD (walk_range (lo := 0) (n := mo.toNat)) B9 (fun _ _ => trivial) (fun _ v => ∃ z, v = V.str z ∧ z ∈ nms) (fun _ xs h => bag_nint fun x hx i e => by obtain ⟨z, rfl, _⟩ := h x hx; cases e) (fun _ _ _ _ h => h) True (by omega) (fun i x G1 G2 Q' N' hi e2 B2 y q1 q2 => ?_) (fun D G1 xs nD e1 B1 h1 hle hun hx => ?_)
          · obtain ⟨rfl, rfl⟩ := y
            have Lg := e2 _ _ L9 (bag_strs _)
            walk_at "r"
            refine rd_newL (by show 0 ≤ sizeLine; decide) fun t2 G3 nt2 u3 g3 => ?_
            walk_at "r"
            refine rd_neD (n := 1) (m := 1) (by decide) (by decide) (dn_strs (u3 _ _ Lg) hg) (Dn.lst g3 rfl .nil (by decide)) ?_
            walk_at "r"
            rw [eqv_nil]
            refine rd_nbool (fun en => ?_) (fun en => ?_)
            · have hne : nms.map V.str ≠ [] := fun z => by
                rw [List.map_eq_nil_iff] at z
                subst z
                cases en
              have hsz : (nms.map V.str).length < 1073741824 := by rw [List.length_map]; omega
              walk_at "r"
              refine ⟨a, c, l, ns, _, rfl, B2.same u3, sqL_of (u3 _ _ Lg), bag_strs _, hne, hsz, fun v G4 hv y2 B8 => ?_⟩
              refine q1 v G4 ?_ ((Ext.of u3).trans y2) B8
              obtain ⟨z, hz, e⟩ := List.mem_map.mp hv
              exact ⟨z, e.symm, hz⟩
            · exact q2 G3 trivial (Ext.of u3) (B2.same u3)
          · obtain ⟨vs, rfl, hv⟩ : ∃ vs : List Str, xs = vs.map V.str ∧ ∀ z ∈ vs, z ∈ nms := by
              clear h1 hle hun
              induction xs with
              | nil => exact ⟨[], rfl, fun y h => by cases h⟩
              | cons x xs ih =>
                obtain ⟨ys, rfl, hs⟩ := ih fun y hy => hx y (List.mem_cons_of_mem _ hy)
                obtain ⟨z, rfl, hz⟩ := hx _ (List.mem_cons_self ..)
                refine ⟨z :: ys, rfl, fun y hy => ?_⟩
                rcases List.mem_cons.mp hy with rfl | hy
                · exact hz
                · exact hs y hy
            rw [List.length_map] at hle
            refine rd_kTupL (sqL_of h1) fun t2 G2 _ u2 g2 => ?_
            walk_at "r"
            refine rd_newT (sz_small (by simp)) fun p G3 _ u3 g3 => ?_
            have ps : Paired (Dt 18 G3) (vs.map V.str) (vs.map PyData.str) := by
              have hv' : ∀ z ∈ vs, z ∈ nmA := fun z hz => hn z (hv z hz)
              clear h1 hle hx g2 g3 hv hun
              induction vs with
              | nil => exact .nil
              | cons z r ih => exact .cons (Dt.str (nmA_ok z (hv' z (List.mem_cons_self ..))) (by have := (nmA_small z (hv' z (List.mem_cons_self ..))).2; omega)) (ih fun y hy => hv' y (List.mem_cons_of_mem _ hy))
            have sz := hz.sm
            refine k _ (.tuple [.str "use", .str z, .tuple (vs.map PyData.str)]) G3 (((((y7.trans x8).trans x9).trans e1).trans (Ext.of u2)).trans (Ext.of u3)) ((B1.same u2).same u3) (Dt.tup g3 (.cons (Dt.str (by decide +kernel) (by decide)) (.cons (Dt.str sz.2.2 (by have := sz.2.1; omega)) (.cons (Dt.tup (u3 _ _ g2) ps (by rw [List.length_map]; omega)) .nil))) (by simp)) (.use hz (by omega) hv)
        · walk_at "r"
          refine rd_intI ?_
          walk_at "r"
          refine rd_I (by decide) ?_
          walk_at "r"
          have fin : ∀ (w : Str) (p : Addr) (H9 : Hp), w = "equal" ∨ w = "less" → Same H7 H9 → H9 p = some (.tup [.str w, v1, v2]) → Q (.ref p) H9 := fun w p H9 hw s9 h9 => by
            have so : PyData.strOk w = true := by rcases hw with rfl | rfl <;> decide +kernel
            have sl : w.length ≤ 16000000 := by rcases hw with rfl | rfl <;> decide
            exact k _ _ H9 (y7.trans (Ext.of s9)) (B7.same s9) (Dt.up (n := 19) (Dt.tup h9 (.cons (Dt.str so sl) (.cons (D1.sm s9) (.cons (D2.sm s9) .nil))) (by simp)) (by decide)) (.cmp hw G1 G2)
          refine rd_dec (fun e5 => ?_) (fun e5 => ?_)
          · walk_at "r"
            exact rd_newT (sz_small (by simp)) fun p H9 _ s9 h9 => fin _ p H9 (.inl rfl) s9 h9
          · walk_at "r"
            exact rd_newT (sz_small (by simp)) fun p H9 _ s9 h9 => fin _ p H9 (.inr rfl) s9 h9
theorem ok_law_any_saying1 (T : Txt K mg) (n : Nat) {spR : Sp} (h_law_pull : Ok P w K mg base 1 "_law_pull" ["_law_bag_here", "_law_sides"] spPull) (h_law_of : Ok P w K mg base 2 "_law_of" ["_law_bag_here", "_law_some"] (spOf K)) (h_law_any_atom : Ok P w K mg base 7 "_law_any_atom" ["_law_bag_here", "_law_names"] spAnyAtom)
    (h_law_any_saying : Ok P w K mg base (7 + n) "_law_any_saying" ["_law_bag_here", "_law_names", "_law_bound", "_law_deep"] spR) (hR : ∀ j, n = j + 1 → ∀ vs H Q E, spAnySay j vs H Q E → spR vs H Q E) :
    Ok P w K mg base (8 + n) "_law_any_saying" ["_law_bag_here", "_law_names", "_law_bound", "_law_deep"] (spAnySay n) := by
  refine Ok.mono (Ok.mk (k := 7 + n) T.F_law_any_saying T.g_law_any_saying sc_law_any_saying (fun _ _ _ _ _ _ us hl => match us, hl with | [_, _, _, _], _ => rfl) (fun vs H Q E h => ?_) (fun cdv A outer s H vs Q E hr h => ?_)) (by omega)
  · obtain ⟨a, c, l, lb, ns, nms, bnd, rfl, _⟩ := h
    rfl
  · obtain ⟨a, c, l, lb, ns, nms, bnd, rfl, hB, hl, hlb, hln, hn, hbn, k⟩ := h
    refine ⟨_, (pss_cons (ps_set (i := 4) sc_law_any_saying.nd rfl (.inl rfl) (pe_ok h_law_pull (hr.mono (by omega)) (by rfl) (pa_cons (pv 0) (pa_cons pe_int pa_nil))))
      (pss_cons (ps_if (PW.pt (pw_or (pt_cmpR op_eq (pv 3) pe_int (nomark _)) (pw_or1 (pt_cmpR op_eq (pv 4) pe_int (nomark _))))) (pss_one (ps_ret (pe_ok h_law_any_atom (hr.mono (by omega)) (by rfl) (pa_cons (pv 0) (pa_cons (pv 1) pa_nil))))) pss_nil)
      (pss_cons (ps_if (pt_cmpR op_eq (pv 4) pe_int (nomark _)) (pss_one (ps_ret (pe_tup (pa_cons pe_str (pa_cons (pe_ok h_law_any_saying (hr.mono (by omega)) (by rfl) (pa_cons (pv 0) (pa_cons (pv 1) (pa_cons (pv 2) (pa_cons (pe_op op_sub (pv 3) pe_int) pa_nil))))) pa_nil))))) pss_nil)
      (pss_cons (ps_if (PW.pt (pw_and (pt_cmpR op_lt (pv 4) pe_int (nomark _)) (pw_and1 (pt_cmpR (op_neD hr.units) (pv 2) (pe_lst pa_nil) (nomark _))))) (pss_cons (ps_set (i := 5) sc_law_any_saying.nd rfl (.inl rfl) (pe_ok h_law_of (hr.mono (by omega)) (by rfl) (pa_cons (pv 0) (pa_cons (pe_lst (pa_cons pe_str (pa_cons pe_str pa_nil))) pa_nil))))
      (pss_one (ps_ret (pe_tup (pa_cons (pv 5) (pa_cons (pe_ix ix_list (pv 2) pe_int (fun _ _ => rfl)) (pa_cons (pe_ok h_law_any_saying (hr.mono (by omega)) (by rfl) (pa_cons (pv 0) (pa_cons (pe_op op_cat (pv 1) (pe_slice sl_list (pv 2) po_none (po_some pe_int))) (pa_cons (pe_slice sl_list (pv 2) (po_some pe_int) po_none) (pa_cons (pe_op op_sub (pv 3) pe_int) pa_nil))))) pa_nil))))))) pss_nil)
      (pss_cons (ps_par (by rfl) sc_law_any_saying.nd (i := 5) (j := 6) rfl rfl (by decide) rfl rfl (pa_cons (pe_ok h_law_of (hr.mono (by omega)) (by rfl) (pa_cons (pv 0) (pa_cons (pe_lst (pa_cons pe_str (pa_cons pe_str pa_nil))) pa_nil))) (pa_cons (pe_ok h_law_of (hr.mono (by omega)) (by rfl) (pa_cons (pv 0) (pa_cons (pe_lst (pa_cons pe_int (pa_cons pe_int (pa_cons pe_int pa_nil)))) pa_nil))) pa_nil)) (by rfl))
      (pss_one (ps_ret (pe_op op_catA (pe_tup (pa_cons (pv 5) pa_nil)) (pe_tupleOf (by rfl) T.b_tuple (pe_lc (own := [("_law_k", 7)]) (by rfl) sc_law_any_saying.nd (pi_range1 (by rfl) T.b_range (pa_cons (pv 6) pa_nil)) (blkOk_by (own := [("_law_k", 7)]) (N := ["_law_bag_here", "_law_names", "_law_bound", "_law_deep", "_law_way", "_law_word", "_law_many", "_law_k"]) (sc := defScope s_law_any_saying) (by decide +kernel)) (fun _ _ _ _ _ => (pg_name (i := 7) sc_law_any_saying.nd rfl (.inl rfl))) (fun _ _ _ _ _ => pts_nil) (fun _ _ _ _ _ => (pe_ok h_law_any_saying (hr.mono (by omega)) (by rfl) (pa_cons (pv 0) (pa_cons (pv 1) (pa_cons (pv 2) (pa_cons (pe_op op_sub (pv 3) pe_int) pa_nil)))))))))))))))), ?_⟩
    walk_at "st"
    walk_at "r"
    refine ⟨a, c, ns, _, rfl, hB, by decide, by decide, fun wy H1 w0 w1 x1 B1 => ?_⟩
    have l1 := x1 _ _ hl (bag_strs _)
    have lb1 := x1 _ _ hlb (bag_strs _)
    walk_at "r"
    refine rd_dec (fun e0 => ?_) (fun e0 => ?_)
    · walk_at "r"
      refine ⟨a, c, l, ns, nms, rfl, B1, l1, by omega, hn, bnd, RDSay n, fun v d H2 x2 B2 d2 g2 => ?_⟩
      refine k v d H2 (x1.trans x2) B2 (d2.up (by omega)) ?_
      rw [DSay_eq]
      exact g2
    · have n0 : n ≠ 0 := fun z => e0 (by subst z; rfl)
      obtain ⟨j, rfl⟩ : ∃ j, n = j + 1 := ⟨n - 1, by omega⟩
      have ej : ((j + 1 : Nat) : Int) - 1 = (j : Int) := by omega
      walk_at "r"
      refine rd_dec (fun e1 => ?_) (fun e1 => ?_)
      · walk_at "r"
        refine ⟨a, c, l, ns, nms, rfl, B1, l1, by omega, hn, bnd, RDSay (j + 1), fun v d H2 x2 B2 d2 g2 => ?_⟩
        refine k v d H2 (x1.trans x2) B2 (d2.up (by omega)) ?_
        rw [DSay_eq]
        exact g2
      · walk_at "r"
        refine rd_dec (fun e2 => ?_) (fun e2 => ?_)
        · walk_at "r"
          refine hR j rfl _ _ _ _ ⟨a, c, l, lb, ns, nms, bnd, (by show [V.ref a, V.ref l, V.ref lb, V.int (((j + 1 : Nat) : Int) - 1)] = _; rw [ej]), B1, l1, lb1, hln, hn, hbn, fun v d H2 x2 B2 d2 g2 => ?_⟩
          walk_at "r"
          refine rd_newT (sz_small (by simp)) fun p H3 _ s3 h3 => ?_
          exact k _ _ H3 ((x1.trans x2).trans (Ext.of s3)) (B2.same s3) (Dt.tup (n := 20 + j) h3 (.cons (Dt.str (by decide +kernel) (by decide)) (.cons (d2.sm s3) .nil)) (by simp)) (.neg g2)
        · walk_at "r"
          refine rd_dec (fun e3 => ?_) (fun e3 => ?_)
          · walk_at "r"
            refine rd_newL (by show 0 ≤ sizeLine; decide) fun t2 H2 nt2 u2 g2 => ?_
            walk_at "r"
            refine rd_neD (n := 1) (m := 1) (by decide) (by decide) (dn_strs (u2 _ _ lb1) (good_of (by omega) hbn)) (Dn.lst g2 rfl .nil (by decide)) ?_
            walk_at "r"
            rw [eqv_nil]
            refine rd_nbool (fun en => ?_) (fun en => ?_)
            · cases bnd with
              | nil => cases en
              | cons b0 br =>
                walk_at "r"
                refine rd_newL (by show 2 ≤ sizeLine; decide) fun t3 H3 _ s3 h3 => ?_
                walk_at "r"
                refine ⟨a, c, t3, ns, _, rfl, (B1.same u2).same s3, sqL_of h3, rfl, by decide, by decide, fun v H4 hv x4 B4 => ?_⟩
                obtain ⟨wd, rfl, hw⟩ : ∃ w : Str, v = .str w ∧ (w = "some" ∨ w = "all") := by
                  simp only [List.mem_cons, List.not_mem_nil, or_false] at hv
                  rcases hv with rfl | rfl
                  · exact ⟨_, rfl, .inl rfl⟩
                  · exact ⟨_, rfl, .inr rfl⟩
                have so : PyData.strOk wd = true := by rcases hw with rfl | rfl <;> decide +kernel
                have sl : wd.length ≤ 16000000 := by rcases hw with rfl | rfl <;> decide
                have y4 := ((Ext.of u2).trans (Ext.of s3)).trans x4
                have l4 := y4 _ _ l1 (bag_strs _)
                have lb4 := y4 _ _ lb1 (bag_strs _)
                walk_at "r"
                refine rd_ixL (sqL_of lb4) (show atI _ ((0 : Nat) : Int) = some _ from atI_nat rfl) ?_
                walk_at "r"
                refine rd_slL (sqL_of lb4) fun p5 H5 _ s5 h5 => ?_
                have c1 : cutV ((b0 :: br).map V.str) none (some 1) = [V.str b0] := by
                  unfold cutV
                  have e1 : HT.sIx ((b0 :: br).map V.str).length 0 none = 0 := rfl
                  have e2 : HT.sIx ((b0 :: br).map V.str).length ((b0 :: br).map V.str).length (some 1) = 1 := by
                    have := HT.sIx_nat ((b0 :: br).map V.str).length ((b0 :: br).map V.str).length 1
                    rw [show ((1 : Nat) : Int) = 1 from rfl] at this
                    rw [this, List.map_cons, List.length_cons]
                    omega
                  rw [e1, e2]
                  rfl
                rw [c1] at h5
                refine rd_cat (s5 _ _ l4) h5 (sz_small (by simp; omega)) fun p6 H6 _ s6 h6 => ?_
                walk_at "r"
                refine rd_slL (sqL_of (s6 _ _ (s5 _ _ lb4))) fun p7 H7 _ s7 h7 => ?_
                rw [List.map_cons, cut_tail] at h7
                walk_at "r"
                have y7 := ((y4.trans (Ext.of s5)).trans (Ext.of s6)).trans (Ext.of s7)
                have B7 : Bag a c ns H7 := ((B4.same s5).same s6).same s7
                simp only [List.length_cons] at hln
                refine hR j rfl _ _ _ _ ⟨a, c, p6, p7, ns, nms ++ [b0], br, (by show [V.ref a, V.ref p6, V.ref p7, V.int (((j + 1 : Nat) : Int) - 1)] = _; rw [ej]), B7, by rw [List.map_append]; exact s7 _ _ h6, h7, by simp; omega, fun z hz => ?_, fun z hz => hbn z (List.mem_cons_of_mem _ hz), fun v d H8 x8 B8 d8 g8 => ?_⟩
                · rcases List.mem_append.mp hz with hz | hz
                  · exact hn z hz
                  · rw [List.mem_singleton.mp hz]
                    exact hbn _ (List.mem_cons_self ..)
                · walk_at "r"
                  refine rd_newT (sz_small (by simp)) fun p H9 _ s9 h9 => ?_
                  have b0s := nmA_sm b0 (hbn _ (List.mem_cons_self ..))
                  exact k _ _ H9 (((x1.trans y7).trans x8).trans (Ext.of s9)) (B8.same s9) (Dt.tup (n := 20 + j) h9 (.cons (Dt.str so sl) (.cons (Dt.str b0s.2.2 (by have := b0s.2.1; omega)) (.cons (d8.sm s9) .nil))) (by simp)) (.bnd hw rfl g8)
            · replace x1 := x1.trans (Ext.of u2)
              replace l1 := u2 _ _ l1
              replace lb1 := u2 _ _ lb1
              replace B1 := B1.same u2
              walk_at "r"
              refine rd_newL (by show 2 ≤ sizeLine; decide) fun t0 F2 _ s2 h2 => ?_
              walk_at "r"
              refine ⟨a, c, t0, ns, _, rfl, B1.same s2, sqL_of h2, rfl, by decide, by decide, fun v F3 hv x3 B3 => ?_⟩
              obtain ⟨wd, rfl, hw⟩ : ∃ w : Str, v = .str w ∧ (w = "and" ∨ w = "or") := by
                simp only [List.mem_cons, List.not_mem_nil, or_false] at hv
                rcases hv with rfl | rfl
                · exact ⟨_, rfl, .inl rfl⟩
                · exact ⟨_, rfl, .inr rfl⟩
              walk_at "r"
              refine rd_newL (by show 3 ≤ sizeLine; decide) fun t1 F4 _ s4 h4 => ?_
              walk_at "r"
              refine ⟨a, c, t1, ns, _, rfl, B3.same s4, sqL_of h4, rfl, by decide, by decide, fun v F5 hv x5 B5 => ?_⟩
              obtain ⟨mn, rfl, hm⟩ : ∃ m : Int, v = .int m ∧ (2 ≤ m ∧ m ≤ 3) := by
                simp only [List.mem_cons, List.not_mem_nil, or_false] at hv
                rcases hv with rfl | rfl | rfl <;> exact ⟨_, rfl, by decide⟩
              have y5 := (((Ext.of s2).trans x3).trans (Ext.of s4)).trans x5
              have l5 := y5 _ _ l1 (bag_strs _)
              have lb5 := y5 _ _ lb1 (bag_strs _)
              have so : PyData.strOk wd = true := by rcases hw with rfl | rfl <;> decide +kernel
              have sl : wd.length ≤ 16000000 := by rcases hw with rfl | rfl <;> decide
              replace y5 := x1.trans y5
              clear x5 h4 s4 x3 h2 s2
              walk_at "r"
              refine rd_newT (sz_small (by simp)) fun t6 F6 _ s6 h6 => ?_
              walk_at "r"
              refine rd_wkR ⟨by omega, by omega⟩ ?_
              refine lc_bagD (walk_range (lo := 0) (n := mn.toNat)) (B5.same s6) (fun _ _ => trivial) (DG (20 + j) (DSay j nms bnd)) (bag_tups fun d h => h.tup) DG.tps False (by omega) (fun i x G1 G2 Q' N' hi e2 B2 y q1 q2 => ?_) (fun D G1 xs nD e7 B7 h7 _ hle hx => ?_)
              · obtain ⟨rfl, rfl⟩ := y
                walk_at "r"
                have z2 := (Ext.of s6).trans e2
                refine hR j rfl _ _ _ _ ⟨a, c, l, lb, ns, nms, bnd, (by show [V.ref a, V.ref l, V.ref lb, V.int (((j + 1 : Nat) : Int) - 1)] = _; rw [ej]), B2, z2 _ _ l5 (bag_strs _), z2 _ _ lb5 (bag_strs _), hln, hn, hbn, fun v d G3 x3 B3 d3 g3 => ?_⟩
                exact q1 v G3 ⟨d, d3, g3⟩ x3 B3
              · obtain ⟨ds, pd, gd⟩ := DG.list hx
                have hlen := hle (fun z => z)
                refine rd_kTupL (sqL_of h7) fun t8 G2 _ s8 h8 => ?_
                refine rd_catA (s8 _ _ (e7 _ _ h6 rfl)) h8 (sz_small (by simp; omega)) fun t9 G3 s9 h9 => ?_
                have lp := pd.length
                exact k _ (.tuple (.str wd :: ds)) G3 (((((y5).trans (Ext.of s6)).trans e7).trans (Ext.of s8)).trans (Ext.of s9)) ((B7.same s8).same s9) (Dt.tup (n := 20 + j) h9 (.cons (Dt.str so sl) (pimp pd fun _ _ z => (z.sm s8).sm s9)) (by simp; omega)) (.grp hw (by omega) gd)
          · walk_at "r"
            refine rd_newL (by show 2 ≤ sizeLine; decide) fun t0 F2 _ s2 h2 => ?_
            walk_at "r"
            refine ⟨a, c, t0, ns, _, rfl, B1.same s2, sqL_of h2, rfl, by decide, by decide, fun v F3 hv x3 B3 => ?_⟩
            obtain ⟨wd, rfl, hw⟩ : ∃ w : Str, v = .str w ∧ (w = "and" ∨ w = "or") := by
              simp only [List.mem_cons, List.not_mem_nil, or_false] at hv
              rcases hv with rfl | rfl
              · exact ⟨_, rfl, .inl rfl⟩
              · exact ⟨_, rfl, .inr rfl⟩
            walk_at "r"
            refine rd_newL (by show 3 ≤ sizeLine; decide) fun t1 F4 _ s4 h4 => ?_
            walk_at "r"
            refine ⟨a, c, t1, ns, _, rfl, B3.same s4, sqL_of h4, rfl, by decide, by decide, fun v F5 hv x5 B5 => ?_⟩
            obtain ⟨mn, rfl, hm⟩ : ∃ m : Int, v = .int m ∧ (2 ≤ m ∧ m ≤ 3) := by
              simp only [List.mem_cons, List.not_mem_nil, or_false] at hv
              rcases hv with rfl | rfl | rfl <;> exact ⟨_, rfl, by decide⟩
            have y5 := (((Ext.of s2).trans x3).trans (Ext.of s4)).trans x5
            have l5 := y5 _ _ l1 (bag_strs _)
            have lb5 := y5 _ _ lb1 (bag_strs _)
            have so : PyData.strOk wd = true := by rcases hw with rfl | rfl <;> decide +kernel
            have sl : wd.length ≤ 16000000 := by rcases hw with rfl | rfl <;> decide
            replace y5 := x1.trans y5
            clear x5 h4 s4 x3 h2 s2
            walk_at "r"
            refine rd_newT (sz_small (by simp)) fun t6 F6 _ s6 h6 => ?_
            walk_at "r"
            refine rd_wkR ⟨by omega, by omega⟩ ?_
            refine lc_bagD (walk_range (lo := 0) (n := mn.toNat)) (B5.same s6) (fun _ _ => trivial) (DG (20 + j) (DSay j nms bnd)) (bag_tups fun d h => h.tup) DG.tps False (by omega) (fun i x G1 G2 Q' N' hi e2 B2 y q1 q2 => ?_) (fun D G1 xs nD e7 B7 h7 _ hle hx => ?_)
            · obtain ⟨rfl, rfl⟩ := y
              walk_at "r"
              have z2 := (Ext.of s6).trans e2
              refine hR j rfl _ _ _ _ ⟨a, c, l, lb, ns, nms, bnd, (by show [V.ref a, V.ref l, V.ref lb, V.int (((j + 1 : Nat) : Int) - 1)] = _; rw [ej]), B2, z2 _ _ l5 (bag_strs _), z2 _ _ lb5 (bag_strs _), hln, hn, hbn, fun v d G3 x3 B3 d3 g3 => ?_⟩
              exact q1 v G3 ⟨d, d3, g3⟩ x3 B3
            · obtain ⟨ds, pd, gd⟩ := DG.list hx
              have hlen := hle (fun z => z)
              refine rd_kTupL (sqL_of h7) fun t8 G2 _ s8 h8 => ?_
              refine rd_catA (s8 _ _ (e7 _ _ h6 rfl)) h8 (sz_small (by simp; omega)) fun t9 G3 s9 h9 => ?_
              have lp := pd.length
              exact k _ (.tuple (.str wd :: ds)) G3 (((((y5).trans (Ext.of s6)).trans e7).trans (Ext.of s8)).trans (Ext.of s9)) ((B7.same s8).same s9) (Dt.tup (n := 20 + j) h9 (.cons (Dt.str so sl) (pimp pd fun _ _ z => (z.sm s8).sm s9)) (by simp; omega)) (.grp hw (by omega) gd)
theorem ok_law_any_saying (T : Txt K mg) (h_law_pull : Ok P w K mg base 1 "_law_pull" ["_law_bag_here", "_law_sides"] spPull) (h_law_of : Ok P w K mg base 2 "_law_of" ["_law_bag_here", "_law_some"] (spOf K)) (h_law_any_atom : Ok P w K mg base 7 "_law_any_atom" ["_law_bag_here", "_law_names"] spAnyAtom) :
    ∀ n : Nat, Ok P w K mg base (8 + n) "_law_any_saying" ["_law_bag_here", "_law_names", "_law_bound", "_law_deep"] (spAnySay n)
  | 0 => ok_law_any_saying1 T 0 h_law_pull h_law_of h_law_any_atom (Ok.never T.F_law_any_saying T.g_law_any_saying (fun _ _ _ _ _ _ us hl => match us, hl with | [_, _, _, _], _ => rfl)) (fun j e => by cases e)
  | n + 1 => ok_law_any_saying1 T (n + 1) h_law_pull h_law_of h_law_any_atom ((ok_law_any_saying T h_law_pull h_law_of h_law_any_atom n).mono (by omega)) (fun j e vs H Q E h => by cases e; exact h)
theorem say_cases {nms : List Str} {n : Nat} {d : PyData} (h : GSay nms n d) : ∃ (w : Str) (ds : List PyData), d = .tuple (.str w :: ds) ∧ ds.length ≤ 10 ∧ ((inV (.str w) [.str "and", .str "or", .str "not"] = true ∧ kids d = ds) ∨
    (inV (.str w) [.str "and", .str "or", .str "not"] = false ∧ inV (.str w) [.str "some", .str "all"] = true ∧ ∃ x a, ds = [x, a] ∧ kids d = [a]) ∨ (inV (.str w) [.str "and", .str "or", .str "not"] = false ∧ inV (.str w) [.str "some", .str "all"] = false ∧ kids d = [])) := by
  rw [GSay_eq] at h
  cases h with
  | cmp hw ha hb => rcases hw with rfl | rfl <;> exact ⟨_, _, rfl, by simp, .inr (.inr ⟨by decide, by decide, rfl⟩)⟩
  | und ha hs hb => exact ⟨_, _, rfl, by simp, .inr (.inr ⟨by decide, by decide, rfl⟩)⟩
  | lea ha hm hr => exact ⟨_, _, rfl, by simp, .inr (.inr ⟨by decide, by decide, rfl⟩)⟩
  | use hx hv hs => exact ⟨_, _, rfl, by simp, .inr (.inr ⟨by decide, by decide, rfl⟩)⟩
  | neg ha => exact ⟨_, _, rfl, by simp, .inl ⟨by decide, rfl⟩⟩
  | bnd hw hx ha => rcases hw with rfl | rfl <;> exact ⟨_, _, rfl, by simp, .inr (.inl ⟨by decide, by decide, _, _, rfl, rfl⟩)⟩
  | grp hw hl hs => rcases hw with rfl | rfl <;> exact ⟨_, _, rfl, by omega, .inl ⟨by decide, rfl⟩⟩
theorem ok_law_inner (T : Txt K mg) : Ok P w K mg base 1 "_law_inner" ["_law_part"] spInner := by
  refine Ok.mk T.F_law_inner T.g_law_inner sc_law_inner (fun _ _ _ _ _ _ us hl => match us, hl with | [_], _ => rfl) (fun vs H Q E h => ?_) (fun cdv A outer s H vs Q E hr h => ?_)
  · obtain ⟨m, n, nms, v, d, rfl, _⟩ := h
    rfl
  · obtain ⟨m, n, nms, v, d, rfl, m60, hD, hG, q⟩ := h
    refine ⟨_, (pss_cons (ps_if (pt_cmpR op_in_seq (pe_ix ix_tup (pv 0) pe_int (fun _ _ => rfl)) (pe_tup (pa_cons pe_str (pa_cons pe_str (pa_cons pe_str pa_nil)))) (by rfl)) (pss_one (ps_ret (pe_callTy c_list (by rfl) T.b_list (by decide +kernel) (pa_cons (pe_slice sl_tupA (pv 0) (po_some pe_int) po_none) pa_nil)))) pss_nil)
      (pss_one (ps_ret (pe_ifExp (pt_cmpR op_in_seq (pe_ix ix_tup (pv 0) pe_int (fun _ _ => rfl)) (pe_tup (pa_cons pe_str (pa_cons pe_str pa_nil))) (by rfl)) (pe_lst (pa_cons (pe_ix ix_tup (pv 0) pe_int (fun _ _ => rfl)) pa_nil)) (pe_lst pa_nil))))), ?_⟩
    obtain ⟨wd, ds, rfl, hl, hc⟩ := say_cases hG
    obtain ⟨m', a, xs, mm, rfl, h1, hlen, h3⟩ := tup_at hD
    cases h3 with
    | cons b0 pd =>
      clear hlen
      rename_i xs
      cases b0.dn.eq_str
      have lp := pd.length
      walk_at "st"
      walk_at "r"
      refine rd_ixT (sqT_of h1) (show atI _ ((0 : Nat) : Int) = some _ from atI_nat rfl) ?_
      walk_at "r"
      refine rd_newT (sz_small (by simp)) fun p1 G1 _ s1 t1 => ?_
      walk_at "r"
      refine rd_in (sqT_of t1) rfl rfl ?_
      rcases hc with ⟨hA, hk⟩ | ⟨hA, hB, hk⟩ | ⟨hA, hB, hk⟩
      · rw [hA]
        rw [hk] at q
        walk_at "r"
        refine rd_slA (s1 _ _ h1) fun b G3 s3 t3 => ?_
        rw [cut_tail] at t3
        refine rd_list (.inr (sqT_of t3)) fun l G4 nl s4 t4 => ?_
        have s := (s1.trans s3).trans s4
        exact q l xs G4 (none_back (s1.trans s3) nl) s t4 (pimp pd fun _ _ z => (z.sm s).up (by omega))
      · rw [hA]
        obtain ⟨x, a', rfl, hk⟩ := hk
        rw [hk] at q
        rcases pd with _ | ⟨b1, _ | ⟨b2, _ | _⟩⟩
        walk_at "r"
        refine rd_ixT (sqT_of (s1 _ _ h1)) rfl ?_
        walk_at "r"
        refine rd_newT (sz_small (by simp)) fun p2 G2 _ s2 t2 => ?_
        walk_at "r"
        refine rd_in (sqT_of t2) rfl rfl ?_
        rw [hB]
        walk_at "r"
        refine rd_ixT (sqT_of (s2 _ _ (s1 _ _ h1))) rfl ?_
        walk_at "r"
        refine rd_newL (sz_small (by simp)) fun l G4 nl s4 t4 => ?_
        have s := (s1.trans s2).trans s4
        exact q l _ G4 (none_back (s1.trans s2) nl) s t4 (.cons ((b2.sm s).up (by omega)) .nil)
      · rw [hA]
        rw [hk] at q
        walk_at "r"
        refine rd_ixT (sqT_of (s1 _ _ h1)) (show atI _ ((0 : Nat) : Int) = some _ from atI_nat rfl) ?_
        walk_at "r"
        refine rd_newT (sz_small (by simp)) fun p2 G2 _ s2 t2 => ?_
        walk_at "r"
        refine rd_in (sqT_of t2) rfl rfl ?_
        rw [hB]
        walk_at "r"
        refine rd_newL (sz_small (by simp)) fun l G4 nl s4 t4 => ?_
        exact q l _ G4 (none_back (s1.trans s2) nl) ((s1.trans s2).trans s4) t4 .nil
theorem flat_len {n : Nat} : ∀ (ds : List PyData), ds.length ≤ (ds.flatMap (prts n)).length
  | [] => Nat.zero_le _
  | d :: ds => by
    have := flat_len (n := n) ds
    have h : 1 ≤ (prts n d).length := by cases n <;> exact Nat.succ_le_succ (Nat.zero_le _)
    rw [List.flatMap_cons, List.length_append, List.length_cons]
    omega
theorem ok_law_parts (T : Txt K mg) (h_law_inner : Ok P w K mg base 1 "_law_inner" ["_law_part"] spInner) : Ok P w K mg base 2 "_law_parts" ["_law_saying_z"] spParts := by
  refine Ok.mk T.F_law_parts T.g_law_parts sc_law_parts (fun _ _ _ _ _ _ us hl => match us, hl with | [_], _ => rfl) (fun vs H Q E h => ?_) (fun cdv A outer s H vs Q E hr h => ?_)
  · obtain ⟨m, n, nms, v, d, rfl, _⟩ := h
    rfl
  · obtain ⟨m, n, nms, v, d, rfl, m60, n5, hD, hG, q⟩ := h
    have tot : (prts n d).length ≤ 5000 := Nat.le_trans (prts_len hG) (Nat.le_trans (Nat.pow_le_pow_right (by decide) (show n + 1 ≤ 6 by omega)) (by decide))
    refine ⟨_, (pss_cons (ps_par (by rfl) sc_law_parts.nd (i := 1) (j := 2) rfl rfl (by decide) rfl rfl (pa_cons (pe_lst pa_nil) (pa_cons (pe_lst (pa_cons (pv 0) pa_nil)) pa_nil)) (by rfl))
      (pss_cons (ps_while PassesOwn.never (pt_cmpR (op_neD hr.units) (pv 2) (pe_lst pa_nil) (nomark _)) (pss_cons (ps_set (i := 3) sc_law_parts.nd rfl (.inl rfl) (pe_bm0 PySem.F.plainAttrs_list PySem.F.slot_list_pop PySem.F.type_list_pop mt_pop (pv 2)))
      (pss_cons (ps_expr (pe_bm PySem.F.plainAttrs_list PySem.F.slot_list_append PySem.F.type_list_append mt_append (pv 1) (pa_cons (pv 3) pa_nil)))
      (pss_one (ps_set (i := 2) sc_law_parts.nd rfl (.inl rfl) (pe_op op_cat (pv 2) (pe_revL (pe_ok h_law_inner (hr.mono (by omega)) (by rfl) (pa_cons (pv 3) pa_nil)))))))))
      (pss_one (ps_ret (pv 1))))), ?_⟩
    walk_at "st"
    walk_at "r"
    refine rd_newL (sz_small (by simp)) fun lf H1 n1 s1 h1 => ?_
    walk_at "r"
    refine rd_newL (sz_small (by simp)) fun ll H2 n2 s2 h2 => ?_
    walk_at "r"
    refine ⟨fun mm σ1 G => ∃ (lf ll : Addr) (o : Option V) (fs xs : List V) (fds ds : List PyData), σ1 = [some v, some (.ref lf), some (.ref ll), o] ∧ Same H G ∧ H lf = none ∧ H ll = none ∧ lf ≠ ll ∧ G lf = some (.lst fs) ∧ G ll = some (.lst xs) ∧ Paired (Dt m G) fs fds ∧ Paired (Dt m G) xs ds ∧ (∀ e ∈ ds, ∃ k, k ≤ n ∧ GSay nms k e) ∧ fds ++ ds.reverse.flatMap (prts n) = prts n d ∧ (ds.reverse.flatMap (prts n)).length = mm,
      ⟨_, lf, ll, none, [], [v], [], [d], rfl, s1.trans s2, n1, none_back s1 n2, ne_of_none h1 n2, s2 _ _ h1, h2, .nil, .cons ((hD.sm s1).sm s2) .nil, fun e he => ?_, ?_, rfl⟩, ?_⟩
    · cases List.mem_singleton.mp he
      exact ⟨n, Nat.le_refl _, hG⟩
    · show [] ++ ([d] : List PyData).reverse.flatMap (prts n) = prts n d
      simp
    rintro mm σ1 G ⟨lf, ll, o, fs, xs, fds, ds, rfl, sG, nf, nl, ne, hf, hl, pf, pl, gd, eq, em⟩
    have lds : ds.length ≤ 5000 := by
      have := flat_len (n := n) ds.reverse
      rw [List.length_reverse] at this
      have h := congrArg List.length eq
      rw [List.length_append] at h
      omega
    have lfs : fs.length ≤ 5000 := by
      have h := congrArg List.length eq
      rw [List.length_append] at h
      rw [pf.length]
      omega
    have tds : ∀ e ∈ ds, ∃ es, e = PyData.tuple es := fun e he => by
      obtain ⟨k, _, h⟩ := gd e he
      exact h.tup
    clear h1 h2 n1 n2 s1 s2
    walk_at "r"
    refine rd_newL (sz_small (by simp)) fun t3 G3 n3 s3 h3 => ?_
    walk_at "r"
    refine rd_neD (n := m + 1) (m := 1) (by omega) (by decide) (dn_list (s3 _ _ hl) (pimp pl fun _ _ z => z.sm s3) tds (by omega)) (Dn.lst h3 rfl .nil (by decide)) ?_
    walk_at "r"
    rw [eqv_nilL]
    refine rd_nbool (fun en => ⟨_, fun _ _ z => z, ?_⟩) (fun en => ?_)
    · have hne : ds ≠ [] := fun z => by subst z; cases en
      obtain ⟨xs', x, ds', y, rfl, rfl, pl', hxy⟩ := paired_last pl hne
      obtain ⟨ky, kn, gy⟩ := gd y (List.mem_append_right _ (List.mem_singleton.mpr rfl))
      have ey := prts_up gy n kn
      rw [List.reverse_append, List.reverse_singleton, List.flatMap_append, List.flatMap_cons, List.flatMap_nil, List.append_nil, ey] at eq em
      walk_at "r"
      refine rd_pop (s3 _ _ hl) fun G4 c4 h4 => ?_
      walk_at "r"
      have t4 : Tps G G4 := (Tps.of (Ext.of s3)).trans (Tps.chg c4 (s3 _ _ hl))
      have f4 : G4 lf = some (.lst fs) := by rw [c4 lf ne]; exact s3 _ _ hf
      refine rd_bml (sqL_of f4) ?_
      walk_at "r"
      refine rd_app f4 (sz_smaller (by omega)) fun G5 c5 h5 => ?_
      have t5 : Tps G G5 := t4.trans (Tps.chg c5 f4)
      have l5 : G5 ll = some (.lst xs') := by rw [c5 ll (Ne.symm ne)]; exact h4
      walk_at "r"
      refine ⟨m, ky, nms, x, y, rfl, m60, hxy.keep t5, gy, fun lk ks G6 n6 s6 h6 pk => ?_⟩
      refine rd_revB (sqL_of h6) fun lr G7 n7 s7 h7 => ?_
      have lk3 : (kids y).length ≤ 10 := by
        obtain ⟨wd, es, rfl, hl, hc⟩ := say_cases gy
        rcases hc with ⟨_, hk⟩ | ⟨_, _, _, _, _, hk⟩ | ⟨_, _, hk⟩
        · rw [hk]; exact hl
        · rw [hk]; simp
        · rw [hk]; simp
      have lkk := pk.length
      have lxx := pl'.length
      rw [List.length_append, List.length_singleton] at lds
      refine rd_cat (s7 _ _ (s6 _ _ l5)) h7 (sz_small (by rw [List.length_reverse]; omega)) fun lc G8 n8 s8 h8 => ?_
      walk_at "r"
      have t8 : Tps G5 G8 := Tps.of (Ext.of ((s6.trans s7).trans s8))
      have t6 : Tps G6 G8 := Tps.of (Ext.of (s7.trans s8))
      have f8 : G8 lf = some (.lst (fs ++ [x])) := s8 _ _ (s7 _ _ (s6 _ _ h5))
      have sF : Same H G7 := Same.trans (Same.chg (Same.chg (Same.trans sG s3) nl c4) nf c5) (s6.trans s7)
      refine ⟨_, ?_, lf, lc, _, fs ++ [x], xs' ++ ks.reverse, fds ++ [y], ds' ++ (kids y).reverse, rfl, sF.trans s8, nf, none_back sF n8, ne_of_none (s7 _ _ (s6 _ _ h5)) n8, f8, h8, ?_, ?_, ?_, ?_, rfl⟩
      · rw [← em, List.reverse_append, List.reverse_reverse, List.flatMap_append]
        simp
      · exact Paired.snoc (pimp pf fun _ _ z => (z.keep t5).keep t8) ((hxy.keep t5).keep t8)
      · exact paired_app (pimp pl' fun _ _ z => (z.keep t5).keep t8) (paired_rev (pimp pk fun _ _ z => z.keep t6))
      · intro e he
        rcases List.mem_append.mp he with he | he
        · exact gd e (List.mem_append_left _ he)
        · have hk := kids_of gy e (List.mem_reverse.mp he)
          cases ky with
          | zero => exact hk.elim
          | succ k => exact ⟨k, by omega, hk⟩
      · rw [← eq, List.reverse_append, List.reverse_reverse, List.flatMap_append]
        simp
    · have hds : ds = [] := List.isEmpty_iff.mp en
      subst hds
      walk_at "r"
      have e2 : fds = prts n d := by rw [← eq]; simp
      exact q lf fs G3 nf (sG.trans s3) (s3 _ _ hf) (by rw [← e2]; exact pimp pf fun _ _ z => z.sm s3)
theorem ok_law_saying (T : Txt K mg) (h_law_of : Ok P w K mg base 2 "_law_of" ["_law_bag_here", "_law_some"] (spOf K)) (h_law_any_atom : Ok P w K mg base 7 "_law_any_atom" ["_law_bag_here", "_law_names"] spAnyAtom)
    (h_law_any_saying : Ok P w K mg base 11 "_law_any_saying" ["_law_bag_here", "_law_names", "_law_bound", "_law_deep"] fun vs H Q E => ∃ n, n ≤ 3 ∧ spAnySay n vs H Q E) (h_law_parts : Ok P w K mg base 2 "_law_parts" ["_law_saying_z"] spParts) : Ok P w K mg base 12 "_law_saying" ["_law_bag_here"] spSaying := by
  refine Ok.mk T.F_law_saying T.g_law_saying sc_law_saying (fun _ _ _ _ _ _ us hl => match us, hl with | [_], _ => rfl) (fun vs H Q E h => ?_) (fun cdv A outer s H vs Q E hr h => ?_)
  · obtain ⟨a, c, ns, rfl, _⟩ := h
    rfl
  · obtain ⟨a, c, ns, rfl, hB, k⟩ := h
    refine ⟨_, (pss_cons (ps_set (i := 1) sc_law_saying.nd rfl (.inl rfl) (pe_ok h_law_of (hr.mono (by omega)) (by rfl) (pa_cons (pv 0) (pa_cons (pe_lst (pa_cons (pe_lst pa_nil) (pa_cons (pe_lst (pa_cons pe_str pa_nil)) (pa_cons (pe_lst (pa_cons pe_str (pa_cons pe_str pa_nil))) (pa_cons (pe_lst (pa_cons pe_str (pa_cons pe_str (pa_cons pe_str pa_nil)))) pa_nil))))) pa_nil))))
      (pss_cons (ps_set (i := 2) sc_law_saying.nd rfl (.inl rfl) (pe_slice sl_list (pe_lst (pa_cons pe_str (pa_cons pe_str (pa_cons pe_str pa_nil)))) po_none (po_some (pe_op op_sub pe_int (pe_callB c_len (by rfl) T.b_len (by decide +kernel) (pa_cons (pv 1) pa_nil))))))
      (pss_cons (ps_set (i := 3) sc_law_saying.nd rfl (.inl rfl) (pe_ok h_law_any_saying (hr.mono (by omega)) (by rfl) (pa_cons (pv 0) (pa_cons (pv 1) (pa_cons (pv 2) (pa_cons (pe_ok h_law_of (hr.mono (by omega)) (by rfl) (pa_cons (pv 0) (pa_cons (pe_lst (pa_cons pe_int (pa_cons pe_int (pa_cons pe_int pa_nil)))) pa_nil))) pa_nil))))))
      (pss_one (ps_ret (pe_ifExp (pt_cmpR op_lt (pe_callB c_len (by rfl) T.b_len (by decide +kernel) (pa_cons (pe_ok h_law_parts (hr.mono (by omega)) (by rfl) (pa_cons (pv 3) pa_nil)) pa_nil)) pe_int (nomark _)) (pv 3) (pe_ok h_law_any_atom (hr.mono (by omega)) (by rfl) (pa_cons (pv 0) (pa_cons (pv 1) pa_nil))))))))), ?_⟩
    walk_at "st"
    walk_at "a"
    rename_i t1 H1 _ s1 h1 t2 H2 _ s2 h2 t3 H3 _ s3 h3 t4 H4 _ s4 h4 t5 H5 _ s5 h5
    refine ⟨a, c, t5, ns, _, rfl, by walk_at "bag", sqL_of h5, rfl, List.cons_ne_nil _ _, by show 4 < 1073741824; decide, fun v H6 hv x6 B6 => ?_⟩
    obtain ⟨l, nms, bnd, rfl, hl, hnb, hcut⟩ : ∃ (l : Addr) (nms bnd : List Str), v = .ref l ∧ H6 l = some (.lst (nms.map V.str)) ∧ nbOk nms bnd ∧ cutV [V.str "u", V.str "v", V.str "w"] none (some (3 - ((nms.map V.str).length : Int))) = bnd.map V.str := by
      simp only [List.mem_cons, List.not_mem_nil, or_false] at hv
      rcases hv with rfl | rfl | rfl | rfl
      · exact ⟨t1, [], ["u", "v", "w"], rfl, by walk_at "hp", by simp [nbOk], by decide +kernel⟩
      · exact ⟨t2, ["x"], ["u", "v"], rfl, by walk_at "hp", by simp [nbOk], by decide +kernel⟩
      · exact ⟨t3, ["x", "abc"], ["u"], rfl, by walk_at "hp", by simp [nbOk], by decide +kernel⟩
      · exact ⟨t4, ["b", "y", "zz"], [], rfl, by walk_at "hp", by simp [nbOk], by decide +kernel⟩
    obtain ⟨hlen, hn, hbn⟩ := nb_in hnb
    have x : Ext H H6 := by walk_at "ext"
    clear x6 h5 s5 h4 s4 h3 s3 h2 s2 h1 s1 hv
    walk_at "a"
    rename_i t7 H7 _ s7 h7
    refine rd_lenL (sqL_of (s7 _ _ hl)) ?_
    walk_at "r"
    refine rd_slL (sqL_of h7) fun lb H8 _ s8 h8 => ?_
    rw [hcut] at h8
    walk_at "a"
    rename_i t9 H9 _ s9 h9
    refine ⟨a, c, t9, ns, _, rfl, by walk_at "bag", sqL_of h9, rfl, List.cons_ne_nil _ _, by show 3 < 1073741824; decide, fun v H10 hv x10 B10 => ?_⟩
    obtain ⟨j, rfl, hj⟩ : ∃ j : Nat, v = .int j ∧ j ≤ 3 := by
      simp only [List.mem_cons, List.not_mem_nil, or_false] at hv
      rcases hv with rfl | rfl | rfl
      · exact ⟨1, rfl, by decide⟩
      · exact ⟨2, rfl, by decide⟩
      · exact ⟨3, rfl, by decide⟩
    walk_at "r"
    have y10 : Ext H6 H10 := by walk_at "ext"
    refine ⟨j, hj, a, c, l, lb, ns, nms, bnd, rfl, B10, y10 _ _ hl (bag_strs _), x10 _ _ (s9 _ _ h8) (bag_strs _), by omega, hn, hbn, fun v d H11 x11 B11 d11 g11 => ?_⟩
    walk_at "r"
    refine ⟨20 + j, j, nmA, v, d, rfl, by omega, by omega, d11, g11.g hn hbn, fun lp xs H12 _ s12 h12 p12 => ?_⟩
    walk_at "r"
    refine rd_lenL (sqL_of h12) ?_
    walk_at "r"
    have lp12 := p12.length
    refine rd_dec (fun hlt => ?_) (fun hlt => ?_)
    · walk_at "r"
      exact k v d j nms bnd H12 (((x.trans y10).trans x11).trans (Ext.of s12)) (B11.same s12) hj ((d11.sm s12).up (by omega)) hnb g11 (by omega)
    · walk_at "r"
      have y12 := (y10.trans x11).trans (Ext.of s12)
      refine ⟨a, c, l, ns, nms, rfl, B11.same s12, y12 _ _ hl (bag_strs _), by omega, hn, bnd, fun _ _ _ => False, fun v d H13 x13 B13 d13 g13 => ?_⟩
      exact k v d 0 nms bnd H13 ((x.trans y12).trans x13) B13 (by decide) (d13.up (by decide)) hnb g13 (by show 1 < 21; decide)
def LawInv31 (a b c : Addr) (ms : List Int) (_ : Nat) (σ : L2.St) (H : Hp) : Prop := ∃ o2 o3 o4 o5 o6 : Option V, σ = [some (.ref a), some (.ref b), o2, o3, o4, o5, o6] ∧ Bag b c ms H
def tX : PyData := .tuple [.tuple [.tuple [.int 1, .str "x"]], .int 0]
def tH : PyData := .tuple [.tuple [.tuple [.int 2, .str "x"]], .int (-1)]
def tF : PyData := .tuple [.tuple [.tuple [.int 1, .tuple [.str "floor", .tuple [.int 1, .int 1, .int 2], tH]]], .int 0]
def tG : PyData := .tuple [.tuple [.tuple [.int 4, .str "x"]], .int 0]
def dOne : PyData := .tuple [.str "all", .str "x", .tuple [.str "or", .tuple [.str "equal", tX, .tuple [.tuple [], .int 0]], .tuple [.str "less", tF, tG]]]
theorem gt_one {nms : List Str} {n : Nat} {f c : Int} {x : PyData} (h1 : -9 ≤ f ∧ f ≤ 9 ∧ f ≠ 0) (h2 : -1000 ≤ c ∧ c ≤ 1000) (hx : (∃ z, x = .str z ∧ z ∈ nms) ∨ ∃ i j k t, x = .tuple [.str "floor", .tuple [.int i, .int j, .int k], t] ∧ (-9 ≤ i ∧ i ≤ 9 ∧ -3 ≤ j ∧ j ≤ 3 ∧ 1 ≤ k ∧ k ≤ 4) ∧ GRec nms n t) : GTerm nms n (.tuple [.tuple [.tuple [.int f, x]], .int c]) := by
  rw [GTerm_eq]
  refine ⟨_, c, rfl, by simp, h2.1, h2.2, fun y hy => ?_⟩
  cases List.mem_singleton.mp hy
  exact ⟨f, x, rfl, h1.1, h1.2.1, h1.2.2, hx⟩
theorem dOne_g : GSay nmA 2 dOne := by
  have gx : ∀ (n : Nat) (f c : Int), (-9 ≤ f ∧ f ≤ 9 ∧ f ≠ 0) → (-1000 ≤ c ∧ c ≤ 1000) → GTerm nmA n (.tuple [.tuple [.tuple [.int f, .str "x"]], .int c]) := fun n f c h1 h2 => gt_one h1 h2 (.inl ⟨_, rfl, by decide⟩)
  have g0 : GTerm nmA 3 (.tuple [.tuple [], .int 0]) := ⟨_, _, rfl, by simp, by decide, by decide, fun y hy => by cases hy⟩
  have gF : GTerm nmA 3 tF := gt_one (by decide) (by decide) (.inr ⟨_, _, _, _, rfl, by decide, gx 2 _ _ (by decide) (by decide)⟩)
  refine GSay1.bnd (.inr rfl) (nmA_sm _ (by decide)) (GSay1.grp (.inr rfl) (by decide) fun s hs => ?_)
  rcases List.mem_cons.mp hs with rfl | hs
  · exact GSay1.cmp (.inl rfl) (gx 3 _ _ (by decide) (by decide)) g0
  · cases List.mem_singleton.mp hs
    exact GSay1.cmp (.inr rfl) gF (gx 3 _ _ (by decide) (by decide))
theorem dOne_t : sayT 2 dOne = "all x (x = 0 or floor((1+r)/2, 2*x - 1) < 4*x)" := by decide +kernel
theorem sayB3 {n : Nat} (h : n ≤ 3) : sayB n ≤ 2760000 := by
  rcases (show n = 0 ∨ n = 1 ∨ n = 2 ∨ n = 3 by omega) with rfl | rfl | rfl | rfl <;> decide
theorem rsayB {nms : List Str} (hn : smallN nms) {n : Nat} (h : n ≤ 3) : ∀ d, RSay nms n d → (rsay n d).length ≤ 1000000 := by
  intro d hd
  cases n with
  | zero => exact hd.elim
  | succ n =>
    have := sayT_len hn n d hd
    have h2 : sayB n ≤ 897000 := by rcases (show n = 0 ∨ n = 1 ∨ n = 2 by omega) with rfl | rfl | rfl <;> decide
    exact Nat.le_trans this (Nat.le_trans h2 (by decide))
theorem ok_law (T : Txt K mg) (h_law_bag : Ok P w K mg base 1 "_law_bag" ["_law_script"] (spBag K)) (h_law_saying : Ok P w K mg base 12 "_law_saying" ["_law_bag_here"] spSaying) (h_law_same : Ok P w K mg base 3 "_law_same" ["_law_found", "_law_due"] (spSame 2))
    (h_saying_text : Ok P w K mg base 14 "saying_text" ["saying"] fun vs H Q E => ∃ n, n ≤ 3 ∧ spSayT nmA n vs H Q E) (hk_saying_text : OkK P w K mg base 14 "saying_text" ["saying"] 0 ["saying"] (fun _ zs => zs) fun vs H Q E => ∃ n, n ≤ 3 ∧ spSayT nmA n vs H Q E)
    (h_law_text : Ok P w K mg base 14 "_law_text" ["_law_saying_z"] fun vs H Q E => ∃ n, n ≤ 3 ∧ spSayT nmA n vs H Q E) : Ok P w K mg base 15 "law" ["_law_script"] (spLaw K) := by
  refine Ok.mk T.F_law T.g_law sc_law (fun _ _ _ _ _ _ us hl => match us, hl with | [_], _ => rfl) (fun vs H Q E h => ?_) (fun cdv A outer s H vs Q E hr h => ?_)
  · obtain ⟨a, ns, rfl, _⟩ := h
    rfl
  · obtain ⟨a, ns, rfl, hS, k⟩ := h
    refine ⟨_, (pss_cons (ps_set (i := 1) sc_law.nd rfl (.inl rfl) (pe_ok h_law_bag (hr.mono (by omega)) (by rfl) (pa_cons (pv 0) pa_nil)))
      (pss_cons (ps_for PassesOwn.never rfl (pi_range1 (by rfl) T.b_range (pa_cons pe_int pa_nil)) (pg_name (i := 2) sc_law.nd rfl (.inl rfl)) (pss_cons (ps_set (i := 3) sc_law.nd rfl (.inl rfl) (pe_ok h_law_saying (hr.mono (by omega)) (by rfl) (pa_cons (pv 1) pa_nil)))
      (pss_one (ps_if (pt_not (pt_val (pe_ok h_law_same (hr.mono (by omega)) (by rfl) (pa_cons (pe_lst (pa_cons (pe_ok h_saying_text (hr.mono (by omega)) (by rfl) (pa_cons (pv 3) pa_nil)) (pa_cons (pe_okK0 hk_saying_text (hr.mono (by omega)) (by rfl) (pk_cons (pv 3) pk_nil)) pa_nil))) (pa_cons (pe_op op_rep (pe_lst (pa_cons (pe_ok h_law_text (hr.mono (by omega)) (by rfl) (pa_cons (pv 3) pa_nil)) pa_nil)) pe_int) pa_nil))))) (pss_one (ps_ret pe_bl)) pss_nil))))
      (pss_cons (ps_asg (pe_tup (pa_cons (pe_tup (pa_cons (pe_tup (pa_cons (pe_tup (pa_cons pe_int (pa_cons pe_str pa_nil))) pa_nil)) (pa_cons pe_int pa_nil))) (pa_cons (pe_tup (pa_cons (pe_tup (pa_cons (pe_tup (pa_cons pe_int (pa_cons pe_str pa_nil))) pa_nil)) (pa_cons (pe_un un_neg pe_int) pa_nil))) pa_nil))) (pg_tup rfl (pgs_cons (pg_name (i := 4) sc_law.nd rfl (.inl rfl)) (pgs_cons (pg_name (i := 5) sc_law.nd rfl (.inl rfl)) pgs_nil))))
      (pss_cons (ps_set (i := 6) sc_law.nd rfl (.inl rfl) (pe_tup (pa_cons pe_str (pa_cons pe_str (pa_cons (pe_tup (pa_cons pe_str (pa_cons (pe_tup (pa_cons pe_str (pa_cons (pv 4) (pa_cons (pe_tup (pa_cons (pe_tup pa_nil) (pa_cons pe_int pa_nil))) pa_nil)))) (pa_cons (pe_tup (pa_cons pe_str (pa_cons (pe_tup (pa_cons (pe_tup (pa_cons (pe_tup (pa_cons pe_int (pa_cons (pe_tup (pa_cons pe_str (pa_cons (pe_tup (pa_cons pe_int (pa_cons pe_int (pa_cons pe_int pa_nil)))) (pa_cons (pv 5) pa_nil)))) pa_nil))) pa_nil)) (pa_cons pe_int pa_nil))) (pa_cons (pe_tup (pa_cons (pe_tup (pa_cons (pe_tup (pa_cons pe_int (pa_cons pe_str pa_nil))) pa_nil)) (pa_cons pe_int pa_nil))) pa_nil)))) pa_nil)))) pa_nil)))))
      (pss_one (ps_ret (pe_cmpR op_eq (pe_ok h_saying_text (hr.mono (by omega)) (by rfl) (pa_cons (pv 6) pa_nil)) pe_str (nomark _)))))))), ?_⟩
    walk_at "st"
    walk_at "a"
    refine ⟨a, ns, rfl, hS, fun b c ms H1 s1 B1 => ?_⟩
    walk_at "a"
    refine rd_wkR ⟨by decide, by decide⟩ ?_
    refine fo_it (walk_range (lo := 0) (n := 6)) (LawInv31 a b c ms) ⟨none, none, none, none, none, rfl, B1⟩ (fun _ _ _ _ _ => trivial) ?_ ?_
    · rintro i y σ1 H3 H2 hi ⟨o2, o3, o4, o5, o6, rfl, B2⟩ ⟨rfl, rfl⟩
      walk_at "a"
      refine ⟨b, c, ms, rfl, B2, fun v d n nms bnd G1 x1 B3 n3 d1 nb g1 lp => ?_⟩
      obtain ⟨_, hn, hbn⟩ := nb_in nb
      have gg := g1.g hn hbn
      have hlen : (sayT n d).length ≤ 16000000 := Nat.le_trans (sayT_len nmA_small n d gg) (Nat.le_trans (sayB3 n3) (by decide))
      have hso := sayT_so nmA_ok n d gg
      walk_at "a"
      refine ⟨n, n3, 23, v, d, rfl, by decide, d1, gg, fun G2 s2 => ?_⟩
      walk_at "a"
      refine ⟨rfl, rfl, n, n3, 23, v, d, rfl, by decide, d1.sm s2, gg, fun G3 s3 => ?_⟩
      walk_at "a"
      rename_i l1 G4 _ s4 h4
      refine ⟨n, n3, 23, v, d, rfl, by decide, ((d1.sm s2).sm s3).sm s4, gg, fun G5 s5 => ?_⟩
      walk_at "a"
      rename_i l2 G6 _ s6 h6
      refine rd_repQ h6 (by decide) (by decide) (by simp) fun l3 G7 _ s7 h7 => ?_
      have e7 : (List.replicate (2 : Int).toNat [V.str (sayT n d)]).flatten = [V.str (sayT n d), V.str (sayT n d)] := rfl
      rw [e7] at h7
      walk_at "r"
      refine ⟨_, _, .list [.str (sayT n d), .str (sayT n d)], rfl, Dn.lst (s7 _ _ (s6 _ _ (s5 _ _ h4))) rfl (.cons (Dn.str hso hlen) (.cons (Dn.str hso hlen) .nil)) (by simp), Dn.lst h7 rfl (.cons (Dn.str hso hlen) (.cons (Dn.str hso hlen) .nil)) (by simp), fun G8 s8 => ?_⟩
      walk_at "r"
      exact ⟨_, _, _, _, _, rfl, ((((((B3.same s2).same s3).same s4).same s5).same s6).same s7).same s8⟩
    · rintro σ1 H2 ⟨o2, o3, o4, o5, o6, rfl, B2⟩
      walk_at "a"
      refine rd_gTup (sqT_of (by assumption)) rfl ?_
      walk_at "a"
      refine ⟨2, by decide, 30, _, dOne, rfl, by decide, ?_, dOne_g, fun G s => ?_⟩
      · unfold dOne tX tF tG tH
        walk_at "dt"
      · rw [dOne_t]
        walk_at "r"
        rw [wd_eq]
        exact k _
end
theorem txt_mk {h : Heap} {K : PySem.W.Frag} {mg : Str → Option Value} (X : K.In h) (G : h.Ns mainGlobals mg) (c : SaysY fa fn ex K) : Txt K mg :=
  ⟨He.glo_ok X G (c.a.fact 0 (f := .glo "numerator_text") rfl),
   He.glo_ok X G (c.a.fact 1 (f := .glo "slope_text") rfl),
   He.glo_ok X G (c.a.fact 2 (f := .glo "thing_text") rfl),
   He.glo_ok X G (c.a.fact 3 (f := .glo "signed") rfl),
   He.glo_ok X G (c.a.fact 4 (f := .glo "term_text") rfl),
   He.glo_ok X G (c.a.fact 5 (f := .glo "saying_text") rfl),
   He.glo_ok X G (c.a.fact 6 (f := .glo "_law_bag") rfl),
   He.glo_ok X G (c.a.fact 7 (f := .glo "_law_pull") rfl),
   He.glo_ok X G (c.a.fact 8 (f := .glo "_law_of") rfl),
   He.glo_ok X G (c.a.fact 9 (f := .glo "_law_same") rfl),
   He.glo_ok X G (c.a.fact 10 (f := .glo "_law_any_slope") rfl),
   He.glo_ok X G (c.a.fact 11 (f := .glo "_law_any_name") rfl),
   He.glo_ok X G (c.a.fact 12 (f := .glo "_law_any_term") rfl),
   He.glo_ok X G (c.a.fact 13 (f := .glo "_law_any_atom") rfl),
   He.glo_ok X G (c.a.fact 14 (f := .glo "_law_any_saying") rfl),
   He.glo_ok X G (c.a.fact 15 (f := .glo "_law_saying") rfl),
   He.glo_ok X G (c.a.fact 16 (f := .glo "_law_inner") rfl),
   He.glo_ok X G (c.a.fact 17 (f := .glo "_law_parts") rfl),
   He.glo_ok X G (c.a.fact 18 (f := .glo "_law_step_text") rfl),
   He.glo_ok X G (c.a.fact 19 (f := .glo "_law_thing_text") rfl),
   He.glo_ok X G (c.a.fact 20 (f := .glo "_law_term_text") rfl),
   He.glo_ok X G (c.a.fact 21 (f := .glo "_law_text") rfl),
   He.glo_ok X G (c.a.fact 22 (f := .glo "law") rfl),
   He.free_ok X G (c.a.fact 23 (f := .free "abs") rfl),
   He.free_ok X G (c.a.fact 24 (f := .free "all") rfl),
   He.free_ok X G (c.a.fact 25 (f := .free "bool") rfl),
   He.free_ok X G (c.a.fact 26 (f := .free "enumerate") rfl),
   He.free_ok X G (c.a.fact 27 (f := .free "int") rfl),
   He.free_ok X G (c.a.fact 28 (f := .free "isinstance") rfl),
   He.free_ok X G (c.a.fact 29 (f := .free "len") rfl),
   He.free_ok X G (c.a.fact 30 (f := .free "list") rfl),
   He.free_ok X G (c.a.fact 31 (f := .free "range") rfl),
   He.free_ok X G (c.a.fact 32 (f := .free "str") rfl),
   He.free_ok X G (c.a.fact 33 (f := .free "tuple") rfl),
   He.free_ok X G (c.a.fact 34 (f := .free "zip") rfl),
   He.glo_ok X G (c.a.fact 35 (f := .glo "BINDERS") rfl),
   He.glo_ok X G (c.a.fact 36 (f := .glo "GROUPS") rfl),
   c.a.def_ 0 (d := d_numerator_text) rfl,
   c.a.def_ 1 (d := d_slope_text) rfl,
   c.a.def_ 2 (d := d_thing_text) rfl,
   c.a.def_ 3 (d := d_signed) rfl,
   c.a.def_ 4 (d := d_term_text) rfl,
   c.a.def_ 5 (d := d_saying_text) rfl,
   c.a.def_ 6 (d := d_law_bag) rfl,
   c.a.def_ 7 (d := d_law_pull) rfl,
   c.a.def_ 8 (d := d_law_of) rfl,
   c.a.def_ 9 (d := d_law_same) rfl,
   c.a.def_ 10 (d := d_law_any_slope) rfl,
   c.a.def_ 11 (d := d_law_any_name) rfl,
   c.a.def_ 12 (d := d_law_any_term) rfl,
   c.a.def_ 13 (d := d_law_any_atom) rfl,
   c.a.def_ 14 (d := d_law_any_saying) rfl,
   c.a.def_ 15 (d := d_law_saying) rfl,
   c.a.def_ 16 (d := d_law_inner) rfl,
   c.a.def_ 17 (d := d_law_parts) rfl,
   c.a.def_ 18 (d := d_law_step_text) rfl,
   c.a.def_ 19 (d := d_law_thing_text) rfl,
   c.a.def_ 20 (d := d_law_term_text) rfl,
   c.a.def_ 21 (d := d_law_text) rfl,
   c.a.def_ 22 (d := d_law) rfl,
   fun H => He.tupB_ok (c.ex 0 (f := fun K => He.tupB K "BINDERS" [.str "some", .str "all"]) rfl) H,
   fun H => He.tupB_ok (c.ex 1 (f := fun K => He.tupB K "GROUPS" [.str "and", .str "or"]) rfl) H⟩
theorem ok_all {P : Program} {w : World} {K : PySem.W.Frag} {mg : Str → Option Value} {base : Heap} (T : Txt K mg) : Ok P w K mg base 15 "law" ["_law_script"] (spLaw K) := by
  have h1 : Ok P w K mg base 1 "_law_pull" _ spPull := ok_law_pull T
  have h2 : Ok P w K mg base 2 "_law_of" _ (spOf K) := ok_law_of T h1
  have h3 : Ok P w K mg base 2 "_law_any_slope" _ spAnySlope := ok_law_any_slope T h1
  have at_ := ok_law_any_atom T h1 h2 h3 (Ok.union fun n hn => (ok_law_any_term T h1 h2 h3 n).mono (by omega)) (ok_law_any_name T h1 (ok_law_ofS T h1))
  have sa := ok_law_saying T h2 at_ (Ok.union fun n hn => (ok_law_any_saying T h1 h2 at_ n).mono (by omega)) (ok_law_parts T (ok_law_inner T))
  have st := ok_slope_text (P := P) (w := w) (base := base) T (ok_numerator_text T)
  have sg := ok_signed (P := P) (w := w) (base := base) T
  have t0 := ok_term_text T 0 0 nmA nmA_small (by decide) (ok_thing_text T 0 0 nmA nmA_small (by decide) st ((Ok.never T.F_term_text T.g_term_text (fun _ _ _ _ _ _ us hl => match us, hl with | [_], _ => rfl)).imp fun vs H Q E ⟨_, _, _, _, _, _, z, _⟩ => z)) sg
  have t1 := ok_term_text T 2 1 nmA nmA_small (by decide) (ok_thing_text T 2 1 nmA nmA_small (by decide) st t0) sg
  have t2 := ok_term_text T 4 2 nmA nmA_small (by decide) (ok_thing_text T 4 2 nmA nmA_small (by decide) st t1) sg
  have t3 := ok_term_text T 6 3 nmA nmA_small (by decide) (ok_thing_text T 6 3 nmA nmA_small (by decide) st t2) sg
  have y0 := ok_saying_text T 8 0 nmA nmA_small st t3 ((Ok.never T.F_saying_text T.g_saying_text (fun _ _ _ _ _ _ us hl => match us, hl with | [_], _ => rfl)).imp fun vs H Q E ⟨_, _, _, _, _, _, z, _⟩ => z) (rsayB nmA_small (by decide))
  have y1 := ok_saying_text T 9 1 nmA nmA_small st (t3.mono (by decide)) y0 (rsayB nmA_small (by decide))
  have y2 := ok_saying_text T 10 2 nmA nmA_small st (t3.mono (by decide)) y1 (rsayB nmA_small (by decide))
  have y3 := ok_saying_text T 11 3 nmA nmA_small st (t3.mono (by decide)) y2 (rsayB nmA_small (by decide))
  have yy : Ok P w K mg base 14 "saying_text" ["saying"] fun vs H Q E => ∃ n, n ≤ 3 ∧ spSayT nmA n vs H Q E := Ok.union fun n hn => by
    rcases (show n = 0 ∨ n = 1 ∨ n = 2 ∨ n = 3 by omega) with rfl | rfl | rfl | rfl
    · exact y0.mono (by decide)
    · exact y1.mono (by decide)
    · exact y2.mono (by decide)
    · exact y3
  have ls := ok_law_step_text (P := P) (w := w) (base := base) T
  have u0 := ok_law_term_text T 0 0 nmA nmA_small (by decide) (ok_law_thing_text T 0 0 nmA nmA_small (by decide) ls ((Ok.never T.F_law_term_text T.g_law_term_text (fun _ _ _ _ _ _ us hl => match us, hl with | [_], _ => rfl)).imp fun vs H Q E ⟨_, _, _, _, _, _, z, _⟩ => z))
  have u1 := ok_law_term_text T 2 1 nmA nmA_small (by decide) (ok_law_thing_text T 2 1 nmA nmA_small (by decide) ls u0)
  have u2 := ok_law_term_text T 4 2 nmA nmA_small (by decide) (ok_law_thing_text T 4 2 nmA nmA_small (by decide) ls u1)
  have u3 := ok_law_term_text T 6 3 nmA nmA_small (by decide) (ok_law_thing_text T 6 3 nmA nmA_small (by decide) ls u2)
  have z0 := ok_law_text T 8 0 nmA nmA_small ls u3 ((Ok.never T.F_law_text T.g_law_text (fun _ _ _ _ _ _ us hl => match us, hl with | [_], _ => rfl)).imp fun vs H Q E ⟨_, _, _, _, _, _, z, _⟩ => z) (rsayB nmA_small (by decide))
  have z1 := ok_law_text T 9 1 nmA nmA_small ls (u3.mono (by decide)) z0 (rsayB nmA_small (by decide))
  have z2 := ok_law_text T 10 2 nmA nmA_small ls (u3.mono (by decide)) z1 (rsayB nmA_small (by decide))
  have z3 := ok_law_text T 11 3 nmA nmA_small ls (u3.mono (by decide)) z2 (rsayB nmA_small (by decide))
  have zz : Ok P w K mg base 14 "_law_text" ["_law_saying_z"] fun vs H Q E => ∃ n, n ≤ 3 ∧ spSayT nmA n vs H Q E := Ok.union fun n hn => by
    rcases (show n = 0 ∨ n = 1 ∨ n = 2 ∨ n = 3 by omega) with rfl | rfl | rfl | rfl
    · exact z0.mono (by decide)
    · exact z1.mono (by decide)
    · exact z2.mono (by decide)
    · exact z3
  exact ok_law T (ok_law_bag T) sa (ok_law_same T 2 (by decide)) yy (OkK.mk yy T.F_saying_text T.g_saying_text (fun _ zs => zs) (fun _ r => r) (fun _ _ _ _ _ _ us ws h1 h2 => match us, h1, ws, h2 with | [], _, [_], _ => rfl)) zz

theorem facts {P : Program} {w : World} {K : PySem.W.Frag} {h : Heap} {mg : Str → Option Value} {f : Addr} (X : K.In h) (G : h.Ns mainGlobals mg) (hfa : mg ("law" : Str) = some (.ref f)) (c : SaysY fa fn ex K) :
    ∃ fd : FuncData, (∀ (s : Shared) (v : Value), BindsTo s fd ⟨[v], []⟩ [("_law_script", v)]) ∧ ∀ base : Heap, K.In base → base.Ns mainGlobals mg → FnOk P w K mg base CX0 15 f fd ["_law_script"] (spLaw K) := by
  have T := txt_mk X G c
  obtain ⟨fd, F⟩ := T.F_law
  have e := hfa.symm.trans T.g_law
  cases e
  have b := FunD.bindsA (ps := ["_law_script"]) F fun _ _ _ _ _ _ us hl => match us, hl with | [_], _ => rfl
  exact ⟨fd, fun s v => b s [v] rfl, fun base _ _ => (ok_all T).at F T.g_law⟩
end RF
open PySem PySem.W PySem.Calls PyProof.Rows
theorem PySem.Challenge.cw_rootfloor_k31_texts_of_sayings_holds : PySem.Challenge.rw_rootfloor_k31_texts_of_sayings.Holds := by
  w_on; o_law
  refine HandSHeadRun.head_any (r := OpenLaw.row PySem.Challenge.rw_rootfloor_k31_texts_of_sayings) (q := view (OpenLaw.row PySem.Challenge.rw_rootfloor_k31_texts_of_sayings).prog [27]) (H := RF.hk) (ob := RF.ob) (M := 4000) (loose := RF.names) (d := HandSHeadRun.topDef (OpenLaw.row PySem.Challenge.rw_rootfloor_k31_texts_of_sayings).prog 27) (kwd := []) RF.ob_eq
    (by kernel_rfl) (fun s => by kernel_rfl) RF.run (by kernel_rfl) (by kernel_rfl) (by kernel_rfl) (by rfl) (by first | assumption | decide +kernel) (by decide +kernel) ⟨rfl, rfl, rfl, rfl, rfl, by decide +kernel⟩ ?hw ?hc
  case hw => w_witness2
  case hc =>
    refine L2.walk_ofE (l := PySem.Challenge.rw_rootfloor_k31_texts_of_sayings) (n := 63) (k := 15) (x := "_law_script") (CX := L2.CX0) rfl (by decide) (by kernel_rfl) ⟨rfl, by decide, by decide⟩ ?F (fun _ _ _ _ z => z)
    intro w mg fa h Y G hmg0
    obtain ⟨K, KX, c⟩ := Y
    have hmg : mg ("law" : PySem.Str) = some (.ref fa) := by
      have e : (HandSHeadRun.topDef (OpenLaw.row PySem.Challenge.rw_rootfloor_k31_texts_of_sayings).prog 27).name = ("law" : PySem.Str) := by kernel_rfl
      rw [← e]
      exact hmg0
    obtain ⟨fd, hb, hF⟩ := RF.facts (P := (PySem.Challenge.rw_rootfloor_k31_texts_of_sayings).prog) (w := w) KX G hmg c
    exact ⟨K, fd, RF.spLaw K, KX, hb, fun H a ns hl _ hS => ⟨a, ns, rfl, hS, fun _ => rfl⟩, hF⟩
