import PyProof.Rows.All
import Wide.All
import OpenK.AllK
import Wide.FinOn
import KE.KStateDown
import HandS.ForMost
import HandS.More
import HandS.Exc
import HandS.WordsExc
import HandS.Defaults
import HandS.IsInst
import HandS.TupAny
import HandS.Style
import HandS.Zip
import HandS.Conv
import HandS.Evl
import HandS.Walk
import HandS.Steps
import HandS.Wide
import HandS.WideBits
import HandS.Head0
import HandS.Head1
import HandS.Head2
import HandS.HeadEnd
import HandS.HeadHook1
import HandS.HeadHook2
import HandS.HeadHook3
import HandS.HeadHook4
import PySem.Challenge.RW_rootfloor_k25_terms_and_slopes_recognize
set_option Elab.async false
set_option linter.all false
set_option maxRecDepth 100000
set_option maxHeartbeats 4000000
namespace RF
open PySem PySem.Spec PyProof.Rows L2
/-! ## the common layer: heaps that grow, readings step by step, defs by name -/
section heaps
/-- a bag: the law's own list of four -/
def isBag : HO → Bool
  | .lst [.ref _, .int _, .int _, .int _] => true
  | _ => false
/-- what is no bag stays as it is -/
def Ext (H H' : Hp) : Prop := ∀ b o, H b = some o → isBag o = false → H' b = some o
theorem Ext.refl (H : Hp) : Ext H H := fun _ _ h _ => h
theorem Ext.trans {H H1 H2 : Hp} (a : Ext H H1) (b : Ext H1 H2) : Ext H H2 := fun c o h n => b c o (a c o h n) n
theorem Ext.of {H H1 : Hp} (a : Same H H1) : Ext H H1 := fun c o h _ => a c o h
theorem Ext.get {H H' : Hp} {b : Addr} {o : HO} (e : Ext H H') (h : H b = some o) (n : isBag o = false) : H' b = some o := e b o h n
theorem Same.get {H H' : Hp} {b : Addr} {o : HO} (e : Same H H') (h : H b = some o) : H' b = some o := e b o h
theorem Same.new {H : Hp} {p : Addr} {o : HO} (h : H p = none) : Same H (upd H p o) := fun a u e => by
  rw [upd_ne (ne_of_none e h)]
  exact e
theorem bag_ints (ns : List Int) : isBag (.lst (ns.map V.int)) = false := by
  cases ns with
  | nil => rfl
  | cons a l => rfl
theorem bag_refs (ps : List Addr) : isBag (.lst (ps.map V.ref)) = false := by
  match ps with
  | [] => rfl
  | [_] => rfl
  | _ :: _ :: _ => rfl
theorem bag_strs (ps : List Str) : isBag (.lst (ps.map V.str)) = false := by
  cases ps with
  | nil => rfl
  | cons a l => rfl
theorem bag_bls (ps : List Bool) : isBag (.lst (ps.map V.bl)) = false := by
  cases ps with
  | nil => rfl
  | cons a l => rfl
theorem SqL.ext {K : PySem.W.Frag} {H H' : Hp} {a : Addr} {xs : List V} (e : Ext H H') (h : SqL K H a xs) (n : isBag (.lst xs) = false) : SqL K H' a xs := by
  rcases h with (h | ⟨o, h⟩) | h
  · exact .inl (.inl (e _ _ h n))
  · exact .inl (.inr ⟨o, e _ _ h rfl⟩)
  · exact .inr h
theorem SqT.ext {K : PySem.W.Frag} {H H' : Hp} {a : Addr} {xs : List V} (e : Ext H H') (h : SqT K H a xs) : SqT K H' a xs := by
  rcases h with (h | ⟨o, h⟩) | h
  · exact .inl (.inl (e _ _ h rfl))
  · exact .inl (.inr ⟨o, e _ _ h rfl⟩)
  · exact .inr h
theorem SqT.same {K : PySem.W.Frag} {H H' : Hp} {a : Addr} {xs : List V} (e : Same H H') (h : SqT K H a xs) : SqT K H' a xs := SqT.ext (.of e) h
theorem sqT_of {K : PySem.W.Frag} {H : Hp} {a : Addr} {xs : List V} (h : H a = some (.tup xs)) : SqT K H a xs := .inl (.inl h)
theorem sqL_of {K : PySem.W.Frag} {H : Hp} {a : Addr} {xs : List V} (h : H a = some (.lst xs)) : SqL K H a xs := .inl (.inl h)
theorem sz_small {n : Nat} (h : n ≤ 100000) : n ≤ sizeLine := Nat.le_trans h (by decide)
theorem sz_smaller {n : Nat} (h : n < 100000) : n < sizeLine := Nat.lt_of_lt_of_le h (by decide)
end heaps

/-- all but p is as it was -/
def Chg (p : Addr) (H H' : Hp) : Prop := ∀ b, b ≠ p → H' b = H b
theorem Chg.of {p : Addr} {H : Hp} {o : HO} : Chg p H (upd H p o) := fun _ h => upd_ne h
theorem Chg.get {p b : Addr} {H H' : Hp} {o u : HO} (c : Chg p H H') (h : H b = some o) (hp : H p = some u) (n : o ≠ u) : H' b = some o := by
  rw [c b (ne_of h hp n)]
  exact h
theorem Chg.ext {p : Addr} {H H' : Hp} {u : HO} (c : Chg p H H') (hp : H p = some u) (hu : isBag u = true) : Ext H H' := fun b o h n => by
  rw [c b fun e => by subst e; rw [hp] at h; cases h; rw [hu] at n; cases n]
  exact h
/-- a new tuple, a new list -/
def NewT (xs : List V) (H : Hp) (Q : VK) : Prop := xs.length ≤ sizeLine ∧ ∀ p, H p = none → Q (.ref p) (upd H p (.tup xs))
def NewL (xs : List V) (H : Hp) (Q : VK) : Prop := xs.length ≤ sizeLine ∧ ∀ p, H p = none → Q (.ref p) (upd H p (.lst xs))
section readings
variable {K : PySem.W.Frag} {σ : L2.St} {H : Hp} {Q : VK} {v x y : V} {ta tb tc te : TE} {tt uu : TT} {QB : Bool → Hp → Prop} {QA : List V → Hp → Prop} {D : Ends} {ts tu : TS} {r r' : R2} {g : TG}
theorem rd_var {i : Nat} (h : σ[i]? = some (some v)) (q : Q v H) : tVar i σ H Q := ⟨v, h, q⟩
theorem rd_c (q : Q v H) : tC v σ H Q := q
theorem rd_op (h : ta σ H fun x H1 => tb σ H1 fun y H2 => r x y H2 Q) : tOp r ta tb σ H Q := h
theorem rd_un {ru : V → Hp → VK → Prop} (h : ta σ H fun x H1 => ru x H1 Q) : tUn ru ta σ H Q := h
theorem rd_I0 {gg : Int → Int → V} {i j : Int} (q : Q (gg i j) H) : rI0 gg (.int i) (.int j) H Q := ⟨i, j, rfl, rfl, q⟩
theorem rd_I {C : Int → Int → Prop} {gg : Int → Int → V} {i j : Int} (c : C i j) (q : Q (gg i j) H) : rI C gg (.int i) (.int j) H Q := ⟨i, j, rfl, rfl, c, q⟩
theorem rd_U {gg : Int → V} {i : Int} (q : Q (gg i) H) : rU gg (.int i) H Q := ⟨i, rfl, q⟩
theorem rd_eq (h : scal x y = true) (q : Q (.bl (decide (x = y))) H) : rEq x y H Q := ⟨h, q⟩
theorem rd_ne (h : scal x y = true) (q : Q (.bl (!decide (x = y))) H) : rNe x y H Q := ⟨h, q⟩
theorem rd_ixL {p : Addr} {xs : List V} {i : Int} (h : SqL K H p xs) (ha : atI xs i = some v) (q : Q v H) : rIxL K (.ref p) (.int i) H Q := ⟨p, xs, i, v, rfl, rfl, h, ha, q⟩
theorem rd_ixT {p : Addr} {xs : List V} {i : Int} (h : SqT K H p xs) (ha : atI xs i = some v) (q : Q v H) : rIxT K (.ref p) (.int i) H Q := ⟨p, xs, i, v, rfl, rfl, h, ha, q⟩
theorem rd_test (h : te σ H fun x H' => ∃ k, x = .bl k ∧ QB k H') : tTest te σ H QB := h
theorem rd_B (h : te σ H fun x H' => ∃ k, x = .bl k ∧ QB k H') : tB te σ H QB := h
theorem rd_bl {P : Bool → Prop} {b : Bool} (q : P b) : ∃ k, V.bl b = .bl k ∧ P k := ⟨b, rfl, q⟩
theorem rd_and (h : tt σ H fun c H1 => if c = true then uu σ H1 QB else QB false H1) : tAnd tt uu σ H QB := h
theorem rd_or (h : tt σ H fun c H1 => if c = true then QB true H1 else uu σ H1 QB) : tOr tt uu σ H QB := h
theorem rd_not (h : tt σ H fun c H1 => QB (!c) H1) : tNot tt σ H QB := h
theorem rd_andV (h : ta σ H fun x H1 => ∃ c, x = .bl c ∧ if c = true then tb σ H1 Q else Q (.bl false) H1) : tAndV ta tb σ H Q := h
theorem rd_orV (h : ta σ H fun x H1 => ∃ c, x = .bl c ∧ if c = true then Q (.bl true) H1 else tb σ H1 Q) : tOrV ta tb σ H Q := h
theorem rd_notV (h : ta σ H fun x H1 => ∃ c, x = .bl c ∧ Q (.bl (!c)) H1) : tNotV ta σ H Q := h
theorem rd_if (h : tt σ H fun c H1 => if c = true then ta σ H1 Q else tb σ H1 Q) : tIf tt ta tb σ H Q := h
theorem rd_chain (h : ta σ H fun x H1 => tb σ H1 fun y H2 => r x y H2 fun z H3 => ∃ k, z = .bl k ∧ (if k = true then tc σ H3 fun w' H4 => r' y w' H4 Q else Q (.bl false) H3)) : tChain r r' ta tb tc σ H Q := h
theorem rd_isN (h : ta σ H fun x H1 => Q (.bl (decide (x = .non))) H1) : tIsN ta σ H Q := h
theorem rd_nil (q : QA [] H) : tNil σ H QA := q
theorem rd_cons {tr : TA} (h : ta σ H fun x H1 => tr σ H1 fun xs H2 => QA (x :: xs) H2) : tCons ta tr σ H QA := h
theorem rd_tup {t : TA} (h : t σ H fun xs H1 => NewT xs H1 Q) : tTup t σ H Q := h
theorem rd_lst {t : TA} (h : t σ H fun xs H1 => NewL xs H1 Q) : tLst t σ H Q := h
theorem rd_newT {xs : List V} (hl : xs.length ≤ sizeLine) (q : ∀ p H2, H p = none → Same H H2 → H2 p = some (.tup xs) → Q (.ref p) H2) : NewT xs H Q := ⟨hl, fun p hp => q p _ hp (Same.new hp) upd_same⟩
theorem rd_newL {xs : List V} (hl : xs.length ≤ sizeLine) (q : ∀ p H2, H p = none → Same H H2 → H2 p = some (.lst xs) → Q (.ref p) H2) : NewL xs H Q := ⟨hl, fun p hp => q p _ hp (Same.new hp) upd_same⟩
theorem rd_seq (h : ts { D with nx := tu D } σ H) : tSeq ts tu D σ H := h
theorem rd_ifS (h : tt σ H fun b H1 => if b = true then ts D σ H1 else tu D σ H1) : tIfS tt ts tu D σ H := h
theorem rd_asg (h : te σ H fun x H1 => g x σ H1 D.nx) : tAsg te g D σ H := h
theorem rd_gName {i : Nat} {N : L2.St → Hp → Prop} (q : N (σ.set i (some v)) H) : gName i v σ H N := q
theorem rd_ret (h : te σ H D.rt) : tRet te D σ H := h
theorem rd_drop (h : te σ H fun _ H1 => D.nx σ H1) : tDrop te D σ H := h
theorem rd_next (q : D.nx σ H) : tNext D σ H := q
theorem rd_CB {rr : List V → Hp → VK → Prop} {t : TA} (h : t σ H fun vs H1 => rr vs H1 Q) : tCB rr t σ H Q := h
theorem rd_call {sp : Sp} {dvs : List V} {E : XK} {t : TA} (h : t σ H fun vs H1 => sp (vs ++ dvs) H1 Q E) : tCall sp dvs E t σ H Q := h
theorem rd_true {A B : Prop} (h : A) : if true = true then A else B := iteT h
theorem rd_false {A B : Prop} (h : B) : if false = true then A else B := iteF h
theorem rd_dec {c A B : Prop} [Decidable c] (h1 : c → A) (h2 : ¬ c → B) : if decide c = true then A else B := by
  by_cases h : c
  · rw [decide_eq_true h]; exact iteT (h1 h)
  · rw [decide_eq_false h]; exact iteF (h2 h)
theorem rd_ndec {c A B : Prop} [Decidable c] (h1 : ¬ c → A) (h2 : c → B) : if (!decide c) = true then A else B := by
  by_cases h : c
  · rw [decide_eq_true h]; exact iteF (h2 h)
  · rw [decide_eq_false h]; exact iteT (h1 h)
theorem rd_bool {b : Bool} {A B : Prop} (h1 : b = true → A) (h2 : b = false → B) : if b = true then A else B := by
  cases b with
  | true => exact iteT (h1 rfl)
  | false => exact iteF (h2 rfl)
theorem rd_gSub {to ti : TE} {tset : TSet} {N : L2.St → Hp → Prop} (h : to σ H fun o H1 => ti σ H1 fun i H2 => tset o i v H2 fun H3 => N σ H3) : gSub to ti tset v σ H N := h
theorem rd_setL {p : Addr} {xs : List V} {k : Int} {j : Nat} {N : Hp → Prop} (h : H p = some (.lst xs)) (hj : ixN xs.length k = some j) (q : ∀ H2, Chg p H H2 → H2 p = some (.lst (xs.set j v)) → N H2) : rSetL (.ref p) (.int k) v H N := ⟨p, xs, k, j, rfl, rfl, h, hj, q _ Chg.of upd_same⟩
theorem rd_gTup {n : Nat} {t : TGs} {a : Addr} {xs : List V} {N : L2.St → Hp → Prop} (h : SqT K H a xs) (hl : xs.length = n) (q : t xs σ H N) : gTup K n t (.ref a) σ H N := ⟨a, xs, rfl, h, hl, q⟩
theorem rd_gCons {t : TG} {u : TGs} {vs : List V} {N : L2.St → Hp → Prop} (q : t v σ H fun σ' H' => u vs σ' H' N) : gCons t u (v :: vs) σ H N := ⟨v, vs, rfl, q⟩
theorem rd_gNil {N : L2.St → Hp → Prop} (q : N σ H) : gNil [] σ H N := ⟨rfl, q⟩
theorem rd_sl {rs : V → Option Int → Option Int → Hp → VK → Prop} {tl th : TO} (h : te σ H fun x H1 => tl σ H1 fun l H2 => th σ H2 fun u H3 => rs x l u H3 Q) : tSl rs te tl th σ H Q := h
theorem rd_noPart {QO : Option Int → Hp → Prop} (q : QO none H) : tNoPart σ H QO := q
theorem rd_part {QO : Option Int → Hp → Prop} (h : te σ H fun x H1 => ∃ i, x = .int i ∧ QO (some i) H1) : tPart te σ H QO := h
theorem rd_int {P : Int → Prop} {i : Int} (q : P i) : ∃ k, V.int i = .int k ∧ P k := ⟨i, rfl, q⟩
end readings

section calls
variable {P : Program} {w : World} {K : PySem.W.Frag} {mg : Str → Option Value} {base : Heap}
/-- the def named x keeps the promise sp -/
def Ok (P : Program) (w : World) (K : PySem.W.Frag) (mg : Str → Option Value) (base : Heap) (k : Nat) (x : Str) (ps : List Str) (sp : Sp) : Prop :=
  ∃ f fd, FnOk P w K mg base CX0 k f fd ps sp ∧ mg x = some (.ref f) ∧ PySem.W.keepIn K (.ref f) = true ∧ Binds K fd ps [] ∧ ∃ oc od osl, K.lookup f = some ⟨oc, od, .func fd, osl⟩
theorem Ok.mono {j k : Nat} {x : Str} {ps : List Str} {sp : Sp} (h : Ok P w K mg base j x ps sp) (l : j ≤ k) : Ok P w K mg base k x ps sp := by
  obtain ⟨f, fd, F, a, b, c⟩ := h
  exact ⟨f, fd, F.mono l, a, b, c⟩
theorem Ok.imp {k : Nat} {x : Str} {ps : List Str} {sp sp' : Sp} (h : Ok P w K mg base k x ps sp) (i : ∀ vs H Q E, sp' vs H Q E → sp vs H Q E) : Ok P w K mg base k x ps sp' := by
  obtain ⟨f, fd, F, a, b, c⟩ := h
  exact ⟨f, fd, F.imp i, a, b, c⟩
theorem pe_ok {X : Cx} {k : Nat} {x : Str} {ps : List Str} {sp : Sp} {e : Expr} {es : List Expr} {t : TA} {p pos : Pos} (h : Ok X.prog X.w X.K X.mg X.base k x ps sp) (hr : Room k X.A) (hg : Gl X x) (ha : PA X (e :: es) t)
    (hdb : (x == ("__debug__" : Str)) = false := by decide) (he : starEach (e :: es) X.env = (false, eval e X.env) :: starEach es X.env := by rfl) (hpl : (backTo pos (starEach es X.env)).any (·.1) = false := by rfl) :
    PE X (.Call (.Name x p) (e :: es) [] pos) (tCall sp [] E0 t) := by
  obtain ⟨f, fd, F, hm, kp, hb, _⟩ := h
  exact pe_call F hr hg hm kp hb .nil pass0 ha (hdb := hdb) (he := he) (hpl := hpl)
/-- a def as the top has left it -/
abbrev FnP (K : PySem.W.Frag) (x : Str) (st : Stmt) (f : Addr) : Prop := ∃ fd, FunD K x x (defArgs st) (defBody st) (defScope st) [] [] f fd
theorem fund_at {K : PySem.W.Frag} {x qual : Str} {params : Arguments} {body : List Stmt} {scope : Scope} {dvs : List V} {kws : List (Str × V)} {f : Addr} {fd : FuncData} (F : FunD K x qual params body scope dvs kws f fd) : ∃ oc od osl, K.lookup f = some ⟨oc, od, .func fd, osl⟩ := by
  obtain ⟨oc, od, _, _, _, _, _, _, _, osl, _, h, _⟩ := F.ex
  exact ⟨oc, od, osl, h⟩
theorem Ok.mk {x : Str} {st : Stmt} {f : Addr} {N ps : List Str} {k : Nat} {sp : Sp} (F : FnP K x st f) (hm : mg x = some (.ref f)) (S : FnScope N ps (defScope st))
    (hb : ∀ (kV doc pm : Value) (an : Option Addr) (cdv ct : Value) (us : List Value), us.length = ps.length → bindArgs (PySem.W.fnOf x x (defArgs st) (defBody st) (defScope st) .none kV doc pm an cdv ct) ⟨us, []⟩ = pure (ps.zip us))
    (len : ∀ vs H Q E, sp vs H Q E → vs.length = ps.length)
    (hbody : ∀ (cdv : Value) (A : Around) (outer : List Env) (s : Shared) (H : Hp) (vs : List V) (Q : VK) (E : XK), Room k (A.deeper (envOfC x (defScope st) s.heap.objs.size f cdv)) → sp vs H Q E →
      ∃ t, PSs (cxOf CX0 P w K mg base N x (defScope st) f cdv A outer s H E).nox (defBody st) t ∧ t { nx := fun _ H' => Q .non H', rt := Q } (start N vs) H) : Ok P w K mg base (k + 1) x ps sp := by
  obtain ⟨fd, F⟩ := F
  exact ⟨f, fd, F.ok S len fun cdv A outer s H vs Q E hr h => by
    obtain ⟨t, a, b⟩ := hbody cdv A outer s H vs Q E hr h
    exact ⟨t, a.nox, b⟩, hm, F.kp, F.bindsN hb, fund_at F⟩
end calls

section builtins
def rLenX (K : PySem.W.Frag) : List V → Hp → VK → Prop := fun xs H Q => ∃ x n, xs = [x] ∧ LenV K x H n ∧ Q (.int n) H
def rAbsX : List V → Hp → VK → Prop := fun xs H Q => ∃ i, xs = [.int i] ∧ Q (.int (if i < 0 then -i else i)) H
def rIntX : List V → Hp → VK → Prop := fun xs H Q => (∃ i, xs = [.int i] ∧ Q (.int i) H) ∨ ∃ k, xs = [.bl k] ∧ Q (.int (if k then 1 else 0)) H
def rBoolX : List V → Hp → VK → Prop := fun xs H Q => (∃ i, xs = [.int i] ∧ Q (.bl (i != 0)) H) ∨ ∃ k, xs = [.bl k] ∧ Q (.bl k) H
def rStrX : List V → Hp → VK → Prop := fun xs H Q => ∃ i, xs = [.int i] ∧ i.natAbs.log2 < 1920 ∧ Q (.str (toString i)) H
def rListX (K : PySem.W.Frag) : List V → Hp → VK → Prop := fun xs H Q => ∃ p ys, xs = [.ref p] ∧ (SqL K H p ys ∨ SqT K H p ys) ∧ ∀ l, H l = none → Q (.ref l) (upd H l (.lst ys))
section
variable {X : Cx}
theorem c_len : CallR X (.builtin "len") (rLenX X.K) := call_len
theorem c_abs : CallR X (.builtin "abs") rAbsX := call_abs
theorem c_int : CallR X (.type "int") rIntX := call_int1
theorem c_bool : CallR X (.type "bool") rBoolX := call_bool1
theorem c_str : CallR X (.type "str") rStrX := call_str_int
theorem c_list : CallR X (.type "list") (rListX X.K) := call_list_of
theorem pe_gint {x : Str} {i : Int} {pos : Pos} (h : ∃ t, X.mg x = some (.int i t)) (hg : Gl X x) (hd : (x == ("__debug__" : Str)) = false := by decide) : PE X (.Name x pos) (tC (.int i)) := by
  obtain ⟨t, h⟩ := h
  exact pe_glob hg h ⟨t, rfl⟩ hd
theorem pe_gstr {x z : Str} {pos : Pos} (h : ∃ t, X.mg x = some (.str z t)) (hg : Gl X x) (hd : (x == ("__debug__" : Str)) = false := by decide) : PE X (.Name x pos) (tC (.str z)) := by
  obtain ⟨t, h⟩ := h
  exact pe_glob hg h ⟨t, rfl⟩ hd
theorem pe_gref {x : Str} {a : Addr} {pos : Pos} (h : X.mg x = some (.ref a)) (hg : Gl X x) (hd : (x == ("__debug__" : Str)) = false := by decide) : PE X (.Name x pos) (tC (.ref a)) := pe_glob hg h rfl hd
theorem pe_gty {x : Str} {T : String} {pos : Pos} (h : X.mg x = none) (hg : Gl X x) (hv : bootBuiltins x = some (.type T)) (hn : x ≠ "__name__" := by decide) (hd : (x == ("__debug__" : Str)) = false := by decide) : PE X (.Name x pos) (tC (.ty T)) := pe_bltn hg h hv rfl hn hd
end
variable {K : PySem.W.Frag} {H : Hp} {Q : VK}
theorem rd_lenL {p : Addr} {xs : List V} (h : SqL K H p xs) (q : Q (.int xs.length) H) : rLenX K [.ref p] H Q := ⟨_, _, rfl, .inl ⟨_, h, rfl⟩, q⟩
theorem rd_lenT {p : Addr} {xs : List V} (h : SqT K H p xs) (q : Q (.int xs.length) H) : rLenX K [.ref p] H Q := ⟨_, _, rfl, .inr ⟨_, h, rfl⟩, q⟩
theorem rd_lenS {x : Str} (h : x.length ≤ sizeLine) (q : Q (.int x.length) H) : rLenX K [.str x] H Q := ⟨_, _, rfl, ⟨h, rfl⟩, q⟩
theorem rd_abs {i : Int} (q : Q (.int i.natAbs) H) : rAbsX [.int i] H Q := ⟨i, rfl, by
  have e : (if i < 0 then -i else i) = (i.natAbs : Int) := by split <;> omega
  rw [e]; exact q⟩
theorem rd_intI {i : Int} (q : Q (.int i) H) : rIntX [.int i] H Q := .inl ⟨i, rfl, q⟩
theorem rd_intB {b : Bool} (q : Q (.int (if b then 1 else 0)) H) : rIntX [.bl b] H Q := .inr ⟨b, rfl, q⟩
theorem rd_list {p : Addr} {ys : List V} (h : SqL K H p ys ∨ SqT K H p ys) (q : ∀ l H2, H l = none → Same H H2 → H2 l = some (.lst ys) → Q (.ref l) H2) : rListX K [.ref p] H Q := ⟨p, ys, rfl, h, fun l hl => q l _ hl (Same.new hl) upd_same⟩
theorem rd_slL {p : Addr} {xs : List V} {lo hi : Option Int} (h : SqL K H p xs) (q : ∀ l H2, H l = none → Same H H2 → H2 l = some (.lst (cutV xs lo hi)) → Q (.ref l) H2) : rSlL K (.ref p) lo hi H Q := ⟨p, xs, rfl, h, fun l hl => q l _ hl (Same.new hl) upd_same⟩
end builtins

/-! ## the law's bag -/
section bag
/-- a bag at a: its cells at c hold ns -/
def Bag (a c : Addr) (ns : List Int) (H : Hp) : Prop := ∃ i g s : Int, H a = some (.lst [.ref c, .int i, .int g, .int s]) ∧ H c = some (.lst (ns.map V.int)) ∧ 0 ≤ i ∧ 0 ≤ g ∧ 0 ≤ s ∧ s < 2147483647
theorem Bag.same {a c : Addr} {ns : List Int} {H H' : Hp} (b : Bag a c ns H) (e : Same H H') : Bag a c ns H' := by
  obtain ⟨i, g, s, h1, h2, h3⟩ := b
  exact ⟨i, g, s, e _ _ h1, e _ _ h2, h3⟩
theorem atI_ints {ns : List Int} {i : Int} (h0 : 0 ≤ i) (h1 : i < (ns.map V.int).length) : ∃ z, atI (ns.map V.int) i = some (.int z) := by
  rw [List.length_map] at h1
  have hl : i.toNat < ns.length := by omega
  have e : ((i.toNat : Nat) : Int) = i := by omega
  have q : atI (ns.map V.int) ((i.toNat : Nat) : Int) = some (.int ns[i.toNat]) := atI_nat (by rw [List.getElem?_map, List.getElem?_eq_getElem hl] <;> rfl)
  rw [e] at q
  exact ⟨_, q⟩
def spBag (K : PySem.W.Frag) : Sp := fun vs H Q _ => ∃ (a : Addr) (ns : List Int), vs = [.ref a] ∧ SqL K H a (ns.map V.int) ∧
  ∀ b c ms H', Same H H' → Bag b c ms H' → Q (.ref b) H'
def spPull : Sp := fun vs H Q _ => ∃ (a c : Addr) (ns : List Int) (n : Int), vs = [.ref a, .int n] ∧ Bag a c ns H ∧ 0 < n ∧ n < 1073741824 ∧
  ∀ d H', 0 ≤ d → d < n → Ext H H' → Bag a c ns H' → Q (.int d) H'
def spOf (K : PySem.W.Frag) : Sp := fun vs H Q _ => ∃ (a c l : Addr) (ns : List Int) (xs : List V), vs = [.ref a, .ref l] ∧ Bag a c ns H ∧ SqL K H l xs ∧ isBag (.lst xs) = false ∧ xs ≠ [] ∧ xs.length < 1073741824 ∧
  ∀ v H', v ∈ xs → Ext H H' → Bag a c ns H' → Q v H'
end bag
section never
variable {P : Program} {w : World} {K : PySem.W.Frag} {mg : Str → Option Value} {base : Heap}
/-- a def that is not called keeps the promise that asks for what can't be -/
theorem Ok.never {x : Str} {st : Stmt} {f : Addr} {ps : List Str} {k : Nat} (F : FnP K x st f) (hm : mg x = some (.ref f))
    (hb : ∀ (kV doc pm : Value) (an : Option Addr) (cdv ct : Value) (us : List Value), us.length = ps.length → bindArgs (PySem.W.fnOf x x (defArgs st) (defBody st) (defScope st) .none kV doc pm an cdv ct) ⟨us, []⟩ = pure (ps.zip us)) : Ok P w K mg base k x ps fun _ _ _ _ => False := by
  obtain ⟨fd, F⟩ := F
  exact ⟨f, fd, ⟨fun _ _ _ _ h => h.elim, fun _ _ _ _ _ _ _ _ _ _ _ _ _ h => h.elim⟩, hm, F.kp, F.bindsN hb, fund_at F⟩
end never

def CalN (n m : Nat) (sp : Sp) (gV : List V → List V → List V) (E : XK) (vs zs : List V) (H : Hp) (Q : VK) : Prop := vs.length = n ∧ zs.length = m ∧ sp (gV vs zs) H Q E
def BmL (K : PySem.W.Frag) (T : String) (r : V → List V → Hp → VK → Prop) (t : TA) (σ : L2.St) (x : V) (H : Hp) (Q : VK) : Prop := tyV K T x H ∧ t σ H fun xs H2 => r x xs H2 Q
def ParB (i j : Nat) (vs : List V) (N : L2.St → Hp → Prop) (σ : L2.St) (H : Hp) : Prop := ∃ v w, vs = [v, w] ∧ N ((σ.set i (some v)).set j (some w)) H
section keywords
/-- the def named x, called with n values by position and the keywords ks -/
def OkK (P : Program) (w : World) (K : PySem.W.Frag) (mg : Str → Option Value) (base : Heap) (k : Nat) (x : Str) (ps : List Str) (n : Nat) (ks : List Str) (gV : List V → List V → List V) (sp : Sp) : Prop :=
  ∃ f fd g, FnOk P w K mg base CX0 k f fd ps sp ∧ mg x = some (.ref f) ∧ PySem.W.keepIn K (.ref f) = true ∧ KBn K fd ps n ks g gV
theorem OkK.mk {P : Program} {w : World} {K : PySem.W.Frag} {mg : Str → Option Value} {base : Heap} {x : Str} {st : Stmt} {f : Addr} {ps ks : List Str} {k n : Nat} {sp : Sp} (h : Ok P w K mg base k x ps sp) (F : FnP K x st f) (hm : mg x = some (.ref f)) (g : {α : Type} → List α → List α → List α)
    (hrel : ∀ {vs zs : List V} {us ws : List Value}, Vals vs us → Vals zs ws → Vals (g vs zs) (g us ws))
    (hb : ∀ (kV doc pm : Value) (an : Option Addr) (cdv ct : Value) (us ws : List Value), us.length = n → ws.length = ks.length → bindArgs (PySem.W.fnOf x x (defArgs st) (defBody st) (defScope st) .none kV doc pm an cdv ct) ⟨us, ks.zip ws⟩ = pure (ps.zip (g us ws))) :
    OkK P w K mg base k x ps n ks g sp := by
  obtain ⟨fd, F⟩ := F
  obtain ⟨f2, fd2, FO, hm2, kp, _, oc2, od2, osl2, l2⟩ := h
  rw [hm] at hm2
  cases hm2
  obtain ⟨oc, od, dV, kV, doc, pm, an, cdv, ct, osl, rfl, lk, hcd, hD, hK⟩ := F.ex
  rw [lk] at l2
  cases l2
  rcases hD with ⟨_, rfl⟩ | ⟨e, _⟩
  · exact ⟨f, _, g, FO, hm, kp, ⟨fun s us ws _ h1 h2 => .of_eq (hb kV doc pm an cdv ct us ws h1 h2), fun r1 r2 => hrel r1 r2⟩⟩
  · exact absurd rfl e
section
variable {X : Cx} {k n : Nat} {x : Str} {ps ks : List Str} {gV : List V → List V → List V} {sp : Sp} {e : Expr} {es : List Expr} {kws : List Keyword} {t tk : TA} {p pos : Pos}
/-- f(k = v, ..) -/
theorem pe_okK0 (h : OkK X.prog X.w X.K X.mg X.base k x ps 0 ks gV sp) (hr : Room k X.A) (hg : Gl X x) (hkw : PK X kws tk)
    (hall : (backToKw pos (keywordEach kws X.env)).all (·.1.isSome) = true := by rfl) (hks : (backToKw pos (keywordEach kws X.env)).filterMap (·.1) = ks := by rfl) (hdb : (x == ("__debug__" : Str)) = false := by decide)
    (hpl : ((backTo pos (starEach [] X.env)).any (·.1) || (backToKw pos (keywordEach kws X.env)).any (·.1.isNone)) = false := by rfl) :
    PE X (.Call (.Name x p) [] kws pos) (L2.tCallN 0 ks.length sp gV E0 tNil tk) := by
  obtain ⟨f, fd, g, F, hm, kp, hb⟩ := h
  refine ⟨fun pins s σ H Q I h => ?_⟩
  refine wpAny_Call_Name_kw (ld_glob I hg hm ?_ hdb)
  refine PySem.W.callWith_KW0 (h₀ := X.base) I.ok.mod.kin kp hall ?_ hpl
  refine thn (hkw.run pos pins s σ H _ I h) fun ws s2 ⟨zs, H2, I2, rz, l1, l2, q2⟩ => ⟨I2.kIn, ?_⟩
  rw [hks]
  exact run_fnN (us := []) (vs := []) F hr hb pass0 I2 .nil rz rfl l2 q2
/-- f(e, .., k = v, ..) -/
theorem pe_okK (h : OkK X.prog X.w X.K X.mg X.base k x ps n ks gV sp) (hr : Room k X.A) (hg : Gl X x) (ha : PA X (e :: es) t) (hkw : PK X kws tk)
    (hall : (backToKw pos (keywordEach kws X.env)).all (·.1.isSome) = true := by rfl) (hks : (backToKw pos (keywordEach kws X.env)).filterMap (·.1) = ks := by rfl) (hdb : (x == ("__debug__" : Str)) = false := by decide)
    (he : starEach (e :: es) X.env = (false, eval e X.env) :: starEach es X.env := by rfl) (hpl : ((backTo pos (starEach (e :: es) X.env)).any (·.1) || (backToKw pos (keywordEach kws X.env)).any (·.1.isNone)) = false := by rfl) :
    PE X (.Call (.Name x p) (e :: es) kws pos) (L2.tCallN n ks.length sp gV E0 t tk) := by
  obtain ⟨f, fd, g, F, hm, kp, hb⟩ := h
  exact pe_callN F hr hg hm kp hb pass0 ha hkw hall hks hdb he hpl
theorem rd_callN {σ : L2.St} {H : Hp} {Q : VK} {E : XK} {m : Nat} (h : t σ H fun vs H1 => tk σ H1 fun zs H2 => CalN n m sp gV E vs zs H2 Q) : L2.tCallN n m sp gV E t tk σ H Q := h
end
end keywords
section tuples
variable {K : PySem.W.Frag} {σ : L2.St} {H : Hp} {Q : VK} {ta : TE}
theorem rd_slA {p : Addr} {xs : List V} {lo hi : Option Int} (h : H p = some (.tup xs)) (q : ∀ b H2, Same H H2 → H2 b = some (.tup (cutV xs lo hi)) → Q (.ref b) H2) : rSlA K (.ref p) lo hi H Q := by
  refine ⟨p, xs, rfl, sqT_of h, fun e => q p H (.refl _) ?_, fun _ b hb => q b _ (Same.new hb) upd_same⟩
  have e2 : cutV xs lo hi = xs := by
    unfold cutV
    rw [e.1, e.2]
    exact List.take_length
  rw [e2]
  exact h
theorem rd_catA {p q : Addr} {xs ys : List V} (h1 : H p = some (.tup xs)) (h2 : H q = some (.tup ys)) (hl : xs.length + ys.length ≤ sizeLine) (k : ∀ b H2, Same H H2 → H2 b = some (.tup (xs ++ ys)) → Q (.ref b) H2) : rCatA K (.ref p) (.ref q) H Q := by
  refine ⟨p, q, xs, ys, rfl, rfl, sqT_of h1, sqT_of h2, hl, fun e => k q H (.refl _) ?_, fun _ e => k p H (.refl _) ?_, fun _ _ b hb => k b _ (Same.new hb) upd_same⟩
  · rw [e]; exact h2
  · rw [e, List.append_nil]; exact h1
theorem rd_then {kk : V → Hp → VK → Prop} (h : ta σ H fun x H1 => kk x H1 Q) : tThen ta kk σ H Q := h
theorem rd_kTupL {p : Addr} {xs : List V} (h : SqL K H p xs) (q : ∀ b H2, H b = none → Same H H2 → H2 b = some (.tup xs) → Q (.ref b) H2) : kTup K (.ref p) H Q := .inl ⟨p, xs, rfl, h, fun b hb => q b _ hb (Same.new hb) upd_same⟩
theorem rd_kTupT {p : Addr} {xs : List V} (h : SqT K H p xs) (q : Q (.ref p) H) : kTup K (.ref p) H Q := .inr ⟨p, xs, rfl, h, q⟩
theorem rd_app {l : Addr} {xs : List V} {y : V} (h : H l = some (.lst xs)) (hl : xs.length < sizeLine) (q : ∀ H2, Chg l H H2 → H2 l = some (.lst (xs ++ [y])) → Q .non H2) : rAppend (.ref l) [y] H Q := ⟨l, xs, y, rfl, rfl, h, hl, q _ Chg.of upd_same⟩
theorem rd_bmL {T : String} {r : V → List V → Hp → VK → Prop} {t : TA} (h : ta σ H fun x H1 => BmL K T r t σ x H1 Q) : tBM K T r ta t σ H Q := h
theorem rd_bml {r : V → List V → Hp → VK → Prop} {t : TA} {l : Addr} {xs : List V} (h : SqL K H l xs) (q : t σ H fun ys H2 => r (.ref l) ys H2 Q) : BmL K "list" r t σ (.ref l) H Q := ⟨.inl ⟨rfl, xs, h⟩, q⟩
theorem rd_par {D : Ends} {i j : Nat} {t : TA} (h : t σ H fun vs H1 => ParB i j vs D.nx σ H1) : tPar i j t D σ H := h
theorem rd_parB {i j : Nat} {v w : V} {N : L2.St → Hp → Prop} (h : N ((σ.set i (some v)).set j (some w)) H) : ParB i j [v, w] N σ H := ⟨v, w, rfl, h⟩
end tuples
section union
theorem Ok.union {P : Program} {w : World} {K : PySem.W.Frag} {mg : Str → Option Value} {base : Heap} {k N : Nat} {x : Str} {ps : List Str} {sp : Nat → Sp} (h : ∀ n, n ≤ N → Ok P w K mg base k x ps (sp n)) : Ok P w K mg base k x ps fun vs H Q E => ∃ n, n ≤ N ∧ sp n vs H Q E := by
  obtain ⟨f, fd, F, a, b, c, oc, od, osl, l⟩ := h 0 (Nat.zero_le _)
  have key : ∀ n, n ≤ N → FnOk P w K mg base CX0 k f fd ps (sp n) := fun n hn => by
    obtain ⟨f', fd', F', a', b', c', oc', od', osl', l'⟩ := h n hn
    rw [a] at a'
    cases a'
    rw [l] at l'
    cases l'
    exact F'
  refine ⟨f, fd, ⟨fun vs H Q E ⟨n, hn, q⟩ => (key n hn).len vs H Q E q, fun A outer s H args us vs Q E hr e0 hb hv ⟨n, hn, q⟩ => (key n hn).run A outer s H args us vs Q E hr e0 hb hv q⟩, a, b, c, oc, od, osl, l⟩
end union
theorem Ok.at {P : Program} {w : World} {K : PySem.W.Frag} {mg : Str → Option Value} {base : Heap} {k : Nat} {x qual : Str} {ps : List Str} {sp : Sp} {params : Arguments} {body : List Stmt} {scope : Scope} {dvs : List V} {kws : List (Str × V)} {f : Addr} {fd : FuncData} (h : Ok P w K mg base k x ps sp) (F : FunD K x qual params body scope dvs kws f fd) (hm : mg x = some (.ref f)) : FnOk P w K mg base CX0 k f fd ps sp := by
  obtain ⟨f', fd', F', a', b', c', oc', od', osl', l'⟩ := h
  rw [hm] at a'
  cases a'
  obtain ⟨oc, od, osl, l⟩ := fund_at F
  rw [l] at l'
  cases l'
  exact F'
/-! ## comprehensions whose turns change nothing; data at any depth -/
section comps
def WkT (K : PySem.W.Frag) (x : V) (H : Hp) (R : It → Hp → Prop) : Prop := ∃ a, x = .ref a ∧ (∃ xs, SqT K H a xs) ∧ R (Itt K a) H
def WkL (K : PySem.W.Frag) (x : V) (H : Hp) (R : It → Hp → Prop) : Prop := ∃ a, x = .ref a ∧ (∃ xs, SqL K H a xs) ∧ R (Itl K a) H
def WkS (x : V) (H : Hp) (R : It → Hp → Prop) : Prop := ∃ z, x = .str z ∧ R (Its z) H
/-- what a comprehension asks behind its iterable -/
def LcB (J : It) (g : TG) (tt : TT) (te : TE) (vs : List Nat) (σ : L2.St) (H : Hp) (Q : VK) : Prop :=
  ∀ D, H D = none → ∃ W : Nat → Nat → Hp → Prop, (∃ m, W 0 m (upd H D (.lst []))) ∧ ∀ i m H', W i m H' →
    (J.stop i H' ∧ Q (.ref D) H') ∨ (J.go i H' ∧ ∃ Nx : Hp → Prop, (∀ H2, Nx H2 → ∃ m', m' < m ∧ W (i + 1) m' H2) ∧ ∀ x H2, J.yld i H' x H2 → g x (wipe σ vs) H2 fun σ2 H3 => wipe σ2 vs = wipe σ vs ∧ tt σ2 H3 fun b H4 =>
      if b = true then te σ2 H4 fun y H5 => ∃ acc, H5 D = some (.lst acc) ∧ acc.length < sizeLine ∧ Nx (upd H5 D (.lst (acc ++ [y]))) else Nx H4)
/-- a comprehension over a walk: turn i gives f i, or nothing; what stood stays -/
theorem lc_pure {J : It} {n : Nat} {G : Hp → Prop} {Y : Nat → Hp → V → Hp → Prop} (wk : Walk J n G Y) {g : TG} {tt : TT} {te : TE} {vs : List Nat} {σ : L2.St} {H : Hp} {Q : VK} (hG : ∀ H', Same H H' → G H') (f : Nat → Option V) (hn : n ≤ 100000)
    (hs : ∀ i x H2 H3 (Q' : VK) (N' : Hp → Prop), i < n → Same H H2 → Y i H2 x H3 → (∀ v H4, f i = some v → Same H2 H4 → Q' v H4) → (∀ H4, f i = none → Same H2 H4 → N' H4) →
      g x (wipe σ vs) H3 fun σ2 H4 => wipe σ2 vs = wipe σ vs ∧ tt σ2 H4 fun b H5 => if b = true then te σ2 H5 Q' else N' H5)
    (hd : ∀ D H', H D = none → Same H H' → H' D = some (.lst ((List.range n).filterMap f)) → Q (.ref D) H') :
    LcB J g tt te vs σ H Q := by
  intro D hD
  have stay : ∀ {H2 : Hp} {o : HO}, Same H H2 → Same H (upd H2 D o) := fun {H2 o} s b u e => by
    rw [upd_ne (ne_of_none e hD)]
    exact s b u e
  refine lc_it wk (Pv := fun i H2 => Same H H2 ∧ H2 D = some (.lst ((List.range i).filterMap f))) ⟨Same.new hD, upd_same⟩ (fun i H2 _ p => hG _ p.1) (fun i x H2 H3 hi p y => ?_) (fun H2 p => hd D H2 hD p.1 p.2)
  refine hs i x H2 H3 _ _ hi p.1 y (fun v H4 hf s4 => ?_) (fun H4 hf s4 => ?_)
  · refine ⟨_, s4 _ _ p.2, ?_, stay (p.1.trans s4), ?_⟩
    · refine Nat.lt_of_le_of_lt (List.length_filterMap_le _ _) ?_
      rw [List.length_range]
      exact sz_smaller (by omega)
    · rw [upd_same, List.range_succ, List.filterMap_append]
      simp [hf]
  · refine ⟨p.1.trans s4, ?_⟩
    rw [s4 _ _ p.2, List.range_succ, List.filterMap_append]
    simp [hf]
section
variable {K : PySem.W.Frag} {σ : L2.St} {H : Hp} {Q : VK} {wi : TI} {g : TG} {tt : TT} {te tl : TE} {vs : List Nat} {QB : Bool → Hp → Prop}
theorem rd_lc (h : wi σ H fun J H1 => LcB J g tt te vs σ H1 Q) : tLc wi g tt te vs σ H Q := h
theorem rd_iTup {R : It → Hp → Prop} (h : tl σ H fun x H1 => WkT K x H1 R) : iTup K tl σ H R := h
theorem rd_iList {R : It → Hp → Prop} (h : tl σ H fun x H1 => WkL K x H1 R) : iList K tl σ H R := h
theorem rd_iStr {R : It → Hp → Prop} (h : tl σ H fun x H1 => WkS x H1 R) : iStr tl σ H R := h
theorem rd_wkT {p : Addr} {xs : List V} {R : It → Hp → Prop} (h : SqT K H p xs) (r : R (Itt K p) H) : WkT K (.ref p) H R := ⟨p, rfl, ⟨xs, h⟩, r⟩
theorem rd_wkL {p : Addr} {xs : List V} {R : It → Hp → Prop} (h : SqL K H p xs) (r : R (Itl K p) H) : WkL K (.ref p) H R := ⟨p, rfl, ⟨xs, h⟩, r⟩
theorem rd_wkS {z : Str} {R : It → Hp → Prop} (r : R (Its z) H) : WkS (.str z) H R := ⟨z, rfl, r⟩
theorem rd_yes (q : QB true H) : tYes σ H QB := q
theorem rd_wipe {σ' : L2.St} {A : Prop} (h : wipe σ vs = wipe σ' vs) (a : A) : wipe σ vs = wipe σ' vs ∧ A := ⟨h, a⟩
end
end comps

section data
theorem rd_nbool {b : Bool} {A B : Prop} (h1 : b = false → A) (h2 : b = true → B) : if (!b) = true then A else B := by
  cases b with
  | true => exact iteF (h2 rfl)
  | false => exact iteT (h1 rfl)
/-- v stands for the datum d, of depth at most n -/
def Dn : Nat → Hp → V → PyData → Prop
  | n, H, v, d => match d with
    | .none => v = .non
    | .bool b => v = .bl b
    | .int i => v = .int i
    | .str x => v = .str x ∧ PyData.strOk x = true ∧ x.length ≤ 100000
    | .list ds => match n with
      | 0 => False
      | m + 1 => ∃ a xs, v = .ref a ∧ H a = some (.lst xs) ∧ isBag (.lst xs) = false ∧ xs.length ≤ 100000 ∧ Paired (Dn m H) xs ds
    | .tuple ds => match n with
      | 0 => False
      | m + 1 => ∃ a xs, v = .ref a ∧ H a = some (.tup xs) ∧ xs.length ≤ 100000 ∧ Paired (Dn m H) xs ds
    | .dict _ => False
  termination_by structural n => n
theorem pimp {α β : Type} {F G : α → β → Prop} {l : List α} {r : List β} (h : Paired F l r) (f : ∀ a b, F a b → G a b) : Paired G l r := by
  induction h with
  | nil => exact .nil
  | cons a _ ih => exact .cons (f _ _ a) ih
theorem Dn.ext {H H' : Hp} (e : Ext H H') : ∀ {n : Nat} {v : V} {d : PyData}, Dn n H v d → Dn n H' v d := by
  intro n
  induction n with
  | zero =>
    intro v d h
    cases d <;> exact h
  | succ m ih =>
    intro v d h
    cases d with
    | list ds =>
      obtain ⟨a, xs, rfl, h1, h2, hz, h3⟩ := h
      exact ⟨a, xs, rfl, e _ _ h1 h2, h2, hz, pimp h3 fun _ _ q => ih q⟩
    | tuple ds =>
      obtain ⟨a, xs, rfl, h1, hz, h3⟩ := h
      exact ⟨a, xs, rfl, e _ _ h1 rfl, hz, pimp h3 fun _ _ q => ih q⟩
    | _ => exact h
theorem Dn.same {H H' : Hp} {n : Nat} {v : V} {d : PyData} (e : Same H H') (h : Dn n H v d) : Dn n H' v d := Dn.ext (.of e) h
theorem Dn.up1 {H : Hp} : ∀ {n : Nat} {v : V} {d : PyData}, Dn n H v d → Dn (n + 1) H v d := by
  intro n
  induction n with
  | zero =>
    intro v d h
    cases d with
    | list ds => exact h.elim
    | tuple ds => exact h.elim
    | _ => exact h
  | succ m ih =>
    intro v d h
    cases d with
    | list ds =>
      obtain ⟨a, xs, rfl, h1, h2, hz, h3⟩ := h
      exact ⟨a, xs, rfl, h1, h2, hz, pimp h3 fun _ _ q => ih q⟩
    | tuple ds =>
      obtain ⟨a, xs, rfl, h1, hz, h3⟩ := h
      exact ⟨a, xs, rfl, h1, hz, pimp h3 fun _ _ q => ih q⟩
    | _ => exact h
theorem Dn.up {H : Hp} {n m : Nat} {v : V} {d : PyData} (h : Dn n H v d) (l : n ≤ m) : Dn m H v d := by
  induction l with
  | refl => exact h
  | step _ ih => exact ih.up1
theorem Dn.dp {K : PySem.W.Frag} {H : Hp} : ∀ {n : Nat} {v : V} {d : PyData}, Dn n H v d → Dp K H v d ∧ d.canLay0 = true ∧ d.depth ≤ n := by
  intro n
  induction n with
  | zero =>
    intro v d h
    cases d with
    | none => cases (show v = .non from h); exact ⟨.non, rfl, Nat.le_refl _⟩
    | bool b => cases (show v = .bl b from h); exact ⟨.bl b, rfl, Nat.le_refl _⟩
    | int i => cases (show v = .int i from h); exact ⟨.int i, rfl, Nat.le_refl _⟩
    | str x =>
      obtain ⟨rfl, h, _⟩ := h
      exact ⟨.str x, h, Nat.le_refl _⟩
    | _ => exact h.elim
  | succ m ih =>
    intro v d h
    have all : ∀ {xs : List V} {ds : List PyData}, Paired (Dn m H) xs ds → DpAll K H xs ds ∧ PyData.canLayAll0 ds = true ∧ PyData.depthAll ds ≤ m := by
      intro xs ds p
      induction p with
      | nil => exact ⟨.nil, rfl, Nat.zero_le _⟩
      | cons a _ r =>
        obtain ⟨a1, a2, a3⟩ := ih a
        obtain ⟨r1, r2, r3⟩ := r
        refine ⟨.cons a1 r1, ?_, Nat.max_le.mpr ⟨a3, r3⟩⟩
        show (_ && _) = true
        rw [a2, r2] <;> rfl
    cases d with
    | none => cases (show v = .non from h); exact ⟨.non, rfl, Nat.zero_le _⟩
    | bool b => cases (show v = .bl b from h); exact ⟨.bl b, rfl, Nat.zero_le _⟩
    | int i => cases (show v = .int i from h); exact ⟨.int i, rfl, Nat.zero_le _⟩
    | str x =>
      obtain ⟨rfl, h, _⟩ := h
      exact ⟨.str x, h, Nat.zero_le _⟩
    | list ds =>
      obtain ⟨a, xs, rfl, h1, h2, hz, h3⟩ := h
      obtain ⟨b1, b2, b3⟩ := all h3
      exact ⟨.lst (sqL_of h1) b1, b2, Nat.succ_le_succ b3⟩
    | tuple ds =>
      obtain ⟨a, xs, rfl, h1, hz, h3⟩ := h
      obtain ⟨b1, b2, b3⟩ := all h3
      exact ⟨.tup (sqT_of h1) b1, b2, Nat.succ_le_succ b3⟩
    | dict => exact h.elim
theorem Dn.shaped {H : Hp} {n : Nat} {v : V} {d : PyData} (h : Dn n H v d) (l : n ≤ 64) : SeqAt.shaped d = true := by
  obtain ⟨_, a, b⟩ := h.dp (K := [])
  unfold SeqAt.shaped
  rw [a, decide_eq_true (Nat.le_trans b l)] <;> rfl
theorem Dn.len {H : Hp} {n : Nat} {xs : List V} {ds : List PyData} (h : Paired (Dn n H) xs ds) : xs.length = ds.length := h.length
/-- the name of a datum's type -/
def tyN : PyData → String
  | .none => "NoneType" | .bool _ => "bool" | .int _ => "int" | .str _ => "str" | .list _ => "list" | .tuple _ => "tuple" | .dict _ => "dict"
def isA (T : String) (d : PyData) : Bool := (kitB (tyN d) T).getD false
theorem isA_is {T : String} {d : PyData} (hT : T ∈ ["int", "bool", "str", "tuple", "list"]) : kitB (tyN d) T = some (isA T d) := by
  simp only [List.mem_cons, List.not_mem_nil, or_false] at hT
  rcases hT with rfl | rfl | rfl | rfl | rfl <;> cases d <;> kernel_rfl
theorem isA_int (d : PyData) : isA "int" d = match d with | .int _ => true | .bool _ => true | _ => false := by cases d <;> kernel_rfl
theorem isA_bool (d : PyData) : isA "bool" d = match d with | .bool _ => true | _ => false := by cases d <;> kernel_rfl
theorem isA_str (d : PyData) : isA "str" d = match d with | .str _ => true | _ => false := by cases d <;> kernel_rfl
theorem isA_tuple (d : PyData) : isA "tuple" d = match d with | .tuple _ => true | _ => false := by cases d <;> kernel_rfl
theorem isA_list (d : PyData) : isA "list" d = match d with | .list _ => true | _ => false := by cases d <;> kernel_rfl
theorem Dn.ty {K : PySem.W.Frag} {H : Hp} {n : Nat} {v : V} {d : PyData} (h : Dn n H v d) : TyX K H v (.type (tyN d)) := by
  cases d with
  | none => cases n <;> (cases (show v = .non from h); exact .base .non)
  | bool b => cases n <;> (cases (show v = .bl b from h); exact .base (.bl b))
  | int i => cases n <;> (cases (show v = .int i from h); exact .base (.int i))
  | str x => cases n <;> (obtain ⟨rfl, h⟩ := h; exact .base (.str x))
  | list ds =>
    cases n with
    | zero => exact h.elim
    | succ m =>
      obtain ⟨a, xs, rfl, h1, h2, hz, h3⟩ := h
      exact .base (.lst h1)
  | tuple ds =>
    cases n with
    | zero => exact h.elim
    | succ m =>
      obtain ⟨a, xs, rfl, h1, hz, h3⟩ := h
      exact .base (.tup h1)
  | dict => cases n <;> exact h.elim
theorem rd_isi {K : PySem.W.Frag} {H : Hp} {n : Nat} {v : V} {d : PyData} {Q : VK} {T : String} (h : Dn n H v d) (hT : T ∈ ["int", "bool", "str", "tuple", "list"]) (q : Q (.bl (isA T d)) H) : rIsi K [v, .ty T] H Q :=
  ⟨v, .ty T, .type (tyN d), .type T, isA T d, rfl, .ty T, h.ty, kit_ty (isA_is hT), q⟩
theorem Dn.of_tuple {H : Hp} {n : Nat} {v : V} {ds : List PyData} (h : Dn n H v (.tuple ds)) : ∃ m a xs, n = m + 1 ∧ v = .ref a ∧ H a = some (.tup xs) ∧ Paired (Dn m H) xs ds := by
  cases n with
  | zero => exact h.elim
  | succ m =>
    obtain ⟨a, xs, h1, h2, _, h3⟩ := h
    exact ⟨m, a, xs, rfl, h1, h2, h3⟩
theorem Dn.tlen {H : Hp} {n : Nat} {a : Addr} {xs : List V} {ds : List PyData} (h : Dn n H (.ref a) (.tuple ds)) (e : H a = some (.tup xs)) : xs.length ≤ 100000 := by
  cases n with
  | zero => exact h.elim
  | succ m =>
    obtain ⟨a, ys, h1, h2, h3, _⟩ := h
    cases h1
    rw [e] at h2
    cases h2
    exact h3
theorem Dn.llen {H : Hp} {n : Nat} {a : Addr} {xs : List V} {ds : List PyData} (h : Dn n H (.ref a) (.list ds)) (e : H a = some (.lst xs)) : xs.length ≤ 100000 := by
  cases n with
  | zero => exact h.elim
  | succ m =>
    obtain ⟨a, ys, h1, h2, _, h3, _⟩ := h
    cases h1
    rw [e] at h2
    cases h2
    exact h3
theorem Dn.of_list {H : Hp} {n : Nat} {v : V} {ds : List PyData} (h : Dn n H v (.list ds)) : ∃ m a xs, n = m + 1 ∧ v = .ref a ∧ H a = some (.lst xs) ∧ isBag (.lst xs) = false ∧ Paired (Dn m H) xs ds := by
  cases n with
  | zero => exact h.elim
  | succ m =>
    obtain ⟨a, xs, h1, h2, hb, _, h3⟩ := h
    exact ⟨m, a, xs, rfl, h1, h2, hb, h3⟩
theorem Dn.int {H : Hp} {n : Nat} (i : Int) : Dn n H (.int i) (.int i) := by cases n <;> exact rfl
theorem Dn.bl {H : Hp} {n : Nat} (b : Bool) : Dn n H (.bl b) (.bool b) := by cases n <;> exact rfl
theorem Dn.non {H : Hp} {n : Nat} : Dn n H .non .none := by cases n <;> exact rfl
theorem Dn.str {H : Hp} {n : Nat} {x : Str} (h : PyData.strOk x = true) (l : x.length ≤ 100000) : Dn n H (.str x) (.str x) := by cases n <;> exact ⟨rfl, h, l⟩
theorem Dn.tup {H : Hp} {n : Nat} {a : Addr} {xs : List V} {ds : List PyData} (h : H a = some (.tup xs)) (p : Paired (Dn n H) xs ds) (l : ds.length ≤ 100000 := by decide) : Dn (n + 1) H (.ref a) (.tuple ds) := ⟨a, xs, rfl, h, by rw [Dn.len p]; exact l, p⟩
theorem Dn.lst {H : Hp} {n : Nat} {a : Addr} {xs : List V} {ds : List PyData} (h : H a = some (.lst xs)) (b : isBag (.lst xs) = false) (p : Paired (Dn n H) xs ds) (l : ds.length ≤ 100000 := by decide) : Dn (n + 1) H (.ref a) (.list ds) := ⟨a, xs, rfl, h, b, by rw [Dn.len p]; exact l, p⟩
theorem pat {α β : Type} {F : α → β → Prop} {l : List α} {r : List β} (h : Paired F l r) {i : Nat} {x : α} (hx : l[i]? = some x) : ∃ y, r[i]? = some y ∧ F x y := by
  induction h generalizing i with
  | nil => cases hx
  | cons a _ ih =>
    cases i with
    | zero => cases hx; exact ⟨_, rfl, a⟩
    | succ j => exact ih (i := j) hx
end data
theorem eqv_str (d : PyData) (z : Str) : PyData.eqv d (.str z) = match d with | .str w => w == z | _ => false := by
  cases d <;> rfl
theorem rd_neD {K : PySem.W.Frag} {H : Hp} {Q : VK} {n m : Nat} {x y : V} {d e : PyData} (hn : n ≤ 64) (hm : m ≤ 64) (h1 : Dn n H x d) (h2 : Dn m H y e) (q : Q (.bl (!PyData.eqv d e)) H) : rNeD K x y H Q := ⟨d, e, h1.dp.1, h2.dp.1, h1.shaped hn, h2.shaped hm, q⟩
theorem rd_eqD {K : PySem.W.Frag} {H : Hp} {Q : VK} {n m : Nat} {x y : V} {d e : PyData} (hn : n ≤ 64) (hm : m ≤ 64) (h1 : Dn n H x d) (h2 : Dn m H y e) (q : Q (.bl (PyData.eqv d e)) H) : rEqD K x y H Q := ⟨d, e, h1.dp.1, h2.dp.1, h1.shaped hn, h2.shaped hm, q⟩
theorem Dn.two {H : Hp} {n : Nat} {xs : List V} {ds : List PyData} (h : Paired (Dn n H) xs ds) (l : xs.length = 2) : ∃ x1 x2 d1 d2, xs = [x1, x2] ∧ ds = [d1, d2] ∧ Dn n H x1 d1 ∧ Dn n H x2 d2 := by
  cases h with
  | nil => cases l
  | cons a h =>
    cases h with
    | nil => cases l
    | cons b h =>
      cases h with
      | nil => exact ⟨_, _, _, _, rfl, rfl, a, b⟩
      | cons c h => simp at l
theorem Dn.three {H : Hp} {n : Nat} {xs : List V} {ds : List PyData} (h : Paired (Dn n H) xs ds) (l : xs.length = 3) : ∃ x1 x2 x3 d1 d2 d3, xs = [x1, x2, x3] ∧ ds = [d1, d2, d3] ∧ Dn n H x1 d1 ∧ Dn n H x2 d2 ∧ Dn n H x3 d3 := by
  cases h with
  | nil => cases l
  | cons a h =>
    cases h with
    | nil => cases l
    | cons b h =>
      cases h with
      | nil => cases l
      | cons c h =>
        cases h with
        | nil => exact ⟨_, _, _, _, _, _, rfl, rfl, a, b, c⟩
        | cons d h => simp at l
theorem Dn.eq_int {H : Hp} {n : Nat} {v : V} {i : Int} (h : Dn n H v (.int i)) : v = .int i := by cases n <;> exact h
theorem Dn.eq_str {H : Hp} {n : Nat} {v : V} {x : Str} (h : Dn n H v (.str x)) : v = .str x := by cases n <;> exact h.1
/-- what a for asks behind its iterable -/
def FoB (J : It) (g : TG) (tb : TS) (D : Ends) (σ : L2.St) (H : Hp) : Prop := ∃ W : Nat → Nat → L2.St → Hp → Prop, (∃ m, W 0 m σ H) ∧ ∀ i m σ1 H1, W i m σ1 H1 →
  (J.stop i H1 ∧ D.nx σ1 H1) ∨ (J.go i H1 ∧ ∃ N : L2.St → Hp → Prop, (∀ σ2 H2, N σ2 H2 → ∃ m', m' < m ∧ W (i + 1) m' σ2 H2) ∧ ∀ x H2, J.yld i H1 x H2 → g x σ1 H2 fun σ3 H3 => tb { D with nx := N, ct := N, bk := D.nx } σ3 H3)
theorem rd_for {wi : TI} {g : TG} {tb : TS} {D : Ends} {σ : L2.St} {H : Hp} (h : wi σ H fun J H1 => FoB J g tb D σ H1) : tFor wi g tb D σ H := h
theorem fo_it {J : It} {n : Nat} {G : Hp → Prop} {Y : Nat → Hp → V → Hp → Prop} (wk : Walk J n G Y) {g : TG} {tb : TS} {D : Ends} {σ : L2.St} {H : Hp} (Pv : Nat → L2.St → Hp → Prop) (h0 : Pv 0 σ H) (hG : ∀ i σ1 H1, i ≤ n → Pv i σ1 H1 → G H1)
    (hs : ∀ i x σ1 H1 H2, i < n → Pv i σ1 H1 → Y i H1 x H2 → g x σ1 H2 fun σ3 H3 => tb { D with nx := Pv (i + 1), ct := Pv (i + 1), bk := D.nx } σ3 H3) (hd : ∀ σ1 H1, Pv n σ1 H1 → D.nx σ1 H1) : FoB J g tb D σ H := for_it wk Pv h0 hG hs hd
def WkR (vs : List V) (H : Hp) (R : It → Hp → Prop) : Prop := ∃ j : Int, vs = [.int j] ∧ -(2 ^ 62) ≤ j ∧ j < 2 ^ 62 ∧ R (Itr 0 j.toNat) H
theorem rd_iRng1 {ta : TA} {σ : L2.St} {H : Hp} {R : It → Hp → Prop} (h : ta σ H fun vs H1 => WkR vs H1 R) : iRng1 ta σ H R := h
theorem rd_wkR {j : Int} {H : Hp} {R : It → Hp → Prop} (h : -1000000000 ≤ j ∧ j ≤ 1000000000) (r : R (Itr 0 j.toNat) H) : WkR [.int j] H R := ⟨j, rfl, by omega, by omega, r⟩
theorem walk_zipT {K : PySem.W.Frag} {a b : Addr} {xs ys : List V} {n : Nat} (hn : n = min xs.length ys.length) : Walk (RZ.ItzT K a b) n (fun H => SqT K H a xs ∧ SqT K H b ys) (YPair (fun i => xs[i]?) (fun i => ys[i]?)) := by
  subst hn
  refine ⟨fun i H hi q => ?_, fun H q => ⟨xs, ys, q.1, q.2, by omega⟩, fun i H v H' _ q y => ?_⟩
  · have h1 : i < xs.length := by omega
    have h2 : i < ys.length := by omega
    exact ⟨xs, ys, xs[i], ys[i], q.1, q.2, List.getElem?_eq_getElem h1, List.getElem?_eq_getElem h2⟩
  · obtain ⟨T, x, z, h1, h2, h3, h4, h5⟩ := y
    exact ⟨T, x, z, h1, h2, h3, h4 xs q.1, h5 ys q.2⟩
def WkZ (K : PySem.W.Frag) (vs : List V) (H : Hp) (R : It → Hp → Prop) : Prop := ∃ a b xs ys, vs = [.ref a, .ref b] ∧ ((SqL K H a xs ∧ SqL K H b ys ∧ R (Itz K a b) H) ∨ (SqT K H a xs ∧ SqT K H b ys ∧ R (RZ.ItzT K a b) H))
theorem rd_iZipA {K : PySem.W.Frag} {ta : TA} {σ : L2.St} {H : Hp} {R : It → Hp → Prop} (h : ta σ H fun vs H1 => WkZ K vs H1 R) : RZ.iZipA K ta σ H R := h
theorem rd_wkZL {K : PySem.W.Frag} {a b : Addr} {xs ys : List V} {H : Hp} {R : It → Hp → Prop} (h1 : SqL K H a xs) (h2 : SqL K H b ys) (r : R (Itz K a b) H) : WkZ K [.ref a, .ref b] H R := ⟨a, b, xs, ys, rfl, .inl ⟨h1, h2, r⟩⟩
theorem rd_wkZT {K : PySem.W.Frag} {a b : Addr} {xs ys : List V} {H : Hp} {R : It → Hp → Prop} (h1 : SqT K H a xs) (h2 : SqT K H b ys) (r : R (RZ.ItzT K a b) H) : WkZ K [.ref a, .ref b] H R := ⟨a, b, xs, ys, rfl, .inr ⟨h1, h2, r⟩⟩
theorem rd_isiLT {K : PySem.W.Frag} {H : Hp} {n : Nat} {v : V} {d : PyData} {Q : VK} {tp : Addr} (h : Dn n H v d) (ht : H tp = some (.tup [.ty "list", .ty "tuple"])) (q : Q (.bl (isA "list" d || isA "tuple" d)) H) : rIsiT K [v, .ref tp] H Q := by
  refine ⟨v, tp, _, .type (tyN d), [.type "list", .type "tuple"], isA "list" d || isA "tuple" d, rfl, ht, .cons (.ty _) (.cons (.ty _) .nil), h.ty, ?_, q⟩
  refine kitAny_cons (kit_ty (isA_is (by decide))) (fun e => ?_) (fun e => by rw [e] <;> rfl)
  rw [e, Bool.false_or]
  refine kitAny_cons (kit_ty (isA_is (by decide))) (fun e2 => ?_) (fun e2 => e2)
  rw [e2]
  exact kitAny_nil
/-- both stand for the same datum: True -/
def spSame (n : Nat) : Sp := fun vs H Q _ => ∃ (v1 v2 : V) (d : PyData), vs = [v1, v2] ∧ Dn n H v1 d ∧ Dn n H v2 d ∧ ∀ H', Same H H' → Q (.bl true) H'
theorem all_yes (n : Nat) : (List.range n).filterMap (fun _ => some (V.bl true)) = ((List.range n).map fun _ => true).map V.bl := by
  rw [List.map_map]
  generalize List.range n = l
  induction l with
  | nil => rfl
  | cons a l ih => rw [List.filterMap_cons, List.map_cons, ← ih] <;> rfl
theorem all_yes2 (n : Nat) : (((List.range n).map fun _ => true).all id) = true := by
  rw [List.all_map, List.all_eq_true]
  exact fun _ _ => rfl
section tupdata
/-- tuples stay -/
def Tps (H H' : Hp) : Prop := ∀ b xs, H b = some (.tup xs) → H' b = some (.tup xs)
theorem Tps.of {H H' : Hp} (e : Ext H H') : Tps H H' := fun b xs h => e b _ h rfl
theorem Tps.chg {l : Addr} {H H' : Hp} {xs : List V} (c : Chg l H H') (h : H l = some (.lst xs)) : Tps H H' := fun b ys e => by
  rw [c b fun q => by subst q; rw [h] at e; cases e]
  exact e
theorem Tps.trans {H H1 H2 : Hp} (a : Tps H H1) (b : Tps H1 H2) : Tps H H2 := fun c xs h => b c xs (a c xs h)
/-- v stands for the datum d, made of tuples alone, of depth at most n -/
def Dt : Nat → Hp → V → PyData → Prop
  | n, H, v, d => match d with
    | .none => v = .non
    | .bool b => v = .bl b
    | .int i => v = .int i
    | .str x => v = .str x ∧ PyData.strOk x = true ∧ x.length ≤ 100000
    | .tuple ds => match n with
      | 0 => False
      | m + 1 => ∃ a xs, v = .ref a ∧ H a = some (.tup xs) ∧ xs.length ≤ 100000 ∧ Paired (Dt m H) xs ds
    | _ => False
  termination_by structural n => n
theorem Dt.keep {H H' : Hp} (e : Tps H H') : ∀ {n : Nat} {v : V} {d : PyData}, Dt n H v d → Dt n H' v d := by
  intro n
  induction n with
  | zero =>
    intro v d h
    cases d <;> exact h
  | succ m ih =>
    intro v d h
    cases d with
    | tuple ds =>
      obtain ⟨a, xs, rfl, h1, hz, h3⟩ := h
      exact ⟨a, xs, rfl, e _ _ h1, hz, pimp h3 fun _ _ q => ih q⟩
    | _ => exact h
theorem Dt.dn {H : Hp} : ∀ {n : Nat} {v : V} {d : PyData}, Dt n H v d → Dn n H v d := by
  intro n
  induction n with
  | zero =>
    intro v d h
    cases d <;> first | exact h | exact h.elim
  | succ m ih =>
    intro v d h
    cases d with
    | tuple ds =>
      obtain ⟨a, xs, rfl, h1, hz, h3⟩ := h
      exact ⟨a, xs, rfl, h1, hz, pimp h3 fun _ _ q => ih q⟩
    | list => exact h.elim
    | dict => exact h.elim
    | _ => exact h
theorem Dt.up1 {H : Hp} : ∀ {n : Nat} {v : V} {d : PyData}, Dt n H v d → Dt (n + 1) H v d := by
  intro n
  induction n with
  | zero =>
    intro v d h
    cases d with
    | tuple ds => exact h.elim
    | _ => exact h
  | succ m ih =>
    intro v d h
    cases d with
    | tuple ds =>
      obtain ⟨a, xs, rfl, h1, hz, h3⟩ := h
      exact ⟨a, xs, rfl, h1, hz, pimp h3 fun _ _ q => ih q⟩
    | _ => exact h
theorem Dt.up {H : Hp} {n m : Nat} {v : V} {d : PyData} (h : Dt n H v d) (l : n ≤ m) : Dt m H v d := by
  induction l with
  | refl => exact h
  | step _ ih => exact ih.up1
theorem Dt.int {H : Hp} {n : Nat} (i : Int) : Dt n H (.int i) (.int i) := by cases n <;> exact rfl
theorem Dt.str {H : Hp} {n : Nat} {x : Str} (h : PyData.strOk x = true) (l : x.length ≤ 100000) : Dt n H (.str x) (.str x) := by cases n <;> exact ⟨rfl, h, l⟩
theorem Dt.tup {H : Hp} {n : Nat} {a : Addr} {xs : List V} {ds : List PyData} (h : H a = some (.tup xs)) (p : Paired (Dt n H) xs ds) (l : ds.length ≤ 100000 := by decide) : Dt (n + 1) H (.ref a) (.tuple ds) := ⟨a, xs, rfl, h, by rw [p.length]; exact l, p⟩
end tupdata
theorem Ext.chg {q : Addr} {H H3 H4 : Hp} (e : Ext H H3) (c : Chg q H3 H4) (h0 : H q = none) : Ext H H4 := fun b o h n => by
  rw [c b (ne_of_none h h0)]
  exact e b o h n
theorem Bag.chg {a c q : Addr} {ns : List Int} {H H' : Hp} (b : Bag a c ns H) (g : Chg q H H') (h1 : a ≠ q) (h2 : c ≠ q) : Bag a c ns H' := by
  obtain ⟨i, x, s, e1, e2, r⟩ := b
  exact ⟨i, x, s, by rw [g a h1]; exact e1, by rw [g c h2]; exact e2, r⟩
theorem Bag.free {a c q : Addr} {ns : List Int} {H : Hp} (b : Bag a c ns H) (h : H q = none) : a ≠ q ∧ c ≠ q := by
  obtain ⟨i, x, s, e1, e2, r⟩ := b
  exact ⟨ne_of_none e1 h, ne_of_none e2 h⟩
theorem Ext.free {H H' : Hp} (e : Ext H H') {q : Addr} (h : H' q = none) {o : HO} (n : isBag o = false) : H q ≠ some o := fun z => by
  rw [e _ _ z n] at h
  cases h
/-! ### the terms that the law draws -/
def GItem (nms : List Str) (rec : PyData → Prop) (d : PyData) : Prop := ∃ f x, d = .tuple [.int f, x] ∧ -9 ≤ f ∧ f ≤ 9 ∧ f ≠ 0 ∧
  ((∃ z, x = .str z ∧ z ∈ nms) ∨ ∃ i j k t, x = .tuple [.str "floor", .tuple [.int i, .int j, .int k], t] ∧ (-9 ≤ i ∧ i ≤ 9 ∧ -3 ≤ j ∧ j ≤ 3 ∧ 1 ≤ k ∧ k ≤ 4) ∧ rec t)
def GT (nms : List Str) (rec : PyData → Prop) (d : PyData) : Prop := ∃ its c, d = .tuple [.tuple its, .int c] ∧ its.length ≤ 4 ∧ -1000 ≤ c ∧ c ≤ 1000 ∧ ∀ x ∈ its, GItem nms rec x
def GTerm (nms : List Str) : Nat → PyData → Prop
  | 0 => GT nms fun _ => False
  | n + 1 => GT nms (GTerm nms n)
def GRec (nms : List Str) : Nat → PyData → Prop
  | 0 => fun _ => False
  | n + 1 => GTerm nms n
theorem GTerm_eq (nms : List Str) (n : Nat) : GTerm nms n = GT nms (GRec nms n) := by cases n <;> rfl
def spAnySlope : Sp := fun vs H Q _ => ∃ (a c : Addr) (ns : List Int), vs = [.ref a] ∧ Bag a c ns H ∧
  ∀ v i j k H', (-9 ≤ i ∧ i ≤ 9 ∧ -3 ≤ j ∧ j ≤ 3 ∧ 1 ≤ k ∧ k ≤ 4) → Ext H H' → Bag a c ns H' → Dt 1 H' v (.tuple [.int i, .int j, .int k]) → Q v H'
def goodNames (nms : List Str) : Prop := nms.length ≤ 100 ∧ ∀ z ∈ nms, PyData.strOk z = true ∧ z.length ≤ 100000
def spAnyTerm (n : Nat) : Sp := fun vs H Q _ => ∃ (a c l : Addr) (ns : List Int) (nms : List Str), vs = [.ref a, .ref l, .int (n : Int)] ∧ Bag a c ns H ∧ H l = some (.lst (nms.map V.str)) ∧ goodNames nms ∧
  ∀ v d H', Ext H H' → Bag a c ns H' → Dt (3 + 4 * n) H' v d → GTerm nms n d → Q v H'
theorem eqv_nil (l : List Str) : PyData.eqv (.list (l.map PyData.str)) (.list []) = l.isEmpty := by cases l <;> rfl
theorem dn_strs {H : Hp} {l : Addr} {nms : List Str} (h : H l = some (.lst (nms.map V.str))) (g : goodNames nms) : Dn 1 H (.ref l) (.list (nms.map PyData.str)) := by
  refine ⟨l, _, rfl, h, bag_strs _, by rw [List.length_map]; have := g.1; omega, ?_⟩
  have g2 := g.2
  clear g h
  induction nms with
  | nil => exact .nil
  | cons z r ih => exact .cons ⟨rfl, g2 z (List.mem_cons_self ..)⟩ (ih fun y hy => g2 y (List.mem_cons_of_mem _ hy))
theorem cut4 (xs : List V) (h : xs.length ≤ 4) : cutV xs none (some 4) = xs := by
  unfold cutV
  have e1 : HT.sIx xs.length 0 none = 0 := rfl
  have e2 : HT.sIx xs.length xs.length (some 4) = xs.length := by
    have := HT.sIx_nat xs.length xs.length 4
    rw [show ((4 : Nat) : Int) = 4 from rfl] at this
    rw [this]
    omega
  rw [e1, e2]
  exact List.take_length
/-- between two turns of the loop that draws a term's items -/
def TermInv (a c l q : Addr) (ns : List Int) (nms : List Str) (n : Nat) (H : Hp) (i : Nat) (σ : L2.St) (H' : Hp) : Prop := ∃ (o5 o6 : Option V) (ps : List Addr) (ds : List PyData),
  σ = [some (.ref a), some (.ref l), some (.int (n : Int)), some (.ref q), o5, o6] ∧ Ext H H' ∧ Bag a c ns H' ∧ H' q = some (.lst (ps.map V.ref)) ∧ Paired (Dt (1 + 4 * n) H') (ps.map V.ref) ds ∧ ds.length ≤ i ∧ ∀ d ∈ ds, GItem nms (GRec nms n) d
theorem TermInv.put {a c l q : Addr} {ns : List Int} {nms : List Str} {n : Nat} {H : Hp} {i : Nat} {ps : List Addr} {ds : List PyData} (nq : H q = none) (aq : a ≠ q) (cq : c ≠ q) (ld : ds.length ≤ i) (hi : i ≤ 100) (gd : ∀ d ∈ ds, GItem nms (GRec nms n) d)
    {p : Addr} {d : PyData} {H5 : Hp} {N : L2.St → Hp → Prop} {o o' : Option V} (x5 : Ext H H5) (B5 : Bag a c ns H5) (h5 : H5 q = some (.lst (ps.map V.ref))) (pd5 : Paired (Dt (1 + 4 * n) H5) (ps.map V.ref) ds) (dd : Dt (1 + 4 * n) H5 (.ref p) d) (gg : GItem nms (GRec nms n) d)
    (hN : ∀ σ' H', TermInv a c l q ns nms n H (i + 1) σ' H' → N σ' H') : rAppend (.ref q) [.ref p] H5 fun _ H6 => N [some (.ref a), some (.ref l), some (.int (n : Int)), some (.ref q), o, o'] H6 := by
  refine rd_app h5 ?_ fun H6 c6 h6 => hN _ _ ?_
  · have : (ps.map V.ref).length = ds.length := pd5.length
    exact sz_smaller (by omega)
  · have t6 : Tps H5 H6 := Tps.chg c6 h5
    refine ⟨_, _, ps ++ [p], ds ++ [d], rfl, x5.chg c6 nq, B5.chg c6 aq cq, ?_, ?_, ?_, ?_⟩
    · rw [List.map_append]; exact h6
    · rw [List.map_append]
      exact (pimp pd5 fun _ _ z => z.keep t6).snoc (dd.keep t6)
    · rw [List.length_append]; exact Nat.succ_le_succ ld
    · intro e he
      rcases List.mem_append.mp he with he | he
      · exact gd e he
      · rw [List.mem_singleton.mp he]; exact gg
section isd
/-- v stands for some datum of depth at most k -/
def IsD (k : Nat) (H : Hp) (v : V) : Prop := ∃ d, Dn k H v d
def AllD (k : Nat) (H : Hp) (xs : List V) : Prop := ∀ x ∈ xs, IsD k H x
theorem AllD.nil {k : Nat} {H : Hp} : AllD k H [] := fun x h => by cases h
theorem AllD.cons {k : Nat} {H : Hp} {x : V} {xs : List V} (h : IsD k H x) (r : AllD k H xs) : AllD k H (x :: xs) := fun y hy => by
  rcases List.mem_cons.mp hy with e | hy
  · rw [e]; exact h
  · exact r y hy
theorem AllD.app {k : Nat} {H : Hp} {xs ys : List V} (h : AllD k H xs) (r : AllD k H ys) : AllD k H (xs ++ ys) := fun y hy => by
  rcases List.mem_append.mp hy with hy | hy
  · exact h y hy
  · exact r y hy
theorem AllD.cut {k : Nat} {H : Hp} {xs : List V} (h : AllD k H xs) (lo hi : Option Int) : AllD k H (cutV xs lo hi) := fun y hy => h y (List.mem_of_mem_drop (List.mem_of_mem_take hy))
theorem AllD.paired {k : Nat} {H : Hp} : ∀ {xs : List V}, AllD k H xs → ∃ ds, Paired (Dn k H) xs ds
  | [], _ => ⟨[], .nil⟩
  | x :: xs, h => by
    obtain ⟨d, hd⟩ := h x (List.mem_cons_self ..)
    obtain ⟨ds, p⟩ := AllD.paired fun y hy => h y (List.mem_cons_of_mem _ hy)
    exact ⟨d :: ds, .cons hd p⟩
theorem IsD.ext {k : Nat} {H H' : Hp} {v : V} (e : Ext H H') (h : IsD k H v) : IsD k H' v := by
  obtain ⟨d, h⟩ := h
  exact ⟨d, h.ext e⟩
theorem IsD.same {k : Nat} {H H' : Hp} {v : V} (e : Same H H') (h : IsD k H v) : IsD k H' v := h.ext (.of e)
theorem AllD.ext {k : Nat} {H H' : Hp} {xs : List V} (e : Ext H H') (h : AllD k H xs) : AllD k H' xs := fun y hy => (h y hy).ext e
theorem AllD.same {k : Nat} {H H' : Hp} {xs : List V} (e : Same H H') (h : AllD k H xs) : AllD k H' xs := h.ext (.of e)
theorem IsD.up {k m : Nat} {H : Hp} {v : V} (h : IsD k H v) (l : k ≤ m) : IsD m H v := by
  obtain ⟨d, h⟩ := h
  exact ⟨d, h.up l⟩
theorem AllD.up {k m : Nat} {H : Hp} {xs : List V} (h : AllD k H xs) (l : k ≤ m) : AllD m H xs := fun y hy => (h y hy).up l
theorem IsD.int {k : Nat} {H : Hp} (i : Int) : IsD k H (.int i) := ⟨_, Dn.int i⟩
theorem IsD.bl {k : Nat} {H : Hp} (b : Bool) : IsD k H (.bl b) := ⟨_, Dn.bl b⟩
theorem IsD.non {k : Nat} {H : Hp} : IsD k H .non := ⟨_, Dn.non⟩
theorem IsD.str {k : Nat} {H : Hp} {x : Str} (h : PyData.strOk x = true) (l : x.length ≤ 100000) : IsD k H (.str x) := ⟨_, Dn.str h l⟩
theorem IsD.tup {k : Nat} {H : Hp} {a : Addr} {xs : List V} (h : H a = some (.tup xs)) (l : xs.length ≤ 100000) (p : AllD k H xs) : IsD (k + 1) H (.ref a) := by
  obtain ⟨ds, p⟩ := p.paired
  exact ⟨_, Dn.tup h p (by rw [← Dn.len p]; exact l)⟩
theorem IsD.lst {k : Nat} {H : Hp} {a : Addr} {xs : List V} (h : H a = some (.lst xs)) (b : isBag (.lst xs) = false) (l : xs.length ≤ 100000) (p : AllD k H xs) : IsD (k + 1) H (.ref a) := by
  obtain ⟨ds, p⟩ := p.paired
  exact ⟨_, Dn.lst h b p (by rw [← Dn.len p]; exact l)⟩
theorem cut_len (xs : List V) (lo hi : Option Int) : (cutV xs lo hi).length ≤ xs.length := cutV_length xs lo hi
def spBent : Sp := fun vs H Q _ => ∃ (a c t : Addr) (ns : List Int) (x1 x2 : V), vs = [.ref a, .ref t] ∧ Bag a c ns H ∧ H t = some (.tup [x1, x2]) ∧ IsD 25 H x1 ∧ IsD 25 H x2 ∧
  ∀ v H', Ext H H' → Bag a c ns H' → IsD 30 H' v → Q v H'
end isd
theorem bag_len {xs : List V} (h : xs.length ≠ 4) : isBag (.lst xs) = false := by
  unfold isBag
  split
  · rename_i e
    cases e
    exact absurd rfl h
  · rfl
def spLaw (K : PySem.W.Frag) : Sp := fun vs H Q _ => ∃ (a : Addr) (ns : List Int), vs = [.ref a] ∧ SqL K H a (ns.map V.int) ∧ ∀ H', Q (.bl true) H'
theorem Dt.of_tuple {H : Hp} {n : Nat} {v : V} {ds : List PyData} (h : Dt n H v (.tuple ds)) : ∃ m a xs, n = m + 1 ∧ v = .ref a ∧ H a = some (.tup xs) ∧ xs.length ≤ 100000 ∧ Paired (Dt m H) xs ds := by
  cases n with
  | zero => exact h.elim
  | succ m =>
    obtain ⟨a, xs, h1, h2, h4, h3⟩ := h
    exact ⟨m, a, xs, rfl, h1, h2, h4, h3⟩
theorem Dt.eq_int {H : Hp} {n : Nat} {v : V} {i : Int} (h : Dt n H v (.int i)) : v = .int i := by cases n <;> exact h
theorem dt_all {H : Hp} {n : Nat} {xs : List V} {ds : List PyData} (h : Paired (Dt n H) xs ds) : AllD n H xs := by
  induction h with
  | nil => exact .nil
  | cons a _ ih => exact .cons ⟨_, a.dn⟩ ih
theorem bag_allref {xs : List V} (h : ∀ x ∈ xs, ∃ a, x = V.ref a) : isBag (.lst xs) = false := by
  unfold isBag
  split
  · rename_i e
    cases e
    obtain ⟨a, e⟩ := h _ (List.mem_cons_of_mem _ (List.mem_cons_self ..))
    cases e
  · rfl
theorem dt_refs {H : Hp} {n : Nat} {xs : List V} {ds : List PyData} (h : Paired (Dt n H) xs ds) (g : ∀ d ∈ ds, ∃ es, d = PyData.tuple es) : ∀ x ∈ xs, ∃ a, x = V.ref a := by
  induction h with
  | nil => exact fun x hx => by cases hx
  | cons a _ ih =>
    intro x hx
    rcases List.mem_cons.mp hx with rfl | hx
    · obtain ⟨es, rfl⟩ := g _ (List.mem_cons_self ..)
      obtain ⟨_, p, _, _, e, _⟩ := a.of_tuple
      exact ⟨p, e⟩
    · exact ih (fun d hd => g d (List.mem_cons_of_mem _ hd)) x hx
/-- a drawn term as it stands -/
theorem GTerm.parts {nms : List Str} {n m : Nat} {H : Hp} {v : V} {d : PyData} (g : GTerm nms n d) (h : Dt m H v d) : ∃ t t1 xs its c, v = .ref t ∧ H t = some (.tup [.ref t1, .int c]) ∧ H t1 = some (.tup xs) ∧ xs.length ≤ 4 ∧ AllD m H xs ∧ isBag (.lst xs) = false ∧ d = .tuple [.tuple its, .int c] ∧ -1000 ≤ c ∧ c ≤ 1000 := by
  rw [GTerm_eq] at g
  obtain ⟨its, c, rfl, hl, c0, c1, gi⟩ := g
  obtain ⟨m1, t, ys, rfl, rfl, h1, _, p⟩ := h.of_tuple
  cases p with
  | cons a p =>
    cases p with
    | cons b p =>
      cases p
      obtain ⟨m2, t1, xs, rfl, rfl, h2, _, p2⟩ := a.of_tuple
      have ec := b.eq_int
      subst ec
      refine ⟨t, t1, xs, its, c, rfl, h1, h2, by rw [p2.length]; exact hl, (dt_all p2).up (by omega), bag_allref (dt_refs p2 fun e he => by obtain ⟨f, x, rfl, _⟩ := gi e he; exact ⟨_, rfl⟩), rfl, c0, c1⟩
def DD : Nat → PyData
  | 0 => .tuple [.tuple [], .int 1]
  | i + 1 => .tuple [.tuple [.tuple [.int 1, .tuple [.str "floor", .tuple [.int 1, .int 0, .int 1], DD i]]], .int 0]
/-! ## terms, in plain Lean -/
section terms
def isIntD : PyData → Bool
  | .int _ => true
  | _ => false
theorem isIntD_eq (d : PyData) : isIntD d = (isA "int" d && !isA "bool" d) := by
  rw [isA_int, isA_bool]
  cases d <;> rfl
def withinD (d : PyData) (lo hi : Int) : Bool := match d with
  | .int i => decide (lo ≤ i) && decide (i ≤ hi)
  | _ => false
def slopeD (d : PyData) : Bool := match d with
  | .tuple [a, b, c] => withinD a (-9) 9 && withinD b (-3) 3 && withinD c 1 4
  | _ => false
def words : List Str := ["all", "and", "not", "or", "r"]
def letters : Str := "abcdefghijklmnopqrstuvwxyz"
def varS (x : Str) : Bool := decide ((1 : Int) ≤ x.length) && decide ((x.length : Int) ≤ 3) && !inV (.str x) (words.map V.str) && x.cps.toList.all fun c => decide (c ∈ letters.cps.toList)
def varD (d : PyData) : Bool := match d with
  | .str x => varS x
  | _ => false
def floorD (rec : PyData → Bool) (d : PyData) : Bool := match d with
  | .tuple [.str w, s, t] => decide (w = "floor") && slopeD s && rec t
  | _ => false
def itemD (rec : PyData → Bool) (d : PyData) : Bool := match d with
  | .tuple [.int f, x] => decide (-9 ≤ f) && decide (f ≤ 9) && decide (f ≠ 0) && (varD x || floorD rec x)
  | _ => false
def termF (rec : PyData → Bool) (d : PyData) : Bool := match d with
  | .tuple [.tuple its, c] => decide (its.length ≤ 4) && withinD c (-1000) 1000 && its.all (itemD rec)
  | _ => false
def termD : Nat → PyData → Bool
  | 0 => termF fun _ => false
  | n + 1 => termF (termD n)
end terms
def spInteger : Sp := fun vs H Q _ => ∃ (n : Nat) (v : V) (d : PyData), vs = [v] ∧ Dn n H v d ∧ Q (.bl (isIntD d)) H
def spWithin : Sp := fun vs H Q _ => ∃ (n : Nat) (v : V) (d : PyData) (lo hi : Int), vs = [v, .int lo, .int hi] ∧ Dn n H v d ∧ Q (.bl (withinD d lo hi)) H
/-- a test of a datum of depth at most 60 that changes nothing -/
def spTest (f : PyData → Bool) : Sp := fun vs H Q _ => ∃ (n : Nat) (v : V) (d : PyData), n ≤ 60 ∧ vs = [v] ∧ Dn n H v d ∧ ∀ H', Same H H' → Q (.bl (f d)) H'
def spTestN (k : Nat) (f : PyData → Bool) : Sp := fun vs H Q _ => ∃ (n : Nat) (v : V) (d : PyData), n ≤ 60 ∧ vs = [v, .int (k : Int)] ∧ Dn n H v d ∧ ∀ H', Same H H' → Q (.bl (f d)) H'
theorem all_lst {K : PySem.W.Frag} {H : Hp} {Q : VK} {p : Addr} {xs : List V} {bs : List Bool} (h : H p = some (.lst xs)) (e : xs = bs.map V.bl) (q : Q (.bl (bs.all id)) H) : rAll K [.ref p] H Q := ⟨p, bs, rfl, sqL_of (e ▸ h), q⟩
theorem range_map {α β : Type} (l : List α) (f : α → β) (d : α) : (List.range l.length).filterMap (fun i => some (f (l.getD i d))) = l.map f := by
  induction l with
  | nil => rfl
  | cons a l ih =>
    rw [List.length_cons, List.range_succ_eq_map, List.filterMap_cons, List.filterMap_map]
    show f a :: _ = _
    rw [List.map_cons, ← ih]
    rfl
theorem slope_no {d : PyData} (h : isA "tuple" d = false) : slopeD d = false := by
  rw [isA_tuple] at h
  cases d <;> first | rfl | cases h
theorem slope_len {ds : List PyData} (h : ds.length ≠ 3) : slopeD (.tuple ds) = false := by
  match ds, h with
  | [], _ => rfl
  | [_], _ => rfl
  | [_, _], _ => rfl
  | [_, _, _], h => exact absurd rfl h
  | _ :: _ :: _ :: _ :: _, _ => rfl
theorem within_no {d : PyData} {lo hi : Int} (h : isIntD d = false) : withinD d lo hi = false := by
  cases d <;> first | rfl | cases h
theorem of_isInt {d : PyData} (h : isIntD d = true) : ∃ i, d = .int i := by
  cases d with
  | int i => exact ⟨i, rfl⟩
  | _ => cases h
theorem isTup_of {d : PyData} (h : isA "tuple" d = true) : ∃ ds, d = .tuple ds := by
  rw [isA_tuple] at h
  cases d with
  | tuple ds => exact ⟨ds, rfl⟩
  | _ => cases h
theorem isStr_of {d : PyData} (h : isA "str" d = true) : ∃ x, d = .str x := by
  rw [isA_str] at h
  cases d with
  | str x => exact ⟨x, rfl⟩
  | _ => cases h
theorem rd_inT {K : PySem.W.Frag} {H : Hp} {Q : VK} {p : Addr} {x : V} {xs : List V} (h : SqT K H p xs) (hx : flatV x = true) (ha : xs.all flatV = true) (q : Q (.bl (inV x xs)) H) : rIn K false x (.ref p) H Q := ⟨p, xs, rfl, .inr h, hx, ha, q⟩
theorem rd_inS {H : Hp} {Q : VK} {c : Nat} {z : Str} (q : Q (.bl (decide (c ∈ z.cps.toList))) H) : rInS (.str ⟨#[c]⟩) (.str z) H Q := ⟨c, z, rfl, rfl, q⟩
theorem var_no {d : PyData} (h : isA "str" d = false) : varD d = false := by
  rw [isA_str] at h
  cases d <;> first | rfl | cases h
theorem signs_map (x : Str) (f : Nat → Bool) : (List.range x.cps.size).filterMap (fun i => some (V.bl (f (x.cps.toList.getD i 0)))) = (x.cps.toList.map f).map V.bl := by
  have h := range_map x.cps.toList (fun c => V.bl (f c)) 0
  rw [Array.length_toList] at h
  rw [h, List.map_map]
  rfl
theorem at_toList {x : Str} {i c : Nat} (h : x.cps[i]? = some c) : x.cps.toList.getD i 0 = c := by
  rw [List.getD_eq_getElem?_getD, Array.getElem?_toList, h] <;> rfl
theorem item_no {rec : PyData → Bool} {d : PyData} (h : isA "tuple" d = false) : itemD rec d = false := by
  rw [isA_tuple] at h
  cases d <;> first | rfl | cases h
theorem item_len {rec : PyData → Bool} {ds : List PyData} (h : ds.length ≠ 2) : itemD rec (.tuple ds) = false := by
  match ds, h with
  | [], _ => rfl
  | [a], _ => cases a <;> rfl
  | [_, _], h => exact absurd rfl h
  | a :: _ :: _ :: _, _ => cases a <;> rfl
theorem item_two {rec : PyData → Bool} (f x : PyData) : itemD rec (.tuple [f, x]) = (withinD f (-9) 9 && (match f with | .int i => decide (i ≠ 0) | _ => false) && (varD x || floorD rec x)) := by
  cases f <;> rfl
theorem floor_no {rec : PyData → Bool} {d : PyData} (h : isA "tuple" d = false) : floorD rec d = false := by
  rw [isA_tuple] at h
  cases d <;> first | rfl | cases h
theorem floor_len {rec : PyData → Bool} {ds : List PyData} (h : ds.length ≠ 3) : floorD rec (.tuple ds) = false := by
  match ds, h with
  | [], _ => rfl
  | [a], _ => cases a <;> rfl
  | [a, _], _ => cases a <;> rfl
  | [_, _, _], h => exact absurd rfl h
  | a :: _ :: _ :: _ :: _, _ => cases a <;> rfl
theorem floor_three {rec : PyData → Bool} (a s t : PyData) : floorD rec (.tuple [a, s, t]) = (PyData.eqv a (.str "floor") && slopeD s && rec t) := by
  rw [eqv_str]
  cases a with
  | str w =>
    show (decide (w = "floor") && slopeD s && rec t) = ((w == "floor") && slopeD s && rec t)
    rw [show (w == ("floor" : Str)) = decide (w = "floor") from by by_cases h : w = "floor" <;> simp [h]]
  | _ => rfl
theorem term_no {rec : PyData → Bool} {d : PyData} (h : isA "tuple" d = false) : termF rec d = false := by
  rw [isA_tuple] at h
  cases d <;> first | rfl | cases h
theorem term_len {rec : PyData → Bool} {ds : List PyData} (h : ds.length ≠ 2) : termF rec (.tuple ds) = false := by
  match ds, h with
  | [], _ => rfl
  | [a], _ => cases a <;> rfl
  | [_, _], h => exact absurd rfl h
  | a :: _ :: _ :: _, _ => cases a <;> rfl
theorem term_two {rec : PyData → Bool} {a c : PyData} (h : isA "tuple" a = false) : termF rec (.tuple [a, c]) = false := by
  rw [isA_tuple] at h
  cases a <;> first | rfl | cases h
def recOf : Nat → PyData → Bool
  | 0 => fun _ => false
  | n + 1 => termD n
theorem termD_eq (n : Nat) : termD n = termF (recOf n) := by cases n <;> rfl
theorem term_items {rec : PyData → Bool} (its : List PyData) (c : PyData) : termF rec (.tuple [.tuple its, c]) = (decide (its.length ≤ 4) && withinD c (-1000) 1000 && its.all (itemD rec)) := rfl
theorem data_map (ds : List PyData) (f : PyData → Bool) : (List.range ds.length).filterMap (fun i => some (V.bl (f (ds.getD i .none)))) = (ds.map f).map V.bl := by
  rw [range_map ds (fun c => V.bl (f c)) .none, List.map_map]
  rfl
theorem all_false {α : Type} {l : List α} {f : α → Bool} {i : Nat} {x : α} (h : l[i]? = some x) (e : f x = false) : l.all f = false := by
  rw [List.all_eq_false]
  exact ⟨x, List.mem_of_getElem? h, by rw [e]; exact Bool.false_ne_true⟩
theorem all_true {α : Type} {l : List α} {f : α → Bool} (h : ∀ i x, i < l.length → l[i]? = some x → f x = true) : l.all f = true := by
  rw [List.all_eq_true]
  intro x hx
  obtain ⟨i, hi, e⟩ := List.mem_iff_getElem.mp hx
  exact h i x hi (by rw [List.getElem?_eq_getElem hi, e])
local macro_rules | `(tactic| walk_at "hp") => `(tactic| first
  | assumption
  | ((refine' Same.get ?e0 ?e1); (case e0 => assumption); (case e1 => walk_at "hp"))
  | ((refine' Ext.get ?e0 ?e1 ?e2); (case e0 => assumption); (case e2 => first | rfl | exact bag_ints _ | exact bag_refs _ | exact bag_strs _ | exact bag_bls _); (case e1 => walk_at "hp")))
local macro_rules | `(tactic| walk_at "sq") => `(tactic| first
  | assumption
  | ((refine' sqT_of ?hq); (case hq => walk_at "hp"))
  | ((refine' sqL_of ?hq); (case hq => walk_at "hp"))
  | ((refine' SqT.same ?e0 ?e1); (case e0 => assumption); (case e1 => walk_at "sq"))
  | ((refine' SqT.ext ?e0 ?e1); (case e0 => assumption); (case e1 => walk_at "sq")))
local macro_rules | `(tactic| walk_at "r1") => `(tactic| first
  | (with_reducible refine rd_seq ?_)
  | (with_reducible refine rd_lc ?_)
  | (with_reducible refine rd_callN ?_)
  | (with_reducible refine rd_then ?_)
  | (with_reducible refine rd_bmL ?_)
  | (with_reducible refine rd_par ?_)
  | (with_reducible refine rd_parB ?_)
  | (with_reducible refine rd_iZipA ?_)
  | (with_reducible refine rd_for ?_)
  | (with_reducible refine rd_iRng1 ?_)
  | (with_reducible refine rd_iTup ?_)
  | (with_reducible refine rd_iList ?_)
  | (with_reducible refine rd_iStr ?_)
  | (with_reducible refine rd_yes ?_)
  | ((with_reducible refine rd_wipe ?hw ?_); (case hw => exact rfl))
  | (with_reducible refine rd_ifS ?_)
  | (with_reducible refine rd_asg ?_)
  | (with_reducible refine rd_ret ?_)
  | ((with_reducible refine' rd_var ?hv ?_); (case hv => exact rfl))
  | (with_reducible refine rd_c ?_)
  | (with_reducible refine rd_op ?_)
  | (with_reducible refine rd_I0 ?_)
  | (with_reducible refine rd_test ?_)
  | (with_reducible refine rd_B ?_)
  | (with_reducible refine rd_bl ?_)
  | (with_reducible refine rd_int ?_)
  | ((with_reducible refine rd_eq ?hs ?_); (case hs => exact rfl))
  | ((with_reducible refine rd_ne ?hs ?_); (case hs => exact rfl))
  | (with_reducible refine rd_cons ?_)
  | (with_reducible refine rd_nil ?_)
  | (with_reducible refine rd_CB ?_)
  | (with_reducible refine rd_call ?_)
  | (with_reducible refine rd_gName ?_)
  | (with_reducible refine rd_un ?_)
  | (with_reducible refine rd_U ?_)
  | (with_reducible refine rd_and ?_)
  | (with_reducible refine rd_or ?_)
  | (with_reducible refine rd_not ?_)
  | (with_reducible refine rd_andV ?_)
  | (with_reducible refine rd_orV ?_)
  | (with_reducible refine rd_notV ?_)
  | (with_reducible refine rd_if ?_)
  | (with_reducible refine rd_chain ?_)
  | (with_reducible refine rd_isN ?_)
  | (with_reducible refine rd_tup ?_)
  | (with_reducible refine rd_lst ?_)
  | (with_reducible refine rd_drop ?_)
  | (with_reducible refine rd_next ?_)
  | (with_reducible refine rd_true ?_)
  | (with_reducible refine rd_false ?_)
  | (with_reducible refine rd_gSub ?_)
  | (with_reducible refine rd_gCons ?_)
  | (with_reducible refine rd_gNil ?_)
  | (with_reducible refine rd_sl ?_)
  | (with_reducible refine rd_noPart ?_)
  | (with_reducible refine rd_part ?_))
local macro_rules | `(tactic| walk_at "r") => `(tactic| repeat walk_at "r1")
local macro_rules | `(tactic| walk_at "a1") => `(tactic| first
  | walk_at "r1"
  | (refine rd_newT (sz_small (by simp)) (fun _ _ _ _ _ => ?_))
  | (refine rd_newL (sz_small (by simp)) (fun _ _ _ _ _ => ?_))
  | ((refine' rd_ixT ?hs ?ha ?_); (case hs => walk_at "sq"); (case ha => exact rfl))
  | ((refine' rd_ixL ?hs ?ha ?_); (case hs => walk_at "sq"); (case ha => exact rfl)))
local macro_rules | `(tactic| walk_at "a") => `(tactic| repeat walk_at "a1")
local macro_rules | `(tactic| walk_at "isd") => `(tactic| first
  | exact IsD.int _
  | exact IsD.non
  | exact IsD.bl _
  | exact IsD.str (by decide +kernel) (by decide)
  | assumption
  | ((refine' IsD.up ?h ?l); (case h => assumption); (case l => omega))
  | ((refine' IsD.tup ?h ?l ?p); (case h => walk_at "hp"); (case l => simp); (case p => walk_at "alld"))
  | ((refine' IsD.lst ?h ?b ?l ?p); (case h => walk_at "hp"); (case b => rfl); (case l => simp); (case p => walk_at "alld"))
  | ((refine' IsD.same ?e ?h); (case e => assumption); (case h => walk_at "isd"))
  | ((refine' IsD.ext ?e ?h); (case e => assumption); (case h => walk_at "isd")))
local macro_rules | `(tactic| walk_at "alld") => `(tactic| first
  | exact AllD.nil
  | ((refine' AllD.cons ?x ?r); (case x => walk_at "isd"); (case r => walk_at "alld")))
local macro_rules | `(tactic| walk_at "bag") => `(tactic| first
  | assumption
  | ((refine' Bag.same ?b ?e); (case e => assumption); (case b => walk_at "bag")))
local macro_rules | `(tactic| walk_at "ext") => `(tactic| first
  | assumption
  | exact Ext.refl _
  | ((refine' Ext.trans ?a (Ext.of ?e)); (case e => assumption); (case a => walk_at "ext"))
  | ((refine' Ext.trans ?a ?e); (case e => assumption); (case a => walk_at "ext")))
local macro_rules | `(tactic| walk_at "alx") => `(tactic| first
  | assumption
  | ((refine' AllD.same ?e ?h); (case e => assumption); (case h => walk_at "alx"))
  | ((refine' AllD.ext ?e ?h); (case e => assumption); (case h => walk_at "alx")))
def top (i : Nat) : Stmt := PySem.Challenge.pw_rootfloor_k25_terms_and_slopes_recognize.main.body.getD i (.Pass ⟨0, 0, 0, 0⟩)
abbrev s_is_integer : Stmt := top 4
abbrev s_is_slope : Stmt := top 5
abbrev s_is_variable : Stmt := top 9
abbrev s_is_within : Stmt := top 15
abbrev s_is_item : Stmt := top 16
abbrev s_is_term_within : Stmt := top 17
abbrev s_is_term : Stmt := top 18
abbrev s_law_bag : Stmt := top 20
abbrev s_law_pull : Stmt := top 21
abbrev s_law_of : Stmt := top 22
abbrev s_law_same : Stmt := top 23
abbrev s_law_any_slope : Stmt := top 24
abbrev s_law_any_term : Stmt := top 25
abbrev s_law_bent : Stmt := top 26
abbrev s_law_is_word : Stmt := top 27
abbrev s_law_is_whole : Stmt := top 28
abbrev s_law_is_term : Stmt := top 29
abbrev s_law_is_step : Stmt := top 30
abbrev s_law : Stmt := top 31
theorem sc_is_integer : FnScope ["value"] ["value"] (defScope s_is_integer) := ⟨rfl, rfl, rfl, by decide +kernel, rfl, by decide +kernel, by decide +kernel⟩
theorem sc_is_slope : FnScope ["value", "i", "j", "k", "part"] ["value"] (defScope s_is_slope) := ⟨rfl, rfl, rfl, by decide +kernel, rfl, by decide +kernel, by decide +kernel⟩
theorem sc_is_variable : FnScope ["value", "sign"] ["value"] (defScope s_is_variable) := ⟨rfl, rfl, rfl, by decide +kernel, rfl, by decide +kernel, by decide +kernel⟩
theorem sc_is_within : FnScope ["value", "low", "high"] ["value", "low", "high"] (defScope s_is_within) := ⟨rfl, rfl, rfl, by decide +kernel, rfl, by decide +kernel, by decide +kernel⟩
theorem sc_is_item : FnScope ["value", "depth", "thing"] ["value", "depth"] (defScope s_is_item) := ⟨rfl, rfl, rfl, by decide +kernel, rfl, by decide +kernel, by decide +kernel⟩
theorem sc_is_term_within : FnScope ["value", "depth", "item"] ["value", "depth"] (defScope s_is_term_within) := ⟨rfl, rfl, rfl, by decide +kernel, rfl, by decide +kernel, by decide +kernel⟩
theorem sc_is_term : FnScope ["value"] ["value"] (defScope s_is_term) := ⟨rfl, rfl, rfl, by decide +kernel, rfl, by decide +kernel, by decide +kernel⟩
theorem sc_law_bag : FnScope ["_law_script"] ["_law_script"] (defScope s_law_bag) := ⟨rfl, rfl, rfl, by decide +kernel, rfl, by decide +kernel, by decide +kernel⟩
theorem sc_law_pull : FnScope ["_law_bag_here", "_law_sides", "_law_cell", "_law_digit", "_law_twice"] ["_law_bag_here", "_law_sides"] (defScope s_law_pull) := ⟨rfl, rfl, rfl, by decide +kernel, rfl, by decide +kernel, by decide +kernel⟩
theorem sc_law_of : FnScope ["_law_bag_here", "_law_some"] ["_law_bag_here", "_law_some"] (defScope s_law_of) := ⟨rfl, rfl, rfl, by decide +kernel, rfl, by decide +kernel, by decide +kernel⟩
theorem sc_law_same : FnScope ["_law_found", "_law_due", "_law_a", "_law_b"] ["_law_found", "_law_due"] (defScope s_law_same) := ⟨rfl, rfl, rfl, by decide +kernel, rfl, by decide +kernel, by decide +kernel⟩
theorem sc_law_any_slope : FnScope ["_law_bag_here"] ["_law_bag_here"] (defScope s_law_any_slope) := ⟨rfl, rfl, rfl, by decide +kernel, rfl, by decide +kernel, by decide +kernel⟩
theorem sc_law_any_term : FnScope ["_law_bag_here", "_law_names", "_law_deep", "_law_items", "_law_k", "_law_factor"] ["_law_bag_here", "_law_names", "_law_deep"] (defScope s_law_any_term) := ⟨rfl, rfl, rfl, by decide +kernel, rfl, by decide +kernel, by decide +kernel⟩
theorem sc_law_bent : FnScope ["_law_bag_here", "_law_value_z", "_law_way", "_law_at"] ["_law_bag_here", "_law_value_z"] (defScope s_law_bent) := ⟨rfl, rfl, rfl, by decide +kernel, rfl, by decide +kernel, by decide +kernel⟩
theorem sc_law_is_word : FnScope ["_law_value_z", "_law_sign"] ["_law_value_z"] (defScope s_law_is_word) := ⟨rfl, rfl, rfl, by decide +kernel, rfl, by decide +kernel, by decide +kernel⟩
theorem sc_law_is_whole : FnScope ["_law_value_z", "_law_low", "_law_high"] ["_law_value_z", "_law_low", "_law_high"] (defScope s_law_is_whole) := ⟨rfl, rfl, rfl, by decide +kernel, rfl, by decide +kernel, by decide +kernel⟩
theorem sc_law_is_term : FnScope ["_law_value_z", "_law_deep", "_law_item", "_law_thing"] ["_law_value_z", "_law_deep"] (defScope s_law_is_term) := ⟨rfl, rfl, rfl, by decide +kernel, rfl, by decide +kernel, by decide +kernel⟩
theorem sc_law_is_step : FnScope ["_law_value_z"] ["_law_value_z"] (defScope s_law_is_step) := ⟨rfl, rfl, rfl, by decide +kernel, rfl, by decide +kernel, by decide +kernel⟩
theorem sc_law : FnScope ["_law_script", "_law_bag_here", "_law_turn", "_law_term", "_law_spot", "_law_factor", "_law_thing", "_law_bent_here", "_law_value_z", "_law_due", "_law_deep", "_law_found", "_law_k"] ["_law_script"] (defScope s_law) := ⟨rfl, rfl, rfl, by decide +kernel, rfl, by decide +kernel, by decide +kernel⟩
structure Txt (K : PySem.W.Frag) (mg : Str → Option Value) : Prop where
  g_is_integer : mg "is_integer" = some (.ref (He.ga K "is_integer"))
  g_is_slope : mg "is_slope" = some (.ref (He.ga K "is_slope"))
  g_is_variable : mg "is_variable" = some (.ref (He.ga K "is_variable"))
  g_is_within : mg "is_within" = some (.ref (He.ga K "is_within"))
  g_is_item : mg "is_item" = some (.ref (He.ga K "is_item"))
  g_is_term_within : mg "is_term_within" = some (.ref (He.ga K "is_term_within"))
  g_is_term : mg "is_term" = some (.ref (He.ga K "is_term"))
  g_law_bag : mg "_law_bag" = some (.ref (He.ga K "_law_bag"))
  g_law_pull : mg "_law_pull" = some (.ref (He.ga K "_law_pull"))
  g_law_of : mg "_law_of" = some (.ref (He.ga K "_law_of"))
  g_law_same : mg "_law_same" = some (.ref (He.ga K "_law_same"))
  g_law_any_slope : mg "_law_any_slope" = some (.ref (He.ga K "_law_any_slope"))
  g_law_any_term : mg "_law_any_term" = some (.ref (He.ga K "_law_any_term"))
  g_law_bent : mg "_law_bent" = some (.ref (He.ga K "_law_bent"))
  g_law_is_word : mg "_law_is_word" = some (.ref (He.ga K "_law_is_word"))
  g_law_is_whole : mg "_law_is_whole" = some (.ref (He.ga K "_law_is_whole"))
  g_law_is_term : mg "_law_is_term" = some (.ref (He.ga K "_law_is_term"))
  g_law_is_step : mg "_law_is_step" = some (.ref (He.ga K "_law_is_step"))
  g_law : mg "law" = some (.ref (He.ga K "law"))
  b_abs : mg "abs" = none
  b_all : mg "all" = none
  b_bool : mg "bool" = none
  b_int : mg "int" = none
  b_isinstance : mg "isinstance" = none
  b_len : mg "len" = none
  b_list : mg "list" = none
  b_range : mg "range" = none
  b_str : mg "str" = none
  b_tuple : mg "tuple" = none
  b_zip : mg "zip" = none
  c_MOST_WHOLE : ∃ t, mg "MOST_WHOLE" = some (.int 9 t)
  c_MOST_FACTOR_surds : ∃ t, mg "MOST_FACTOR_surds" = some (.int 3 t)
  c_MOST_BOTTOM : ∃ t, mg "MOST_BOTTOM" = some (.int 4 t)
  c_LETTERS : ∃ t, mg "LETTERS" = some (.str "abcdefghijklmnopqrstuvwxyz" t)
  g_WORDS : mg "WORDS" = some (.ref (He.ga K "WORDS"))
  c_MOST_ITEMS : ∃ t, mg "MOST_ITEMS" = some (.int 4 t)
  c_MOST_FACTOR_sayings : ∃ t, mg "MOST_FACTOR_sayings" = some (.int 9 t)
  c_MOST_CONSTANT : ∃ t, mg "MOST_CONSTANT" = some (.int 1000 t)
  c_MOST_DEPTH : ∃ t, mg "MOST_DEPTH" = some (.int 3 t)
  F_is_integer : FnP K "is_integer" s_is_integer (He.ga K "is_integer")
  F_is_slope : FnP K "is_slope" s_is_slope (He.ga K "is_slope")
  F_is_variable : FnP K "is_variable" s_is_variable (He.ga K "is_variable")
  F_is_within : FnP K "is_within" s_is_within (He.ga K "is_within")
  F_is_item : FnP K "is_item" s_is_item (He.ga K "is_item")
  F_is_term_within : FnP K "is_term_within" s_is_term_within (He.ga K "is_term_within")
  F_is_term : FnP K "is_term" s_is_term (He.ga K "is_term")
  F_law_bag : FnP K "_law_bag" s_law_bag (He.ga K "_law_bag")
  F_law_pull : FnP K "_law_pull" s_law_pull (He.ga K "_law_pull")
  F_law_of : FnP K "_law_of" s_law_of (He.ga K "_law_of")
  F_law_same : FnP K "_law_same" s_law_same (He.ga K "_law_same")
  F_law_any_slope : FnP K "_law_any_slope" s_law_any_slope (He.ga K "_law_any_slope")
  F_law_any_term : FnP K "_law_any_term" s_law_any_term (He.ga K "_law_any_term")
  F_law_bent : FnP K "_law_bent" s_law_bent (He.ga K "_law_bent")
  F_law_is_word : FnP K "_law_is_word" s_law_is_word (He.ga K "_law_is_word")
  F_law_is_whole : FnP K "_law_is_whole" s_law_is_whole (He.ga K "_law_is_whole")
  F_law_is_term : FnP K "_law_is_term" s_law_is_term (He.ga K "_law_is_term")
  F_law_is_step : FnP K "_law_is_step" s_law_is_step (He.ga K "_law_is_step")
  F_law : FnP K "law" s_law (He.ga K "law")
  t_WORDS : ∀ H, SqT K H (He.ga K "WORDS") [.str "all", .str "and", .str "not", .str "or", .str "r"]
section
variable {P : Program} {w : World} {K : PySem.W.Frag} {mg : Str → Option Value} {base : Heap}
theorem ok_law_bag (T : Txt K mg) : Ok P w K mg base 1 "_law_bag" ["_law_script"] (spBag K) := by
  refine Ok.mk T.F_law_bag T.g_law_bag sc_law_bag (fun _ _ _ _ _ _ us hl => match us, hl with | [_], _ => rfl) (fun vs H Q E h => ?_) (fun cdv A outer s H vs Q E hr h => ?_)
  · obtain ⟨a, ns, rfl, _⟩ := h
    rfl
  · obtain ⟨a, ns, rfl, hS, k⟩ := h
    refine ⟨_, (pss_one (ps_ret (pe_lst (pa_cons (pe_callTy c_list (by rfl) T.b_list (by decide +kernel) (pa_cons (pe_slice sl_list (pv 0) po_none (po_some pe_int)) pa_nil)) (pa_cons pe_int (pa_cons pe_int (pa_cons pe_int pa_nil))))))), ?_⟩
    walk_at "r"
    refine rd_slL hS fun l H1 n1 e1 h1 => ?_
    walk_at "r"
    refine rd_list (.inl (sqL_of h1)) fun l2 H2 n2 e2 h2 => ?_
    walk_at "r"
    refine rd_newL (by show 4 ≤ sizeLine; decide) fun b H3 n3 e3 h3 => ?_
    have e : cutV (ns.map V.int) none (some 63) = ((ns.drop (HT.sIx (ns.map V.int).length 0 none)).take (HT.sIx (ns.map V.int).length (ns.map V.int).length (some 63) - HT.sIx (ns.map V.int).length 0 none)).map V.int := by
      unfold cutV
      rw [List.map_take, List.map_drop]
    rw [e] at h2
    exact k b l2 _ H3 ((e1.trans e2).trans e3) ⟨0, 0, 3842, h3, e3 _ _ h2, by decide, by decide, by decide, by decide⟩
theorem ok_law_pull (T : Txt K mg) : Ok P w K mg base 1 "_law_pull" ["_law_bag_here", "_law_sides"] spPull := by
  refine Ok.mk T.F_law_pull T.g_law_pull sc_law_pull (fun _ _ _ _ _ _ us hl => match us, hl with | [_, _], _ => rfl) (fun vs H Q E h => ?_) (fun cdv A outer s H vs Q E hr h => ?_)
  · obtain ⟨a, c, ns, n, rfl, _⟩ := h
    rfl
  · obtain ⟨a, c, ns, n, rfl, hB, hn0, hn1, k⟩ := h
    refine ⟨_, (Evl.pss_cut (ps_if (PW.pt (pw_and (pt_cmpR op_eq (pe_ix ix_list (pv 0) pe_int (fun _ _ => rfl)) pe_int (nomark _)) (pw_and1 (pt_cmpR op_lt (pe_ix ix_list (pv 0) pe_int (fun _ _ => rfl)) (pe_callB c_len (by rfl) T.b_len (by decide +kernel) (pa_cons (pe_ix ix_list (pv 0) pe_int (fun _ _ => rfl)) pa_nil)) (nomark _))))) (pss_cons (ps_set (i := 2) sc_law_pull.nd rfl (.inl rfl) (pe_ix ix_list (pe_ix ix_list (pv 0) pe_int (fun _ _ => rfl)) (pe_ix ix_list (pv 0) pe_int (fun _ _ => rfl)) (fun _ _ => rfl)))
      (pss_cons (ps_asg (pe_op op_add (pe_ix ix_list (pv 0) pe_int (fun _ _ => rfl)) pe_int) (pg_sub (pv 0) pe_int set_list))
      (pss_one (ps_if (pt_cmpR op_ge (pe_callB c_abs (by rfl) T.b_abs (by decide +kernel) (pa_cons (pv 2) pa_nil)) (pe_op op_pow pe_int pe_int) (nomark _)) (pss_one (ps_asg (pe_callB c_abs (by rfl) T.b_abs (by decide +kernel) (pa_cons (pv 2) pa_nil)) (pg_sub (pv 0) pe_int set_list))) (pss_one (ps_asg (pe_op op_mod (pe_callTy c_int (by rfl) T.b_int (by decide +kernel) (pa_cons (pe_op op_add (pe_op op_add (pe_op op_mul (pe_ix ix_list (pv 0) pe_int (fun _ _ => rfl)) pe_int) (pe_op op_mul (pe_op op_mod (pe_callTy c_int (by rfl) T.b_int (by decide +kernel) (pa_cons (pv 2) pa_nil)) pe_int) pe_int)) pe_int) pa_nil)) pe_int) (pg_sub (pv 0) pe_int set_list))))))) pss_nil)
      (pss_cons (ps_if (pt_cmpR op_gt (pe_ix ix_list (pv 0) pe_int (fun _ _ => rfl)) pe_int (nomark _)) (pss_cons (ps_set (i := 3) sc_law_pull.nd rfl (.inl rfl) (pe_op op_mod (pe_callTy c_int (by rfl) T.b_int (by decide +kernel) (pa_cons (pe_ix ix_list (pv 0) pe_int (fun _ _ => rfl)) pa_nil)) (pv 1)))
      (pss_cons (ps_asg (pe_op op_fdiv (pe_ix ix_list (pv 0) pe_int (fun _ _ => rfl)) (pv 1)) (pg_sub (pv 0) pe_int set_list))
      (pss_one (ps_ret (pv 3))))) pss_nil)
      (pss_cons (ps_set (i := 4) sc_law_pull.nd rfl (.inl rfl) (pe_op op_mod (pe_callTy c_int (by rfl) T.b_int (by decide +kernel) (pa_cons (pe_op op_mul (pe_ix ix_list (pv 0) pe_int (fun _ _ => rfl)) (pe_ix ix_list (pv 0) pe_int (fun _ _ => rfl))) pa_nil)) pe_int))
      (pss_cons (ps_asg (pe_op op_mod (pe_callTy c_int (by rfl) T.b_int (by decide +kernel) (pa_cons (pe_op op_add (pe_op op_add (pe_op op_mul (pv 4) pe_int) (pe_op op_mul (pe_ix ix_list (pv 0) pe_int (fun _ _ => rfl)) pe_int)) pe_int) pa_nil)) pe_int) (pg_sub (pv 0) pe_int set_list))
      (pss_one (ps_ret (pe_op op_mod (pe_callTy c_int (by rfl) T.b_int (by decide +kernel) (pa_cons (pe_op op_fdiv (pe_ix ix_list (pv 0) pe_int (fun _ _ => rfl)) pe_int) pa_nil)) (pv 1)))))))), ?_⟩
    refine ⟨fun σ' H' => ∃ v2, σ' = [some (.ref a), some (.int n), v2, none, none] ∧ Ext H H' ∧ Bag a c ns H', ?_, ?_⟩
    · obtain ⟨i, g, s, h1, h2, hi, hg, hs0, hs1⟩ := hB
      walk_at "r"
      refine rd_ixL (sqL_of h1) (v := .int g) rfl ?_
      walk_at "r"
      refine rd_dec (fun hg0 => ?_) (fun _ => ?_)
      · walk_at "r"
        refine rd_ixL (sqL_of h1) (v := .int i) rfl ?_
        walk_at "r"
        refine rd_ixL (sqL_of h1) (v := .ref c) rfl ?_
        walk_at "r"
        refine rd_lenL (sqL_of h2) ?_
        walk_at "r"
        refine rd_dec (fun hlt => ?_) (fun _ => ?_)
        · obtain ⟨z, hz⟩ := atI_ints hi hlt
          walk_at "r"
          refine rd_ixL (sqL_of h1) (v := .ref c) rfl ?_
          walk_at "r"
          refine rd_ixL (sqL_of h1) (v := .int i) rfl ?_
          refine rd_ixL (sqL_of h2) hz ?_
          walk_at "r"
          refine rd_ixL (sqL_of h1) (v := .int i) rfl ?_
          walk_at "r"
          refine rd_setL h1 (j := 1) rfl fun H1 c1 g1 => ?_
          have x1 : Ext H H1 := c1.ext h1 rfl
          have g2 : H1 c = some (.lst (ns.map V.int)) := x1 _ _ h2 (bag_ints _)
          walk_at "r"
          refine rd_abs ?_
          walk_at "r"
          refine rd_I ⟨by decide, by decide, by decide⟩ ?_
          walk_at "r"
          refine rd_dec (fun hbig => ?_) (fun _ => ?_)
          · walk_at "r"
            refine rd_abs ?_
            walk_at "r"
            refine rd_setL g1 (j := 2) rfl fun H2 c2 g3 => ?_
            have x2 : Ext H1 H2 := c2.ext g1 rfl
            exact ⟨_, rfl, x1.trans x2, i + 1, z.natAbs, s, g3, x2 _ _ g2 (bag_ints _), by omega, by omega, hs0, hs1⟩
          · walk_at "r"
            refine rd_ixL (sqL_of g1) (v := .int s) rfl ?_
            walk_at "r"
            refine rd_I (.inr ⟨by decide, by decide⟩) ?_
            walk_at "r"
            refine rd_intI ?_
            walk_at "r"
            refine rd_I (by decide) ?_
            walk_at "r"
            refine rd_I (.inr ⟨by decide, by decide⟩) ?_
            walk_at "r"
            refine rd_intI ?_
            walk_at "r"
            refine rd_I (by decide) ?_
            walk_at "r"
            refine rd_setL g1 (j := 3) rfl fun H2 c2 g3 => ?_
            have x2 : Ext H1 H2 := c2.ext g1 rfl
            exact ⟨_, rfl, x1.trans x2, i + 1, g, _, g3, x2 _ _ g2 (bag_ints _), by omega, hg, Int.emod_nonneg _ (by decide), Int.emod_lt_of_pos _ (by decide)⟩
        · walk_at "r"
          exact ⟨_, rfl, .refl _, i, g, s, h1, h2, hi, hg, hs0, hs1⟩
      · walk_at "r"
        exact ⟨_, rfl, .refl _, i, g, s, h1, h2, hi, hg, hs0, hs1⟩
    · rintro σ H1 ⟨v2, rfl, x1, i, g, s, h1, h2, hi, hg, hs0, hs1⟩
      walk_at "r"
      refine rd_ixL (sqL_of h1) (v := .int g) rfl ?_
      walk_at "r"
      refine rd_dec (fun hg0 => ?_) (fun _ => ?_)
      · walk_at "r"
        refine rd_ixL (sqL_of h1) (v := .int g) rfl ?_
        walk_at "r"
        refine rd_intI ?_
        walk_at "r"
        refine rd_I hn0 ?_
        walk_at "r"
        refine rd_ixL (sqL_of h1) (v := .int g) rfl ?_
        walk_at "r"
        refine rd_I ⟨hn0, hn1⟩ ?_
        walk_at "r"
        refine rd_setL h1 (j := 2) rfl fun H2 c2 g3 => ?_
        have x2 : Ext H1 H2 := c2.ext h1 rfl
        walk_at "r"
        exact k _ H2 (Int.emod_nonneg _ (by omega)) (Int.emod_lt_of_pos _ hn0) (x1.trans x2) ⟨i, _, s, g3, x2 _ _ h2 (bag_ints _), hi, Int.ediv_nonneg hg (by omega), hs0, hs1⟩
      · walk_at "r"
        refine rd_ixL (sqL_of h1) (v := .int s) rfl ?_
        walk_at "r"
        refine rd_ixL (sqL_of h1) (v := .int s) rfl ?_
        refine rd_I (.inl ⟨by omega, by omega⟩) ?_
        walk_at "r"
        refine rd_intI ?_
        walk_at "r"
        refine rd_I (by decide) ?_
        walk_at "r"
        refine rd_I (.inr ⟨by decide, by decide⟩) ?_
        walk_at "r"
        refine rd_ixL (sqL_of h1) (v := .int s) rfl ?_
        walk_at "r"
        refine rd_I (.inr ⟨by decide, by decide⟩) ?_
        walk_at "r"
        refine rd_intI ?_
        walk_at "r"
        refine rd_I (by decide) ?_
        walk_at "r"
        refine rd_setL h1 (j := 3) rfl fun H2 c2 g3 => ?_
        have x2 : Ext H1 H2 := c2.ext h1 rfl
        walk_at "r"
        refine rd_ixL (sqL_of g3) (v := .int _) rfl ?_
        walk_at "r"
        refine rd_I ⟨by decide, by decide⟩ ?_
        walk_at "r"
        refine rd_intI ?_
        walk_at "r"
        refine rd_I hn0 ?_
        exact k _ H2 (Int.emod_nonneg _ (by omega)) (Int.emod_lt_of_pos _ hn0) (x1.trans x2) ⟨i, g, _, g3, x2 _ _ h2 (bag_ints _), hi, hg, Int.emod_nonneg _ (by decide), Int.emod_lt_of_pos _ (by decide)⟩
theorem atI_in {xs : List V} {d : Int} (h0 : 0 ≤ d) (h1 : d < xs.length) : ∃ v, atI xs d = some v ∧ v ∈ xs := by
  have hl : d.toNat < xs.length := by omega
  have e : ((d.toNat : Nat) : Int) = d := by omega
  have q : atI xs ((d.toNat : Nat) : Int) = some xs[d.toNat] := atI_nat (List.getElem?_eq_getElem hl)
  rw [e] at q
  exact ⟨_, q, List.getElem_mem hl⟩
theorem ok_law_of (T : Txt K mg) (h_law_pull : Ok P w K mg base 1 "_law_pull" ["_law_bag_here", "_law_sides"] spPull) : Ok P w K mg base 2 "_law_of" ["_law_bag_here", "_law_some"] (spOf K) := by
  refine Ok.mk T.F_law_of T.g_law_of sc_law_of (fun _ _ _ _ _ _ us hl => match us, hl with | [_, _], _ => rfl) (fun vs H Q E h => ?_) (fun cdv A outer s H vs Q E hr h => ?_)
  · obtain ⟨a, c, l, ns, xs, rfl, _⟩ := h
    rfl
  · obtain ⟨a, c, l, ns, xs, rfl, hB, hL, hb, hx, hz, k⟩ := h
    refine ⟨_, (pss_one (ps_ret (pe_ix ix_list (pv 1) (pe_ok h_law_pull (hr.mono (by omega)) (by rfl) (pa_cons (pv 0) (pa_cons (pe_callB c_len (by rfl) T.b_len (by decide +kernel) (pa_cons (pv 1) pa_nil)) pa_nil))) (fun _ _ => rfl)))), ?_⟩
    walk_at "r"
    refine rd_lenL hL ?_
    walk_at "r"
    have hp : 0 < xs.length := List.length_pos_iff.mpr hx
    refine ⟨a, c, ns, _, rfl, hB, by omega, by omega, fun d H1 h0 h1 x1 B1 => ?_⟩
    obtain ⟨v, hv, hm⟩ := atI_in h0 h1
    refine rd_ixL (SqL.ext x1 hL hb) hv ?_
    exact k v H1 hm x1 B1
theorem ok_is_integer (T : Txt K mg) : Ok P w K mg base 1 "is_integer" ["value"] spInteger := by
  refine Ok.mk T.F_is_integer T.g_is_integer sc_is_integer (fun _ _ _ _ _ _ us hl => match us, hl with | [_], _ => rfl) (fun vs H Q E h => ?_) (fun cdv A outer s H vs Q E hr h => ?_)
  · obtain ⟨n, v, d, rfl, _⟩ := h
    rfl
  · obtain ⟨n, v, d, rfl, hD, k⟩ := h
    refine ⟨_, (pss_one (ps_ret (pe_and (pe_callB call_isi (by rfl) T.b_isinstance (by decide +kernel) (pa_cons (pv 0) (pa_cons (pe_gty (T := "int") T.b_int (by rfl) (by decide +kernel)) pa_nil))) (pe_one (pe_not (pe_callB call_isi (by rfl) T.b_isinstance (by decide +kernel) (pa_cons (pv 0) (pa_cons (pe_gty (T := "bool") T.b_bool (by rfl) (by decide +kernel)) pa_nil)))))))), ?_⟩
    rw [isIntD_eq] at k
    walk_at "r"
    refine rd_isi hD (by decide) ?_
    walk_at "r"
    refine rd_bool (fun e => ?_) (fun e => ?_)
    · walk_at "r"
      refine rd_isi hD (by decide) ?_
      walk_at "r"
      rw [e] at k
      exact k
    · rw [e] at k
      exact k
theorem ok_is_within (T : Txt K mg) (h_is_integer : Ok P w K mg base 1 "is_integer" ["value"] spInteger) : Ok P w K mg base 2 "is_within" ["value", "low", "high"] spWithin := by
  refine Ok.mk T.F_is_within T.g_is_within sc_is_within (fun _ _ _ _ _ _ us hl => match us, hl with | [_, _, _], _ => rfl) (fun vs H Q E h => ?_) (fun cdv A outer s H vs Q E hr h => ?_)
  · obtain ⟨n, v, d, lo, hi, rfl, _⟩ := h
    rfl
  · obtain ⟨n, v, d, lo, hi, rfl, hD, k⟩ := h
    refine ⟨_, (pss_one (ps_ret (pe_and (pe_ok h_is_integer (hr.mono (by omega)) (by rfl) (pa_cons (pv 0) pa_nil)) (pe_one (pe_chain op_le op_le (pv 1) (pv 0) (pv 2)))))), ?_⟩
    walk_at "r"
    refine ⟨n, v, d, rfl, hD, ?_⟩
    walk_at "r"
    refine rd_bool (fun e => ?_) (fun e => ?_)
    · cases d with
      | int i =>
        have ev : v = .int i := by cases n <;> exact hD
        subst ev
        walk_at "r"
        refine rd_dec (fun h1 => ?_) (fun h1 => ?_)
        · walk_at "r"
          have e2 : withinD (.int i) lo hi = decide (i ≤ hi) := by show (decide (lo ≤ i) && decide (i ≤ hi)) = _; rw [decide_eq_true h1, Bool.true_and]
          rw [e2] at k
          exact k
        · have e2 : withinD (.int i) lo hi = false := by show (decide (lo ≤ i) && decide (i ≤ hi)) = _; rw [decide_eq_false h1, Bool.false_and]
          rw [e2] at k
          exact k
      | _ => cases e
    · have e2 : withinD d lo hi = false := by
        cases d <;> first | rfl | cases e
      rw [e2] at k
      exact k
theorem ok_is_slope (T : Txt K mg) (h_is_integer : Ok P w K mg base 1 "is_integer" ["value"] spInteger) : Ok P w K mg base 2 "is_slope" ["value"] (spTest slopeD) := by
  refine Ok.mk T.F_is_slope T.g_is_slope sc_is_slope (fun _ _ _ _ _ _ us hl => match us, hl with | [_], _ => rfl) (fun vs H Q E h => ?_) (fun cdv A outer s H vs Q E hr h => ?_)
  · obtain ⟨n, v, d, _, rfl, _⟩ := h
    rfl
  · obtain ⟨n, v, d, hn, rfl, hD, k⟩ := h
    refine ⟨_, (pss_cons (ps_if (PW.pt (pw_or (pt_not (pt_val (pe_callB call_isi (by rfl) T.b_isinstance (by decide +kernel) (pa_cons (pv 0) (pa_cons (pe_gty (T := "tuple") T.b_tuple (by rfl) (by decide +kernel)) pa_nil))))) (pw_or (pt_cmpR op_ne (pe_callB c_len (by rfl) T.b_len (by decide +kernel) (pa_cons (pv 0) pa_nil)) pe_int (nomark _)) (pw_or1 (pt_not (pt_val (pe_callB (cr_all rfl) (by rfl) T.b_all (by decide +kernel) (pa_cons (pe_lc (own := [("part", 4)]) (by rfl) sc_is_slope.nd (pi_tup (pv 0)) (blkOk_by (own := [("part", 4)]) (N := ["value", "i", "j", "k", "part"]) (sc := defScope s_is_slope) (by decide +kernel)) (fun _ _ _ _ _ => (pg_name (i := 4) sc_is_slope.nd rfl (.inl rfl))) (fun _ _ _ _ _ => pts_nil) (fun _ _ _ _ _ => (pe_ok h_is_integer (hr.mono (by omega)) (by rfl) (pa_cons (pv 4) pa_nil)))) pa_nil)))))))) (pss_one (ps_ret pe_bl)) pss_nil)
      (pss_cons (ps_asg (pv 0) (pg_tup rfl (pgs_cons (pg_name (i := 1) sc_is_slope.nd rfl (.inl rfl)) (pgs_cons (pg_name (i := 2) sc_is_slope.nd rfl (.inl rfl)) (pgs_cons (pg_name (i := 3) sc_is_slope.nd rfl (.inl rfl)) pgs_nil)))))
      (pss_one (ps_ret (pe_and (pe_chain op_le op_le (pe_un un_neg (pe_gint T.c_MOST_WHOLE (by rfl))) (pv 1) (pe_gint T.c_MOST_WHOLE (by rfl))) (pe_and (pe_chain op_le op_le (pe_un un_neg (pe_gint T.c_MOST_FACTOR_surds (by rfl))) (pv 2) (pe_gint T.c_MOST_FACTOR_surds (by rfl))) (pe_one (pe_chain op_le op_le pe_int (pv 3) (pe_gint T.c_MOST_BOTTOM (by rfl)))))))))), ?_⟩
    walk_at "r"
    refine rd_isi hD (by decide) ?_
    walk_at "r"
    refine rd_nbool (fun e => ?_) (fun e => ?_)
    · walk_at "r"
      rw [slope_no e] at k
      exact k _ (.refl _)
    · obtain ⟨ds, rfl⟩ := isTup_of e
      obtain ⟨m, a, xs, rfl, rfl, h1, hp⟩ := hD.of_tuple
      walk_at "r"
      refine rd_lenT (sqT_of h1) ?_
      walk_at "r"
      refine rd_ndec (fun hl => ?_) (fun hl => ?_)
      · walk_at "r"
        rw [slope_len fun z => hl (by rw [Dn.len hp, z] <;> rfl)] at k
        exact k _ (.refl _)
      · have hl3 : xs.length = 3 := by injection hl with hl; omega
        walk_at "r"
        refine rd_wkT (sqT_of h1) ?_
        obtain ⟨x1, x2, x3, rfl⟩ : ∃ x1 x2 x3, xs = [x1, x2, x3] := by
          match xs, hl3 with
          | [a, b, c], _ => exact ⟨a, b, c, rfl⟩
        obtain ⟨d1, d2, d3, rfl, p1, p2, p3⟩ : ∃ d1 d2 d3, ds = [d1, d2, d3] ∧ Dn m H x1 d1 ∧ Dn m H x2 d2 ∧ Dn m H x3 d3 := by
          cases hp with
          | cons a hp =>
            cases hp with
            | cons b hp =>
              cases hp with
              | cons c hp =>
                cases hp
                exact ⟨_, _, _, rfl, a, b, c⟩
        refine lc_pure (walk_tup (xs := [x1, x2, x3])) (fun H' s => sqT_of (s _ _ h1)) (fun i => some (.bl (isIntD ([d1, d2, d3].getD i .none)))) (by show 3 ≤ 100000; decide) (fun i x H2 H3 Q' N' hi s2 y q1 q2 => ?_) (fun D H' nD s1 hD1 => ?_)
        · obtain ⟨rfl, hx⟩ := y
          walk_at "r"
          match i, hi, hx with
          | 0, _, hx => cases hx; exact ⟨m, x1, d1, rfl, p1.same s2, q1 _ _ rfl (.refl _)⟩
          | 1, _, hx => cases hx; exact ⟨m, x2, d2, rfl, p2.same s2, q1 _ _ rfl (.refl _)⟩
          | 2, _, hx => cases hx; exact ⟨m, x3, d3, rfl, p3.same s2, q1 _ _ rfl (.refl _)⟩
        · walk_at "r"
          refine all_lst hD1 (bs := [isIntD d1, isIntD d2, isIntD d3]) rfl ?_
          walk_at "r"
          have h1' := s1 _ _ h1
          refine rd_nbool (fun e3 => ?_) (fun e3 => ?_)
          · walk_at "r"
            have e4 : slopeD (.tuple [d1, d2, d3]) = false := by
              show (withinD d1 (-9) 9 && withinD d2 (-3) 3 && withinD d3 1 4) = false
              cases z1 : isIntD d1 with
              | false => rw [within_no z1] <;> rfl
              | true =>
                cases z2 : isIntD d2 with
                | false => rw [within_no z2, Bool.and_false] <;> rfl
                | true =>
                  cases z3 : isIntD d3 with
                  | false => rw [within_no z3, Bool.and_false]
                  | true => simp [z1, z2, z3] at e3
            rw [e4] at k
            exact k _ s1
          · have e5 : isIntD d1 = true ∧ isIntD d2 = true ∧ isIntD d3 = true := by simpa using e3
            obtain ⟨i1, rfl⟩ := of_isInt e5.1
            obtain ⟨i2, rfl⟩ := of_isInt e5.2.1
            obtain ⟨i3, rfl⟩ := of_isInt e5.2.2
            have v1 : x1 = .int i1 := by cases m <;> exact p1
            have v2 : x2 = .int i2 := by cases m <;> exact p2
            have v3 : x3 = .int i3 := by cases m <;> exact p3
            subst v1 v2 v3
            have k2 := k H' s1
            have e6 : slopeD (.tuple [.int i1, .int i2, .int i3]) = ((decide (-9 ≤ i1) && decide (i1 ≤ 9)) && (decide (-3 ≤ i2) && decide (i2 ≤ 3)) && (decide (1 ≤ i3) && decide (i3 ≤ 4))) := rfl
            rw [e6] at k2
            walk_at "r"
            refine rd_gTup (sqT_of h1') rfl ?_
            walk_at "r"
            refine rd_dec (fun z => ?_) (fun z => ?_)
            · walk_at "r"
              rw [decide_eq_true z] at k2
              refine rd_dec (fun z => ?_) (fun z => ?_)
              · walk_at "r"
                rw [decide_eq_true z] at k2
                refine rd_dec (fun z => ?_) (fun z => ?_)
                · walk_at "r"
                  rw [decide_eq_true z] at k2
                  refine rd_dec (fun z => ?_) (fun z => ?_)
                  · walk_at "r"
                    rw [decide_eq_true z] at k2
                    refine rd_dec (fun z => ?_) (fun z => ?_)
                    · walk_at "r"
                      rw [decide_eq_true z] at k2
                      exact k2
                    · walk_at "r"
                      rw [decide_eq_false z] at k2
                      exact k2
                  · walk_at "r"
                    rw [decide_eq_false z] at k2
                    exact k2
                · walk_at "r"
                  rw [decide_eq_false z] at k2
                  simpa using k2
              · walk_at "r"
                rw [decide_eq_false z] at k2
                simpa using k2
            · walk_at "r"
              rw [decide_eq_false z] at k2
              simpa using k2
theorem ok_is_variable (T : Txt K mg) : Ok P w K mg base 1 "is_variable" ["value"] (spTest varD) := by
  refine Ok.mk T.F_is_variable T.g_is_variable sc_is_variable (fun _ _ _ _ _ _ us hl => match us, hl with | [_], _ => rfl) (fun vs H Q E h => ?_) (fun cdv A outer s H vs Q E hr h => ?_)
  · obtain ⟨n, v, d, _, rfl, _⟩ := h
    rfl
  · obtain ⟨n, v, d, hn, rfl, hD, k⟩ := h
    refine ⟨_, (pss_cons (ps_if (PW.pt (pw_or (pt_not (pt_val (pe_callB call_isi (by rfl) T.b_isinstance (by decide +kernel) (pa_cons (pv 0) (pa_cons (pe_gty (T := "str") T.b_str (by rfl) (by decide +kernel)) pa_nil))))) (pw_or (pt_not (pt_chain op_le op_le pe_int (pe_callB c_len (by rfl) T.b_len (by decide +kernel) (pa_cons (pv 0) pa_nil)) pe_int)) (pw_or1 (pt_cmpR op_in_seq (pv 0) (pe_gref T.g_WORDS (by rfl)) (by rfl)))))) (pss_one (ps_ret pe_bl)) pss_nil)
      (pss_one (ps_ret (pe_callB (cr_all rfl) (by rfl) T.b_all (by decide +kernel) (pa_cons (pe_lc (own := [("sign", 1)]) (by rfl) sc_is_variable.nd (pi_str (pv 0)) (blkOk_by (own := [("sign", 1)]) (N := ["value", "sign"]) (sc := defScope s_is_variable) (by decide +kernel)) (fun _ _ _ _ _ => (pg_name (i := 1) sc_is_variable.nd rfl (.inl rfl))) (fun _ _ _ _ _ => pts_nil) (fun _ _ _ _ _ => (pe_cmpR op_inS (pv 1) (pe_gstr T.c_LETTERS (by rfl)) (by rfl)))) pa_nil))))), ?_⟩
    walk_at "r"
    refine rd_isi hD (by decide) ?_
    walk_at "r"
    refine rd_nbool (fun e => ?_) (fun e => ?_)
    · walk_at "r"
      rw [var_no e] at k
      exact k _ (.refl _)
    · obtain ⟨x, rfl⟩ := isStr_of e
      obtain ⟨rfl, hx, hlen⟩ : v = .str x ∧ PyData.strOk x = true ∧ x.length ≤ 100000 := by cases n <;> exact hD
      have hz := sz_small hlen
      have hk : ∀ {b : Bool} {H'}, varS x = b → Same H H' → Q (.bl b) H' := fun e s => e ▸ k _ s
      walk_at "r"
      refine rd_lenS hz ?_
      walk_at "r"
      refine rd_dec (fun z1 => ?_) (fun z1 => ?_)
      · walk_at "r"
        refine rd_ndec (fun z2 => ?_) (fun z2 => ?_)
        · walk_at "r"
          refine hk ?_ (.refl _)
          unfold varS
          rw [decide_eq_false z2, Bool.and_false, Bool.false_and, Bool.false_and]
        · walk_at "r"
          refine rd_inT (T.t_WORDS _) rfl rfl ?_
          walk_at "r"
          refine rd_bool (fun z3 => ?_) (fun z3 => ?_)
          · walk_at "r"
            refine hk ?_ (.refl _)
            unfold varS
            rw [show inV (.str x) (words.map V.str) = true from z3, Bool.not_true, Bool.and_false, Bool.false_and]
          · walk_at "r"
            refine rd_wkS ?_
            refine lc_pure walk_str (fun _ _ => trivial) (fun i => some (.bl (decide (x.cps.toList.getD i 0 ∈ letters.cps.toList)))) ?_ (fun i v H2 H3 Q' N' hi s2 y q1 q2 => ?_) (fun D H' nD s1 hD1 => ?_)
            · have : x.cps.size = x.length := rfl
              omega
            · obtain ⟨rfl, c, hc, rfl⟩ := y
              walk_at "r"
              refine rd_inS ?_
              have e1 := q1 _ H3 rfl (.refl _)
              rw [at_toList hc] at e1
              exact e1
            · walk_at "r"
              replace hD1 := hD1.trans (congrArg (fun l => some (HO.lst l)) (signs_map x fun c => decide (c ∈ letters.cps.toList)))
              refine all_lst hD1 rfl ?_
              refine hk ?_ s1
              unfold varS
              rw [decide_eq_true z1, decide_eq_true z2, show inV (.str x) (words.map V.str) = false from z3, List.all_map]
              rfl
      · walk_at "r"
        refine hk ?_ (.refl _)
        unfold varS
        rw [decide_eq_false z1, Bool.false_and, Bool.false_and, Bool.false_and]
theorem ok_is_item (T : Txt K mg) (k : Nat) {spR : Sp} (h_is_integer : Ok P w K mg base 1 "is_integer" ["value"] spInteger) (h_is_within : Ok P w K mg base 2 "is_within" ["value", "low", "high"] spWithin) (h_is_variable : Ok P w K mg base 1 "is_variable" ["value"] (spTest varD)) (h_is_slope : Ok P w K mg base 2 "is_slope" ["value"] (spTest slopeD))
    (h_is_term_within : Ok P w K mg base (2 + 2 * k) "is_term_within" ["value", "depth"] spR) (hR : ∀ j, k = j + 1 → ∀ vs H Q E, spTestN j (termD j) vs H Q E → spR vs H Q E) : Ok P w K mg base (3 + 2 * k) "is_item" ["value", "depth"] (spTestN k (itemD (recOf k))) := by
  refine Ok.mono (Ok.mk (k := 2 + 2 * k) T.F_is_item T.g_is_item sc_is_item (fun _ _ _ _ _ _ us hl => match us, hl with | [_, _], _ => rfl) (fun vs H Q E h => ?_) (fun cdv A outer s H vs Q E hr h => ?_)) (by omega)
  · obtain ⟨n, v, d, _, rfl, _⟩ := h
    rfl
  · obtain ⟨n, v, d, hn, rfl, hD, kk⟩ := h
    have hk : ∀ {b : Bool} {H'}, itemD (recOf k) d = b → Same H H' → Q (.bl b) H' := fun e s => e ▸ kk _ s
    clear kk
    refine ⟨_, (pss_cons (ps_if (PW.pt (pw_or (pt_not (pt_val (pe_callB call_isi (by rfl) T.b_isinstance (by decide +kernel) (pa_cons (pv 0) (pa_cons (pe_gty (T := "tuple") T.b_tuple (by rfl) (by decide +kernel)) pa_nil))))) (pw_or (pt_cmpR op_ne (pe_callB c_len (by rfl) T.b_len (by decide +kernel) (pa_cons (pv 0) pa_nil)) pe_int (nomark _)) (pw_or1 (pt_not (pt_val (pe_ok h_is_within (hr.mono (by omega)) (by rfl) (pa_cons (pe_ix ix_tup (pv 0) pe_int (fun _ _ => rfl)) (pa_cons (pe_un un_neg (pe_gint T.c_MOST_FACTOR_sayings (by rfl))) (pa_cons (pe_gint T.c_MOST_FACTOR_sayings (by rfl)) pa_nil)))))))))) (pss_one (ps_ret pe_bl)) pss_nil)
      (pss_cons (ps_set (i := 2) sc_is_item.nd rfl (.inl rfl) (pe_ix ix_tup (pv 0) pe_int (fun _ _ => rfl)))
      (pss_cons (ps_if (PW.pt (pw_or (pt_cmpR op_eq (pe_ix ix_tup (pv 0) pe_int (fun _ _ => rfl)) pe_int (nomark _)) (pw_or1 (pt_val (pe_ok h_is_variable (hr.mono (by omega)) (by rfl) (pa_cons (pv 2) pa_nil)))))) (pss_one (ps_ret (pe_cmpR op_ne (pe_ix ix_tup (pv 0) pe_int (fun _ _ => rfl)) pe_int (nomark _)))) pss_nil)
      (pss_cons (ps_if (PW.pt (pw_or (pt_not (pt_val (pe_callB call_isi (by rfl) T.b_isinstance (by decide +kernel) (pa_cons (pv 2) (pa_cons (pe_gty (T := "tuple") T.b_tuple (by rfl) (by decide +kernel)) pa_nil))))) (pw_or (pt_cmpR op_ne (pe_callB c_len (by rfl) T.b_len (by decide +kernel) (pa_cons (pv 2) pa_nil)) pe_int (nomark _)) (pw_or (pt_cmpR (op_neD hr.units) (pe_ix ix_tup (pv 2) pe_int (fun _ _ => rfl)) pe_str (nomark _)) (pw_or1 (pt_not (pt_val (pe_ok h_is_slope (hr.mono (by omega)) (by rfl) (pa_cons (pe_ix ix_tup (pv 2) pe_int (fun _ _ => rfl)) pa_nil))))))))) (pss_one (ps_ret pe_bl)) pss_nil)
      (pss_one (ps_ret (pe_and (pe_cmpR op_gt (pv 1) pe_int (nomark _)) (pe_one (pe_ok h_is_term_within (hr.mono (by omega)) (by rfl) (pa_cons (pe_ix ix_tup (pv 2) pe_int (fun _ _ => rfl)) (pa_cons (pe_op op_sub (pv 1) pe_int) pa_nil))))))))))), ?_⟩
    walk_at "r"
    refine rd_isi hD (by decide) ?_
    walk_at "r"
    refine rd_nbool (fun e => ?_) (fun e => ?_)
    · walk_at "r"
      exact hk (item_no e) (.refl _)
    · obtain ⟨ds, rfl⟩ := isTup_of e
      obtain ⟨m, a, xs, rfl, rfl, h1, hp⟩ := hD.of_tuple
      walk_at "r"
      refine rd_lenT (sqT_of h1) ?_
      walk_at "r"
      refine rd_ndec (fun hl => ?_) (fun hl => ?_)
      · walk_at "r"
        exact hk (item_len fun z => hl (by rw [Dn.len hp, z] <;> rfl)) (.refl _)
      · have hl2 : xs.length = 2 := by injection hl with hl; omega
        obtain ⟨x1, x2, d1, d2, rfl, rfl, p1, p2⟩ := Dn.two hp hl2
        rw [item_two] at hk
        walk_at "r"
        refine rd_ixT (sqT_of h1) rfl ?_
        walk_at "r"
        refine ⟨m, x1, d1, _, _, rfl, p1, ?_⟩
        walk_at "r"
        refine rd_nbool (fun e1 => ?_) (fun e1 => ?_)
        · walk_at "r"
          refine hk ?_ (.refl _)
          rw [show withinD d1 (-9) 9 = false from e1] <;> rfl
        · obtain ⟨f, rfl⟩ : ∃ f, d1 = .int f := by
            cases d1 with
            | int f => exact ⟨f, rfl⟩
            | _ => cases e1
          have ev := p1.eq_int
          subst ev
          rw [show withinD (.int f) (-9) 9 = true from e1, Bool.true_and] at hk
          walk_at "r"
          refine rd_ixT (sqT_of h1) rfl ?_
          walk_at "r"
          refine rd_ixT (sqT_of h1) rfl ?_
          walk_at "r"
          refine rd_dec (fun z => ?_) (fun z => ?_)
          · walk_at "r"
            refine rd_ixT (sqT_of h1) rfl ?_
            walk_at "r"
            have zf : f = 0 := by injection z
            subst zf
            exact hk rfl (.refl _)
          · have zf : f ≠ 0 := fun q => z (by rw [q])
            walk_at "r"
            refine ⟨m, x2, d2, by omega, rfl, p2, fun H1 s1 => ?_⟩
            have h1' := s1 _ _ h1
            have p2' := p2.same s1
            walk_at "r"
            simp only [ne_eq, zf, not_false_eq_true, decide_true, Bool.true_and] at hk
            refine rd_bool (fun e2 => ?_) (fun e2 => ?_)
            · walk_at "r"
              refine rd_ixT (sqT_of h1') rfl ?_
              walk_at "r"
              refine hk ?_ s1
              rw [e2, decide_eq_false z] <;> rfl
            · rw [e2, Bool.false_or] at hk
              walk_at "r"
              refine rd_isi p2' (by decide) ?_
              walk_at "r"
              refine rd_nbool (fun e3 => ?_) (fun e3 => ?_)
              · walk_at "r"
                exact hk (floor_no e3) s1
              · obtain ⟨es, rfl⟩ := isTup_of e3
                obtain ⟨m2, b, ys, rfl, rfl, g1, gp⟩ := p2'.of_tuple
                walk_at "r"
                refine rd_lenT (sqT_of g1) ?_
                walk_at "r"
                refine rd_ndec (fun hl => ?_) (fun hl => ?_)
                · walk_at "r"
                  exact hk (floor_len fun z => hl (by rw [Dn.len gp, z] <;> rfl)) s1
                · have hl3 : ys.length = 3 := by injection hl with hl; omega
                  obtain ⟨y1, y2, y3, c1, c2, c3, rfl, rfl, r1, r2, r3⟩ := Dn.three gp hl3
                  rw [floor_three] at hk
                  walk_at "r"
                  refine rd_ixT (sqT_of g1) rfl ?_
                  walk_at "r"
                  refine rd_neD (m := 0) (by omega) (by omega) r1 (Dn.str (by decide +kernel) (by decide)) ?_
                  walk_at "r"
                  refine rd_nbool (fun e4 => ?_) (fun e4 => ?_)
                  · walk_at "r"
                    refine hk ?_ s1
                    rw [e4] <;> rfl
                  · rw [e4, Bool.true_and] at hk
                    walk_at "r"
                    refine rd_ixT (sqT_of g1) rfl ?_
                    walk_at "r"
                    refine ⟨m2, y2, c2, by omega, rfl, r2, fun H2 s2 => ?_⟩
                    have g1' := s2 _ _ g1
                    have r3' := r3.same s2
                    walk_at "r"
                    refine rd_nbool (fun e5 => ?_) (fun e5 => ?_)
                    · walk_at "r"
                      refine hk ?_ (s1.trans s2)
                      rw [e5] <;> rfl
                    · rw [e5, Bool.true_and] at hk
                      walk_at "r"
                      cases k with
                      | zero =>
                        refine rd_dec (fun z => absurd z (by decide)) (fun z => ?_)
                        exact hk rfl (s1.trans s2)
                      | succ j =>
                        refine rd_dec (fun z => ?_) (fun z => absurd (show (0 : Int) < ((j + 1 : Nat) : Int) by omega) z)
                        walk_at "r"
                        refine rd_ixT (sqT_of g1') rfl ?_
                        walk_at "r"
                        refine hR j rfl _ _ _ _ ⟨m2, y3, c3, by omega, ?_, r3', fun H3 s3 => hk rfl ((s1.trans s2).trans s3)⟩
                        show [y3, V.int (((j + 1 : Nat) : Int) - 1)] = [y3, V.int (j : Int)]
                        rw [show (((j + 1 : Nat) : Int) - 1) = (j : Int) by omega]
theorem ok_is_term_within (T : Txt K mg) (k : Nat) (h_is_within : Ok P w K mg base 2 "is_within" ["value", "low", "high"] spWithin) (h_is_item : Ok P w K mg base (3 + 2 * k) "is_item" ["value", "depth"] (spTestN k (itemD (recOf k)))) :
    Ok P w K mg base (4 + 2 * k) "is_term_within" ["value", "depth"] (spTestN k (termD k)) := by
  refine Ok.mono (Ok.mk (k := 3 + 2 * k) T.F_is_term_within T.g_is_term_within sc_is_term_within (fun _ _ _ _ _ _ us hl => match us, hl with | [_, _], _ => rfl) (fun vs H Q E h => ?_) (fun cdv A outer s H vs Q E hr h => ?_)) (by omega)
  · obtain ⟨n, v, d, _, rfl, _⟩ := h
    rfl
  · obtain ⟨n, v, d, hn, rfl, hD, kk⟩ := h
    have hk : ∀ {b : Bool} {H'}, termF (recOf k) d = b → Same H H' → Q (.bl b) H' := fun e s => by
      have q := kk _ s
      rw [termD_eq, e] at q
      exact q
    clear kk
    refine ⟨_, (pss_cons (ps_if (PW.pt (pw_or (pt_not (pt_val (pe_callB call_isi (by rfl) T.b_isinstance (by decide +kernel) (pa_cons (pv 0) (pa_cons (pe_gty (T := "tuple") T.b_tuple (by rfl) (by decide +kernel)) pa_nil))))) (pw_or (pt_cmpR op_ne (pe_callB c_len (by rfl) T.b_len (by decide +kernel) (pa_cons (pv 0) pa_nil)) pe_int (nomark _)) (pw_or1 (pt_not (pt_val (pe_callB call_isi (by rfl) T.b_isinstance (by decide +kernel) (pa_cons (pe_ix ix_tup (pv 0) pe_int (fun _ _ => rfl)) (pa_cons (pe_gty (T := "tuple") T.b_tuple (by rfl) (by decide +kernel)) pa_nil))))))))) (pss_one (ps_ret pe_bl)) pss_nil)
      (pss_cons (ps_if (PW.pt (pw_or (pt_cmpR op_gt (pe_callB c_len (by rfl) T.b_len (by decide +kernel) (pa_cons (pe_ix ix_tup (pv 0) pe_int (fun _ _ => rfl)) pa_nil)) (pe_gint T.c_MOST_ITEMS (by rfl)) (nomark _)) (pw_or1 (pt_not (pt_val (pe_ok h_is_within (hr.mono (by omega)) (by rfl) (pa_cons (pe_ix ix_tup (pv 0) pe_int (fun _ _ => rfl)) (pa_cons (pe_un un_neg (pe_gint T.c_MOST_CONSTANT (by rfl))) (pa_cons (pe_gint T.c_MOST_CONSTANT (by rfl)) pa_nil))))))))) (pss_one (ps_ret pe_bl)) pss_nil)
      (pss_one (ps_ret (pe_callB (cr_all rfl) (by rfl) T.b_all (by decide +kernel) (pa_cons (pe_lc (own := [("item", 2)]) (by rfl) sc_is_term_within.nd (pi_tup (pe_ix ix_tup (pv 0) pe_int (fun _ _ => rfl))) (blkOk_by (own := [("item", 2)]) (N := ["value", "depth", "item"]) (sc := defScope s_is_term_within) (by decide +kernel)) (fun _ _ _ _ _ => (pg_name (i := 2) sc_is_term_within.nd rfl (.inl rfl))) (fun _ _ _ _ _ => pts_nil) (fun _ _ _ _ _ => (pe_ok h_is_item (hr.mono (by omega)) (by rfl) (pa_cons (pv 2) (pa_cons (pv 1) pa_nil))))) pa_nil)))))), ?_⟩
    walk_at "r"
    refine rd_isi hD (by decide) ?_
    walk_at "r"
    refine rd_nbool (fun e => ?_) (fun e => ?_)
    · walk_at "r"
      exact hk (term_no e) (.refl _)
    · obtain ⟨ds, rfl⟩ := isTup_of e
      obtain ⟨m, a, xs, rfl, rfl, h1, hp⟩ := hD.of_tuple
      walk_at "r"
      refine rd_lenT (sqT_of h1) ?_
      walk_at "r"
      refine rd_ndec (fun hl => ?_) (fun hl => ?_)
      · walk_at "r"
        exact hk (term_len fun z => hl (by rw [Dn.len hp, z] <;> rfl)) (.refl _)
      · have hl2 : xs.length = 2 := by injection hl with hl; omega
        obtain ⟨x1, x2, d1, d2, rfl, rfl, p1, p2⟩ := Dn.two hp hl2
        walk_at "r"
        refine rd_ixT (sqT_of h1) rfl ?_
        walk_at "r"
        refine rd_isi p1 (by decide) ?_
        walk_at "r"
        refine rd_nbool (fun e1 => ?_) (fun e1 => ?_)
        · walk_at "r"
          exact hk (term_two e1) (.refl _)
        · obtain ⟨its, rfl⟩ := isTup_of e1
          obtain ⟨m2, b, ys, rfl, rfl, g1, gp⟩ := p1.of_tuple
          rw [term_items] at hk
          have ll := Dn.len gp
          walk_at "r"
          refine rd_ixT (sqT_of h1) rfl ?_
          walk_at "r"
          refine rd_lenT (sqT_of g1) ?_
          walk_at "r"
          refine rd_dec (fun z => ?_) (fun z => ?_)
          · walk_at "r"
            refine hk ?_ (.refl _)
            rw [decide_eq_false (show ¬ its.length ≤ 4 by omega)] <;> rfl
          · walk_at "r"
            refine rd_ixT (sqT_of h1) rfl ?_
            walk_at "r"
            rw [decide_eq_true (show its.length ≤ 4 by omega), Bool.true_and] at hk
            refine ⟨_, x2, d2, _, _, rfl, p2, ?_⟩
            walk_at "r"
            refine rd_nbool (fun e3 => ?_) (fun e3 => ?_)
            · walk_at "r"
              refine hk ?_ (.refl _)
              rw [show withinD d2 (-1000) 1000 = false from e3] <;> rfl
            · rw [show withinD d2 (-1000) 1000 = true from e3, Bool.true_and] at hk
              walk_at "r"
              refine rd_ixT (sqT_of h1) rfl ?_
              walk_at "r"
              refine rd_wkT (sqT_of g1) ?_
              refine lc_pure (walk_tup (xs := ys)) (fun H' s => sqT_of (s _ _ g1)) (fun i => some (.bl (itemD (recOf k) (its.getD i .none)))) (by omega) (fun i x H2 H3 Q' N' hi s2 y q1 q2 => ?_) (fun D H' nD s1 hD1 => ?_)
              · obtain ⟨rfl, hx⟩ := y
                obtain ⟨di, hdi, pi⟩ := pat gp hx
                walk_at "r"
                refine ⟨m2, x, di, by omega, rfl, pi.same s2, fun H4 s4 => ?_⟩
                have q := q1 _ H4 rfl s4
                rw [List.getD_eq_getElem?_getD, hdi] at q
                exact q
              · walk_at "r"
                rw [ll] at hD1
                replace hD1 := hD1.trans (congrArg (fun l => some (HO.lst l)) (data_map its (itemD (recOf k))))
                refine all_lst hD1 rfl ?_
                refine hk ?_ s1
                rw [List.all_map]
                rfl
theorem ok_terms (T : Txt K mg) (h_is_integer : Ok P w K mg base 1 "is_integer" ["value"] spInteger) (h_is_within : Ok P w K mg base 2 "is_within" ["value", "low", "high"] spWithin) (h_is_variable : Ok P w K mg base 1 "is_variable" ["value"] (spTest varD)) (h_is_slope : Ok P w K mg base 2 "is_slope" ["value"] (spTest slopeD)) :
    ∀ k : Nat, Ok P w K mg base (4 + 2 * k) "is_term_within" ["value", "depth"] (spTestN k (termD k))
  | 0 => ok_is_term_within T 0 h_is_within (ok_is_item T 0 h_is_integer h_is_within h_is_variable h_is_slope (Ok.never T.F_is_term_within T.g_is_term_within (fun _ _ _ _ _ _ us hl => match us, hl with | [_, _], _ => rfl)) (fun j e => by cases e))
  | k + 1 => ok_is_term_within T (k + 1) h_is_within (ok_is_item T (k + 1) h_is_integer h_is_within h_is_variable h_is_slope ((ok_terms T h_is_integer h_is_within h_is_variable h_is_slope k).mono (by omega)) (fun j e vs H Q E h => by cases e; exact h))
theorem ok_is_term (T : Txt K mg) (h_is_term_within : Ok P w K mg base 10 "is_term_within" ["value", "depth"] (spTestN 3 (termD 3))) : Ok P w K mg base 11 "is_term" ["value"] (spTest (termD 3)) := by
  refine Ok.mk T.F_is_term T.g_is_term sc_is_term (fun _ _ _ _ _ _ us hl => match us, hl with | [_], _ => rfl) (fun vs H Q E h => ?_) (fun cdv A outer s H vs Q E hr h => ?_)
  · obtain ⟨n, v, d, _, rfl, _⟩ := h
    rfl
  · obtain ⟨n, v, d, hn, rfl, hD, k⟩ := h
    refine ⟨_, (pss_one (ps_ret (pe_ok h_is_term_within (hr.mono (by omega)) (by rfl) (pa_cons (pv 0) (pa_cons (pe_gint T.c_MOST_DEPTH (by rfl)) pa_nil))))), ?_⟩
    walk_at "r"
    exact ⟨n, v, d, hn, rfl, hD, k⟩
theorem ok_law_is_whole (T : Txt K mg) : Ok P w K mg base 1 "_law_is_whole" ["_law_value_z", "_law_low", "_law_high"] spWithin := by
  refine Ok.mk T.F_law_is_whole T.g_law_is_whole sc_law_is_whole (fun _ _ _ _ _ _ us hl => match us, hl with | [_, _, _], _ => rfl) (fun vs H Q E h => ?_) (fun cdv A outer s H vs Q E hr h => ?_)
  · obtain ⟨n, v, d, lo, hi, rfl, _⟩ := h
    rfl
  · obtain ⟨n, v, d, lo, hi, rfl, hD, k⟩ := h
    have hk : ∀ {b : Bool}, withinD d lo hi = b → Q (.bl b) H := fun e => e ▸ k
    have hi1 := isIntD_eq d
    refine ⟨_, (pss_one (ps_ret (pe_and (pe_callB call_isi (by rfl) T.b_isinstance (by decide +kernel) (pa_cons (pv 0) (pa_cons (pe_gty (T := "int") T.b_int (by rfl) (by decide +kernel)) pa_nil))) (pe_and (pe_not (pe_callB call_isi (by rfl) T.b_isinstance (by decide +kernel) (pa_cons (pv 0) (pa_cons (pe_gty (T := "bool") T.b_bool (by rfl) (by decide +kernel)) pa_nil)))) (pe_one (pe_chain op_le op_le (pv 1) (pv 0) (pv 2))))))), ?_⟩
    walk_at "r"
    refine rd_isi hD (by decide) ?_
    walk_at "r"
    refine rd_bool (fun e => ?_) (fun e => ?_)
    · walk_at "r"
      refine rd_isi hD (by decide) ?_
      walk_at "r"
      rw [e, Bool.true_and] at hi1
      rw [← hi1]
      refine rd_bool (fun e2 => ?_) (fun e2 => ?_)
      · obtain ⟨i, rfl⟩ := of_isInt e2
        have ev := hD.eq_int
        subst ev
        walk_at "r"
        refine rd_dec (fun h1 => ?_) (fun h1 => ?_)
        · walk_at "r"
          refine hk ?_
          show (decide (lo ≤ i) && decide (i ≤ hi)) = _
          rw [decide_eq_true h1, Bool.true_and]
        · refine hk ?_
          show (decide (lo ≤ i) && decide (i ≤ hi)) = _
          rw [decide_eq_false h1, Bool.false_and]
      · exact hk (within_no e2)
    · rw [e, Bool.false_and] at hi1
      exact hk (within_no hi1)
theorem ok_law_is_step (T : Txt K mg) (h_law_is_whole : Ok P w K mg base 1 "_law_is_whole" ["_law_value_z", "_law_low", "_law_high"] spWithin) : Ok P w K mg base 2 "_law_is_step" ["_law_value_z"] (spTest slopeD) := by
  refine Ok.mk T.F_law_is_step T.g_law_is_step sc_law_is_step (fun _ _ _ _ _ _ us hl => match us, hl with | [_], _ => rfl) (fun vs H Q E h => ?_) (fun cdv A outer s H vs Q E hr h => ?_)
  · obtain ⟨n, v, d, _, rfl, _⟩ := h
    rfl
  · obtain ⟨n, v, d, hn, rfl, hD, kk⟩ := h
    have hk : ∀ {b : Bool} {H'}, slopeD d = b → Same H H' → Q (.bl b) H' := fun e s => e ▸ kk _ s
    clear kk
    refine ⟨_, (pss_cons (ps_if (PW.pt (pw_or (pt_not (pt_val (pe_callB call_isi (by rfl) T.b_isinstance (by decide +kernel) (pa_cons (pv 0) (pa_cons (pe_gty (T := "tuple") T.b_tuple (by rfl) (by decide +kernel)) pa_nil))))) (pw_or1 (pt_cmpR op_ne (pe_callB c_len (by rfl) T.b_len (by decide +kernel) (pa_cons (pv 0) pa_nil)) pe_int (nomark _))))) (pss_one (ps_ret pe_bl)) pss_nil)
      (pss_one (ps_ret (pe_and (pe_ok h_law_is_whole (hr.mono (by omega)) (by rfl) (pa_cons (pe_ix ix_tup (pv 0) pe_int (fun _ _ => rfl)) (pa_cons (pe_un un_neg pe_int) (pa_cons pe_int pa_nil)))) (pe_and (pe_ok h_law_is_whole (hr.mono (by omega)) (by rfl) (pa_cons (pe_ix ix_tup (pv 0) pe_int (fun _ _ => rfl)) (pa_cons (pe_un un_neg pe_int) (pa_cons pe_int pa_nil)))) (pe_one (pe_ok h_law_is_whole (hr.mono (by omega)) (by rfl) (pa_cons (pe_ix ix_tup (pv 0) pe_int (fun _ _ => rfl)) (pa_cons pe_int (pa_cons pe_int pa_nil)))))))))), ?_⟩
    walk_at "r"
    refine rd_isi hD (by decide) ?_
    walk_at "r"
    refine rd_nbool (fun e => ?_) (fun e => ?_)
    · walk_at "r"
      exact hk (slope_no e) (.refl _)
    · obtain ⟨ds, rfl⟩ := isTup_of e
      obtain ⟨m, a, xs, rfl, rfl, h1, hp⟩ := hD.of_tuple
      walk_at "r"
      refine rd_lenT (sqT_of h1) ?_
      walk_at "r"
      refine rd_ndec (fun hl => ?_) (fun hl => ?_)
      · walk_at "r"
        exact hk (slope_len fun z => hl (by rw [Dn.len hp, z] <;> rfl)) (.refl _)
      · have hl3 : xs.length = 3 := by injection hl with hl; omega
        obtain ⟨x1, x2, x3, d1, d2, d3, rfl, rfl, p1, p2, p3⟩ := Dn.three hp hl3
        have e6 : slopeD (.tuple [d1, d2, d3]) = (withinD d1 (-9) 9 && withinD d2 (-3) 3 && withinD d3 1 4) := rfl
        rw [e6] at hk
        walk_at "r"
        refine rd_ixT (sqT_of h1) rfl ?_
        walk_at "r"
        refine ⟨_, x1, d1, _, _, rfl, p1, ?_⟩
        walk_at "r"
        refine rd_bool (fun e1 => ?_) (fun e1 => ?_)
        · rw [show withinD d1 (-9) 9 = true from e1, Bool.true_and] at hk
          walk_at "r"
          refine rd_ixT (sqT_of h1) rfl ?_
          walk_at "r"
          refine ⟨_, x2, d2, _, _, rfl, p2, ?_⟩
          walk_at "r"
          refine rd_bool (fun e1 => ?_) (fun e1 => ?_)
          · rw [show withinD d2 (-3) 3 = true from e1, Bool.true_and] at hk
            walk_at "r"
            refine rd_ixT (sqT_of h1) rfl ?_
            walk_at "r"
            exact ⟨_, x3, d3, _, _, rfl, p3, hk rfl (.refl _)⟩
          · refine hk ?_ (.refl _)
            rw [show withinD d2 (-3) 3 = false from e1] <;> rfl
        · refine hk ?_ (.refl _)
          rw [show withinD d1 (-9) 9 = false from e1] <;> rfl
theorem ok_law_is_word (T : Txt K mg) : Ok P w K mg base 1 "_law_is_word" ["_law_value_z"] (spTest varD) := by
  refine Ok.mk T.F_law_is_word T.g_law_is_word sc_law_is_word (fun _ _ _ _ _ _ us hl => match us, hl with | [_], _ => rfl) (fun vs H Q E h => ?_) (fun cdv A outer s H vs Q E hr h => ?_)
  · obtain ⟨n, v, d, _, rfl, _⟩ := h
    rfl
  · obtain ⟨n, v, d, hn, rfl, hD, k⟩ := h
    refine ⟨_, (pss_cons (ps_if (PW.pt (pw_or (pt_not (pt_val (pe_callB call_isi (by rfl) T.b_isinstance (by decide +kernel) (pa_cons (pv 0) (pa_cons (pe_gty (T := "str") T.b_str (by rfl) (by decide +kernel)) pa_nil))))) (pw_or (pt_not (pt_chain op_le op_le pe_int (pe_callB c_len (by rfl) T.b_len (by decide +kernel) (pa_cons (pv 0) pa_nil)) pe_int)) (pw_or1 (pt_cmpR op_in_seq (pv 0) (pe_tup (pa_cons pe_str (pa_cons pe_str (pa_cons pe_str (pa_cons pe_str (pa_cons pe_str pa_nil)))))) (by rfl)))))) (pss_one (ps_ret pe_bl)) pss_nil)
      (pss_one (ps_ret (pe_callB (cr_all rfl) (by rfl) T.b_all (by decide +kernel) (pa_cons (pe_lc (own := [("_law_sign", 1)]) (by rfl) sc_law_is_word.nd (pi_str (pv 0)) (blkOk_by (own := [("_law_sign", 1)]) (N := ["_law_value_z", "_law_sign"]) (sc := defScope s_law_is_word) (by decide +kernel)) (fun _ _ _ _ _ => (pg_name (i := 1) sc_law_is_word.nd rfl (.inl rfl))) (fun _ _ _ _ _ => pts_nil) (fun _ _ _ _ _ => (pe_cmpR op_inS (pv 1) pe_str (by rfl)))) pa_nil))))), ?_⟩
    walk_at "r"
    refine rd_isi hD (by decide) ?_
    walk_at "r"
    refine rd_nbool (fun e => ?_) (fun e => ?_)
    · walk_at "r"
      rw [var_no e] at k
      exact k _ (.refl _)
    · obtain ⟨x, rfl⟩ := isStr_of e
      obtain ⟨rfl, hx, hlen⟩ : v = .str x ∧ PyData.strOk x = true ∧ x.length ≤ 100000 := by cases n <;> exact hD
      have hz := sz_small hlen
      have hk : ∀ {b : Bool} {H'}, varS x = b → Same H H' → Q (.bl b) H' := fun e s => e ▸ k _ s
      walk_at "r"
      refine rd_lenS hz ?_
      walk_at "r"
      refine rd_dec (fun z1 => ?_) (fun z1 => ?_)
      · walk_at "r"
        refine rd_ndec (fun z2 => ?_) (fun z2 => ?_)
        · walk_at "r"
          refine hk ?_ (.refl _)
          unfold varS
          rw [decide_eq_false z2, Bool.and_false, Bool.false_and, Bool.false_and]
        · walk_at "r"
          refine rd_newT (by show 5 ≤ sizeLine; decide) fun pt H1 n1 s0 h1 => ?_
          walk_at "r"
          refine rd_inT (sqT_of h1) rfl rfl ?_
          walk_at "r"
          refine rd_bool (fun z3 => ?_) (fun z3 => ?_)
          · walk_at "r"
            refine hk ?_ s0
            unfold varS
            rw [show inV (.str x) (words.map V.str) = true from z3, Bool.not_true, Bool.and_false, Bool.false_and]
          · walk_at "r"
            refine rd_wkS ?_
            refine lc_pure walk_str (fun _ _ => trivial) (fun i => some (.bl (decide (x.cps.toList.getD i 0 ∈ letters.cps.toList)))) ?_ (fun i v H2 H3 Q' N' hi s2 y q1 q2 => ?_) (fun D H' nD s1 hD1 => ?_)
            · have : x.cps.size = x.length := rfl
              omega
            · obtain ⟨rfl, c, hc, rfl⟩ := y
              walk_at "r"
              refine rd_inS ?_
              have e1 := q1 _ H3 rfl (.refl _)
              rw [at_toList hc] at e1
              exact e1
            · walk_at "r"
              replace hD1 := hD1.trans (congrArg (fun l => some (HO.lst l)) (signs_map x fun c => decide (c ∈ letters.cps.toList)))
              refine all_lst hD1 rfl ?_
              refine hk ?_ (s0.trans s1)
              unfold varS
              rw [decide_eq_true z1, decide_eq_true z2, show inV (.str x) (words.map V.str) = false from z3, List.all_map]
              rfl
      · walk_at "r"
        refine hk ?_ (.refl _)
        unfold varS
        rw [decide_eq_false z1, Bool.false_and, Bool.false_and, Bool.false_and]
theorem ok_law_is_term1 (T : Txt K mg) (k : Nat) {spR : Sp} (h_law_is_whole : Ok P w K mg base 1 "_law_is_whole" ["_law_value_z", "_law_low", "_law_high"] spWithin) (h_law_is_step : Ok P w K mg base 2 "_law_is_step" ["_law_value_z"] (spTest slopeD)) (h_law_is_word : Ok P w K mg base 1 "_law_is_word" ["_law_value_z"] (spTest varD))
    (h_law_is_term : Ok P w K mg base (2 + k) "_law_is_term" ["_law_value_z", "_law_deep"] spR) (hR : ∀ j, k = j + 1 → ∀ vs H Q E, spTestN j (termD j) vs H Q E → spR vs H Q E) : Ok P w K mg base (3 + k) "_law_is_term" ["_law_value_z", "_law_deep"] (spTestN k (termD k)) := by
  refine Ok.mono (Ok.mk (k := 2 + k) T.F_law_is_term T.g_law_is_term sc_law_is_term (fun _ _ _ _ _ _ us hl => match us, hl with | [_, _], _ => rfl) (fun vs H Q E h => ?_) (fun cdv A outer s H vs Q E hr h => ?_)) (by omega)
  · obtain ⟨n, v, d, _, rfl, _⟩ := h
    rfl
  · obtain ⟨n, v, d, hn, rfl, hD, kk⟩ := h
    have hk : ∀ {b : Bool} {H'}, termF (recOf k) d = b → Same H H' → Q (.bl b) H' := fun e s => by
      have q := kk _ s
      rw [termD_eq, e] at q
      exact q
    clear kk
    refine ⟨_, (pss_cons (ps_if (PW.pt (pw_or (pt_not (pt_val (pe_callB call_isi (by rfl) T.b_isinstance (by decide +kernel) (pa_cons (pv 0) (pa_cons (pe_gty (T := "tuple") T.b_tuple (by rfl) (by decide +kernel)) pa_nil))))) (pw_or (pt_cmpR op_ne (pe_callB c_len (by rfl) T.b_len (by decide +kernel) (pa_cons (pv 0) pa_nil)) pe_int (nomark _)) (pw_or (pt_not (pt_val (pe_callB call_isi (by rfl) T.b_isinstance (by decide +kernel) (pa_cons (pe_ix ix_tup (pv 0) pe_int (fun _ _ => rfl)) (pa_cons (pe_gty (T := "tuple") T.b_tuple (by rfl) (by decide +kernel)) pa_nil))))) (pw_or1 (pt_cmpR op_gt (pe_callB c_len (by rfl) T.b_len (by decide +kernel) (pa_cons (pe_ix ix_tup (pv 0) pe_int (fun _ _ => rfl)) pa_nil)) pe_int (nomark _))))))) (pss_one (ps_ret pe_bl)) pss_nil)
      (pss_cons (ps_if (pt_not (pt_val (pe_ok h_law_is_whole (hr.mono (by omega)) (by rfl) (pa_cons (pe_ix ix_tup (pv 0) pe_int (fun _ _ => rfl)) (pa_cons (pe_un un_neg pe_int) (pa_cons pe_int pa_nil)))))) (pss_one (ps_ret pe_bl)) pss_nil)
      (pss_cons (ps_for PassesOwn.never rfl (pi_tup (pe_ix ix_tup (pv 0) pe_int (fun _ _ => rfl))) (pg_name (i := 2) sc_law_is_term.nd rfl (.inl rfl)) (pss_cons (ps_if (PW.pt (pw_or (pt_not (pt_val (pe_callB call_isi (by rfl) T.b_isinstance (by decide +kernel) (pa_cons (pv 2) (pa_cons (pe_gty (T := "tuple") T.b_tuple (by rfl) (by decide +kernel)) pa_nil))))) (pw_or (pt_cmpR op_ne (pe_callB c_len (by rfl) T.b_len (by decide +kernel) (pa_cons (pv 2) pa_nil)) pe_int (nomark _)) (pw_or (pt_not (pt_val (pe_ok h_law_is_whole (hr.mono (by omega)) (by rfl) (pa_cons (pe_ix ix_tup (pv 2) pe_int (fun _ _ => rfl)) (pa_cons (pe_un un_neg pe_int) (pa_cons pe_int pa_nil)))))) (pw_or1 (pt_cmpR op_eq (pe_ix ix_tup (pv 2) pe_int (fun _ _ => rfl)) pe_int (nomark _))))))) (pss_one (ps_ret pe_bl)) pss_nil)
      (pss_one (ps_if (pt_not (pt_val (pe_ok h_law_is_word (hr.mono (by omega)) (by rfl) (pa_cons (pe_ix ix_tup (pv 2) pe_int (fun _ _ => rfl)) pa_nil)))) (pss_cons (ps_set (i := 3) sc_law_is_term.nd rfl (.inl rfl) (pe_ix ix_tup (pv 2) pe_int (fun _ _ => rfl)))
      (pss_cons (ps_if (PW.pt (pw_or (pt_not (pt_val (pe_callB call_isi (by rfl) T.b_isinstance (by decide +kernel) (pa_cons (pv 3) (pa_cons (pe_gty (T := "tuple") T.b_tuple (by rfl) (by decide +kernel)) pa_nil))))) (pw_or (pt_cmpR op_ne (pe_callB c_len (by rfl) T.b_len (by decide +kernel) (pa_cons (pv 3) pa_nil)) pe_int (nomark _)) (pw_or (pt_cmpR (op_neD hr.units) (pe_ix ix_tup (pv 3) pe_int (fun _ _ => rfl)) pe_str (nomark _)) (pw_or1 (pt_cmpR op_eq (pv 1) pe_int (nomark _))))))) (pss_one (ps_ret pe_bl)) pss_nil)
      (pss_one (ps_if (PW.pt (pw_or (pt_not (pt_val (pe_ok h_law_is_step (hr.mono (by omega)) (by rfl) (pa_cons (pe_ix ix_tup (pv 3) pe_int (fun _ _ => rfl)) pa_nil)))) (pw_or1 (pt_not (pt_val (pe_ok h_law_is_term (hr.mono (by omega)) (by rfl) (pa_cons (pe_ix ix_tup (pv 3) pe_int (fun _ _ => rfl)) (pa_cons (pe_op op_sub (pv 1) pe_int) pa_nil)))))))) (pss_one (ps_ret pe_bl)) pss_nil)))) pss_nil))))
      (pss_one (ps_ret pe_bl))))), ?_⟩
    walk_at "r"
    refine rd_isi hD (by decide) ?_
    walk_at "r"
    refine rd_nbool (fun e => ?_) (fun e => ?_)
    · walk_at "r"
      exact hk (term_no e) (.refl _)
    · obtain ⟨ds, rfl⟩ := isTup_of e
      obtain ⟨m, a, xs, rfl, rfl, h1, hp⟩ := hD.of_tuple
      walk_at "r"
      refine rd_lenT (sqT_of h1) ?_
      walk_at "r"
      refine rd_ndec (fun hl => ?_) (fun hl => ?_)
      · walk_at "r"
        exact hk (term_len fun z => hl (by rw [Dn.len hp, z] <;> rfl)) (.refl _)
      · have hl2 : xs.length = 2 := by injection hl with hl; omega
        obtain ⟨x1, x2, d1, d2, rfl, rfl, p1, p2⟩ := Dn.two hp hl2
        walk_at "r"
        refine rd_ixT (sqT_of h1) rfl ?_
        walk_at "r"
        refine rd_isi p1 (by decide) ?_
        walk_at "r"
        refine rd_nbool (fun e1 => ?_) (fun e1 => ?_)
        · walk_at "r"
          exact hk (term_two e1) (.refl _)
        · obtain ⟨its, rfl⟩ := isTup_of e1
          obtain ⟨m2, b, ys, rfl, rfl, g1, gp⟩ := p1.of_tuple
          rw [term_items] at hk
          have ll := Dn.len gp
          walk_at "r"
          refine rd_ixT (sqT_of h1) rfl ?_
          walk_at "r"
          refine rd_lenT (sqT_of g1) ?_
          walk_at "r"
          refine rd_dec (fun z => ?_) (fun z => ?_)
          · walk_at "r"
            refine hk ?_ (.refl _)
            rw [decide_eq_false (show ¬ its.length ≤ 4 by omega)] <;> rfl
          · walk_at "r"
            refine rd_ixT (sqT_of h1) rfl ?_
            walk_at "r"
            rw [decide_eq_true (show its.length ≤ 4 by omega), Bool.true_and] at hk
            refine ⟨_, x2, d2, _, _, rfl, p2, ?_⟩
            walk_at "r"
            refine rd_nbool (fun e3 => ?_) (fun e3 => ?_)
            · walk_at "r"
              refine hk ?_ (.refl _)
              rw [show withinD d2 (-1000) 1000 = false from e3] <;> rfl
            · rw [show withinD d2 (-1000) 1000 = true from e3, Bool.true_and] at hk
              walk_at "r"
              refine rd_ixT (sqT_of h1) rfl ?_
              walk_at "r"
              refine rd_wkT (sqT_of g1) ?_
              refine fo_it (walk_tup (xs := ys)) (fun i σ' H' => ∃ o1 o2, σ' = [some (.ref a), some (.int (k : Int)), o1, o2] ∧ Same H H' ∧ ∀ j x, j < i → its[j]? = some x → itemD (recOf k) x = true) ⟨none, none, rfl, .refl _, fun j x hj => absurd hj (Nat.not_lt_zero _)⟩ (fun i σ1 H1 _ ⟨_, _, _, s1, _⟩ => sqT_of (s1 _ _ g1)) ?_ ?_
              · rintro i x σ1 H1 H2 hi ⟨o1, o2, rfl, s1, all⟩ ⟨rfl, hx⟩
                obtain ⟨di, hdi, pi⟩ := pat gp hx
                replace pi := pi.same s1
                have bad : itemD (recOf k) di = false → ∀ {H3}, Same H H3 → Q (.bl false) H3 := fun e H3 s3 => hk (all_false hdi e) s3
                have good : itemD (recOf k) di = true → ∀ j x, j < i + 1 → its[j]? = some x → itemD (recOf k) x = true := fun e j y hj hy => by
                  rcases Nat.lt_succ_iff_lt_or_eq.mp hj with h | h
                  · exact all j y h hy
                  · rw [h, hdi] at hy
                    cases hy
                    exact e
                clear hk all
                walk_at "r"
                refine rd_isi pi (by decide) ?_
                walk_at "r"
                refine rd_nbool (fun e4 => ?_) (fun e4 => ?_)
                · walk_at "r"
                  exact bad (item_no e4) s1
                · obtain ⟨es, rfl⟩ := isTup_of e4
                  obtain ⟨m3, c, zs, rfl, rfl, c1, cp⟩ := pi.of_tuple
                  walk_at "r"
                  refine rd_lenT (sqT_of c1) ?_
                  walk_at "r"
                  refine rd_ndec (fun hl => ?_) (fun hl => ?_)
                  · walk_at "r"
                    exact bad (item_len fun z => hl (by rw [Dn.len cp, z] <;> rfl)) s1
                  · have hl2 : zs.length = 2 := by injection hl with hl; omega
                    obtain ⟨z1, z2, f1, f2, rfl, rfl, q1, q2⟩ := Dn.two cp hl2
                    rw [item_two] at bad good
                    walk_at "r"
                    refine rd_ixT (sqT_of c1) rfl ?_
                    walk_at "r"
                    refine ⟨_, z1, f1, _, _, rfl, q1, ?_⟩
                    walk_at "r"
                    refine rd_nbool (fun e5 => ?_) (fun e5 => ?_)
                    · walk_at "r"
                      refine bad ?_ s1
                      rw [show withinD f1 (-9) 9 = false from e5] <;> rfl
                    · obtain ⟨f, rfl⟩ : ∃ f, f1 = .int f := by
                        cases f1 with
                        | int f => exact ⟨f, rfl⟩
                        | _ => cases e5
                      have ev := q1.eq_int
                      subst ev
                      rw [show withinD (.int f) (-9) 9 = true from e5, Bool.true_and] at bad good
                      walk_at "r"
                      refine rd_ixT (sqT_of c1) rfl ?_
                      walk_at "r"
                      refine rd_dec (fun z => ?_) (fun z => ?_)
                      · walk_at "r"
                        have zf : f = 0 := by injection z
                        subst zf
                        exact bad rfl s1
                      · have zf : f ≠ 0 := fun q => z (by rw [q])
                        simp only [ne_eq, zf, not_false_eq_true, decide_true, Bool.true_and] at bad good
                        walk_at "r"
                        refine rd_ixT (sqT_of c1) rfl ?_
                        walk_at "r"
                        refine ⟨_, z2, f2, by omega, rfl, q2, fun H3 s3 => ?_⟩
                        have c1' := s3 _ _ c1
                        replace q2 := q2.same s3
                        walk_at "r"
                        refine rd_nbool (fun e6 => ?_) (fun e6 => ?_)
                        · rw [e6, Bool.false_or] at bad good
                          walk_at "r"
                          refine rd_ixT (sqT_of c1') rfl ?_
                          walk_at "r"
                          refine rd_isi q2 (by decide) ?_
                          walk_at "r"
                          refine rd_nbool (fun e7 => ?_) (fun e7 => ?_)
                          · walk_at "r"
                            exact bad (floor_no e7) (s1.trans s3)
                          · obtain ⟨es, rfl⟩ := isTup_of e7
                            obtain ⟨m4, t, ts, rfl, rfl, t1, tp⟩ := q2.of_tuple
                            walk_at "r"
                            refine rd_lenT (sqT_of t1) ?_
                            walk_at "r"
                            refine rd_ndec (fun hl => ?_) (fun hl => ?_)
                            · walk_at "r"
                              exact bad (floor_len fun z => hl (by rw [Dn.len tp, z] <;> rfl)) (s1.trans s3)
                            · have hl3 : ts.length = 3 := by injection hl with hl; omega
                              obtain ⟨y1, y2, y3, k1, k2, k3, rfl, rfl, r1, r2, r3⟩ := Dn.three tp hl3
                              rw [floor_three] at bad good
                              walk_at "r"
                              refine rd_ixT (sqT_of t1) rfl ?_
                              walk_at "r"
                              refine rd_neD (m := 0) (by omega) (by omega) r1 (Dn.str (by decide +kernel) (by decide)) ?_
                              walk_at "r"
                              refine rd_nbool (fun e8 => ?_) (fun e8 => ?_)
                              · walk_at "r"
                                refine bad ?_ (s1.trans s3)
                                rw [e8] <;> rfl
                              · rw [e8, Bool.true_and] at bad good
                                walk_at "r"
                                cases k with
                                | zero =>
                                  refine rd_dec (fun _ => ?_) (fun z => absurd rfl z)
                                  walk_at "r"
                                  refine bad ?_ (s1.trans s3)
                                  show (slopeD k2 && false) = false
                                  rw [Bool.and_false]
                                | succ j =>
                                  refine rd_dec (fun z => ?_) (fun _ => ?_)
                                  · injection z with z
                                    omega
                                  walk_at "r"
                                  refine rd_ixT (sqT_of t1) rfl ?_
                                  walk_at "r"
                                  refine ⟨_, y2, k2, by omega, rfl, r2, fun H4 s4 => ?_⟩
                                  have t1' := s4 _ _ t1
                                  replace r3 := r3.same s4
                                  walk_at "r"
                                  refine rd_nbool (fun e9 => ?_) (fun e9 => ?_)
                                  · walk_at "r"
                                    refine bad ?_ ((s1.trans s3).trans s4)
                                    rw [e9] <;> rfl
                                  · rw [e9, Bool.true_and] at bad good
                                    walk_at "r"
                                    refine rd_ixT (sqT_of t1') rfl ?_
                                    walk_at "r"
                                    refine hR j rfl _ _ _ _ ⟨_, y3, k3, by omega, ?_, r3, fun H5 s5 => ?_⟩
                                    · show [y3, V.int (((j + 1 : Nat) : Int) - 1)] = [y3, V.int (j : Int)]
                                      rw [show (((j + 1 : Nat) : Int) - 1) = (j : Int) by omega]
                                    · walk_at "r"
                                      refine rd_nbool (fun e10 => ?_) (fun e10 => ?_)
                                      · walk_at "r"
                                        exact bad e10 (((s1.trans s3).trans s4).trans s5)
                                      · walk_at "r"
                                        exact ⟨_, _, rfl, ((s1.trans s3).trans s4).trans s5, good e10⟩
                        · walk_at "r"
                          refine ⟨_, _, rfl, s1.trans s3, good ?_⟩
                          rw [e6] <;> rfl
              · rintro σ1 H1 ⟨o1, o2, rfl, s1, all⟩
                walk_at "r"
                refine hk (all_true fun i x hi hx => all i x (by omega) hx) s1
theorem ok_law_is_term (T : Txt K mg) (h_law_is_whole : Ok P w K mg base 1 "_law_is_whole" ["_law_value_z", "_law_low", "_law_high"] spWithin) (h_law_is_step : Ok P w K mg base 2 "_law_is_step" ["_law_value_z"] (spTest slopeD)) (h_law_is_word : Ok P w K mg base 1 "_law_is_word" ["_law_value_z"] (spTest varD)) :
    ∀ k : Nat, Ok P w K mg base (3 + k) "_law_is_term" ["_law_value_z", "_law_deep"] (spTestN k (termD k))
  | 0 => ok_law_is_term1 T 0 h_law_is_whole h_law_is_step h_law_is_word (Ok.never T.F_law_is_term T.g_law_is_term (fun _ _ _ _ _ _ us hl => match us, hl with | [_, _], _ => rfl)) (fun j e => by cases e)
  | k + 1 => ok_law_is_term1 T (k + 1) h_law_is_whole h_law_is_step h_law_is_word ((ok_law_is_term T h_law_is_whole h_law_is_step h_law_is_word k).mono (by omega)) (fun j e vs H Q E h => by cases e; exact h)
theorem ok_law_same1 (T : Txt K mg) (n : Nat) (hn : n ≤ 60) {spR : Sp} (h_law_same : Ok P w K mg base n "_law_same" ["_law_found", "_law_due"] spR) (hR : ∀ j, n = j + 1 → ∀ vs H Q E, spSame j vs H Q E → spR vs H Q E) :
    Ok P w K mg base (n + 1) "_law_same" ["_law_found", "_law_due"] (spSame n) := by
  refine Ok.mk T.F_law_same T.g_law_same sc_law_same (fun _ _ _ _ _ _ us hl => match us, hl with | [_, _], _ => rfl) (fun vs H Q E h => ?_) (fun cdv A outer s H vs Q E hr h => ?_)
  · obtain ⟨v1, v2, d, rfl, _⟩ := h
    rfl
  · obtain ⟨v1, v2, d, rfl, hA, hB, k⟩ := h
    refine ⟨_, (pss_cons (ps_if (PW.pt (pw_or (pt_cmpR op_isN (pv 1) pe_non (nomark _)) (pw_or1 (pt_cmpR op_isN (pv 0) pe_non (nomark _))))) (pss_one (ps_ret (pe_and (pe_cmpR op_isN (pv 1) pe_non (nomark _)) (pe_one (pe_cmpR op_isN (pv 0) pe_non (nomark _)))))) pss_nil)
      (pss_cons (ps_if (PW.pt (pw_or (pt_val (pe_callB call_isi (by rfl) T.b_isinstance (by decide +kernel) (pa_cons (pv 1) (pa_cons (pe_gty (T := "bool") T.b_bool (by rfl) (by decide +kernel)) pa_nil)))) (pw_or1 (pt_val (pe_callB call_isi (by rfl) T.b_isinstance (by decide +kernel) (pa_cons (pv 0) (pa_cons (pe_gty (T := "bool") T.b_bool (by rfl) (by decide +kernel)) pa_nil))))))) (pss_one (ps_ret (pe_and (pe_callB call_isi (by rfl) T.b_isinstance (by decide +kernel) (pa_cons (pv 1) (pa_cons (pe_gty (T := "bool") T.b_bool (by rfl) (by decide +kernel)) pa_nil))) (pe_and (pe_callB call_isi (by rfl) T.b_isinstance (by decide +kernel) (pa_cons (pv 0) (pa_cons (pe_gty (T := "bool") T.b_bool (by rfl) (by decide +kernel)) pa_nil))) (pe_one (pe_cmpR op_eq (pv 0) (pv 1) (nomark _))))))) pss_nil)
      (pss_cons (ps_if (PW.pt (pw_or (pt_val (pe_callB call_isiT (by rfl) T.b_isinstance (by decide +kernel) (pa_cons (pv 1) (pa_cons (pe_tup (pa_cons (pe_gty (T := "list") T.b_list (by rfl) (by decide +kernel)) (pa_cons (pe_gty (T := "tuple") T.b_tuple (by rfl) (by decide +kernel)) pa_nil))) pa_nil)))) (pw_or1 (pt_val (pe_callB call_isiT (by rfl) T.b_isinstance (by decide +kernel) (pa_cons (pv 0) (pa_cons (pe_tup (pa_cons (pe_gty (T := "list") T.b_list (by rfl) (by decide +kernel)) (pa_cons (pe_gty (T := "tuple") T.b_tuple (by rfl) (by decide +kernel)) pa_nil))) pa_nil))))))) (pss_cons (ps_if (PW.pt (pw_or (pt_cmpR op_ne (pe_callB call_isi (by rfl) T.b_isinstance (by decide +kernel) (pa_cons (pv 1) (pa_cons (pe_gty (T := "list") T.b_list (by rfl) (by decide +kernel)) pa_nil))) (pe_callB call_isi (by rfl) T.b_isinstance (by decide +kernel) (pa_cons (pv 0) (pa_cons (pe_gty (T := "list") T.b_list (by rfl) (by decide +kernel)) pa_nil))) (nomark _)) (pw_or1 (pt_cmpR op_ne (pe_callB call_isi (by rfl) T.b_isinstance (by decide +kernel) (pa_cons (pv 1) (pa_cons (pe_gty (T := "tuple") T.b_tuple (by rfl) (by decide +kernel)) pa_nil))) (pe_callB call_isi (by rfl) T.b_isinstance (by decide +kernel) (pa_cons (pv 0) (pa_cons (pe_gty (T := "tuple") T.b_tuple (by rfl) (by decide +kernel)) pa_nil))) (nomark _))))) (pss_one (ps_ret pe_bl)) pss_nil)
      (pss_one (ps_ret (pe_and (pe_cmpR op_eq (pe_callB c_len (by rfl) T.b_len (by decide +kernel) (pa_cons (pv 0) pa_nil)) (pe_callB c_len (by rfl) T.b_len (by decide +kernel) (pa_cons (pv 1) pa_nil)) (nomark _)) (pe_one (pe_callB (cr_all rfl) (by rfl) T.b_all (by decide +kernel) (pa_cons (pe_lc (own := [("_law_a", 2), ("_law_b", 3)]) (g := (gTup K 2 (gCons (gName 2) (gCons (gName 3) gNil)))) (by rfl) sc_law_same.nd (RZ.pi_zipA (by rfl) T.b_zip (pa_cons (pv 0) (pa_cons (pv 1) pa_nil))) (blkOk_by (own := [("_law_a", 2), ("_law_b", 3)]) (N := ["_law_found", "_law_due", "_law_a", "_law_b"]) (sc := defScope s_law_same) (by decide +kernel)) (fun _ _ _ _ _ => (pg_tup rfl (pgs_cons (pg_name (i := 2) sc_law_same.nd rfl (.inl rfl)) (pgs_cons (pg_name (i := 3) sc_law_same.nd rfl (.inl rfl)) pgs_nil)))) (fun _ _ _ _ _ => pts_nil) (fun _ _ _ _ _ => (pe_ok h_law_same (hr.mono (by omega)) (by rfl) (pa_cons (pv 2) (pa_cons (pv 3) pa_nil))))) pa_nil))))))) pss_nil)
      (pss_cons (ps_if (PW.pt (pw_or (pt_cmpR op_ne (pe_callB call_isi (by rfl) T.b_isinstance (by decide +kernel) (pa_cons (pv 1) (pa_cons (pe_gty (T := "int") T.b_int (by rfl) (by decide +kernel)) pa_nil))) (pe_callB call_isi (by rfl) T.b_isinstance (by decide +kernel) (pa_cons (pv 0) (pa_cons (pe_gty (T := "int") T.b_int (by rfl) (by decide +kernel)) pa_nil))) (nomark _)) (pw_or1 (pt_cmpR op_ne (pe_callB call_isi (by rfl) T.b_isinstance (by decide +kernel) (pa_cons (pv 1) (pa_cons (pe_gty (T := "str") T.b_str (by rfl) (by decide +kernel)) pa_nil))) (pe_callB call_isi (by rfl) T.b_isinstance (by decide +kernel) (pa_cons (pv 0) (pa_cons (pe_gty (T := "str") T.b_str (by rfl) (by decide +kernel)) pa_nil))) (nomark _))))) (pss_one (ps_ret pe_bl)) pss_nil)
      (pss_one (ps_ret (pe_cmpR op_eq (pv 0) (pv 1) (nomark _)))))))), ?_⟩
    have hN : ∀ v, Dn n H v d → d ≠ .none → v ≠ .non := fun v h hd hv => by
      subst hv
      cases d with
      | none => exact hd rfl
      | str x => cases n <;> cases h.1
      | list => cases n with
        | zero => exact h
        | succ => obtain ⟨_, _, h, _⟩ := h; cases h
      | tuple => cases n with
        | zero => exact h
        | succ => obtain ⟨_, _, h, _⟩ := h; cases h
      | dict => cases n <;> exact h
      | _ => cases n <;> cases h
    by_cases hd : d = .none
    · subst hd
      have e1 : v1 = .non := by cases n <;> exact hA
      have e2 : v2 = .non := by cases n <;> exact hB
      subst e1 e2
      walk_at "r"
      refine ⟨rfl, ?_⟩
      walk_at "r"
      refine rd_dec (fun _ => ?_) (fun z => absurd rfl z)
      walk_at "r"
      refine ⟨rfl, ?_⟩
      walk_at "r"
      refine rd_dec (fun _ => ?_) (fun z => absurd rfl z)
      walk_at "r"
      exact ⟨rfl, k _ (.refl _)⟩
    · have n1 := hN v1 hA hd
      have n2 := hN v2 hB hd
      walk_at "r"
      refine ⟨rfl, ?_⟩
      walk_at "r"
      refine rd_dec (fun z => absurd z n2) (fun _ => ?_)
      walk_at "r"
      refine ⟨rfl, ?_⟩
      walk_at "r"
      refine rd_dec (fun z => absurd z n1) (fun _ => ?_)
      walk_at "r"
      refine rd_isi hB (by decide) ?_
      walk_at "r"
      refine rd_bool (fun eb => ?_) (fun eb => ?_)
      · obtain ⟨b, rfl⟩ : ∃ b, d = .bool b := by
          rw [isA_bool] at eb
          cases d with
          | bool b => exact ⟨b, rfl⟩
          | _ => cases eb
        have e1 : v1 = .bl b := by cases n <;> exact hA
        have e2 : v2 = .bl b := by cases n <;> exact hB
        subst e1 e2
        walk_at "r"
        refine rd_isi hB (by decide) ?_
        walk_at "r"
        refine rd_bool (fun _ => ?_) (fun z => by rw [eb] at z; cases z)
        walk_at "r"
        refine rd_isi hA (by decide) ?_
        walk_at "r"
        refine rd_bool (fun _ => ?_) (fun z => by rw [eb] at z; cases z)
        walk_at "r"
        have q := k H (.refl _)
        rw [← decide_eq_true (rfl : V.bl b = V.bl b)] at q
        exact q
      · walk_at "r"
        refine rd_isi hA (by decide) ?_
        walk_at "r"
        refine rd_bool (fun z => by rw [eb] at z; cases z) (fun _ => ?_)
        walk_at "r"
        refine rd_newT (by show 2 ≤ sizeLine; decide) fun pt H1 m1 s1 h1 => ?_
        replace hA := hA.same s1
        replace hB := hB.same s1
        walk_at "r"
        refine rd_isiLT hB h1 ?_
        walk_at "r"
        cases d with
        | none => exact absurd rfl hd
        | bool b => cases eb
        | dict => cases n <;> exact hA.elim
        | int i =>
          have e1 := hA.eq_int
          have e2 := hB.eq_int
          subst e1 e2
          refine rd_bool (fun z => by rw [isA_list, isA_tuple] at z; cases z) (fun _ => ?_)
          walk_at "r"
          refine rd_newT (by show 2 ≤ sizeLine; decide) fun pt2 H2 m2 s2 h2 => ?_
          replace hA := hA.same s2
          replace hB := hB.same s2
          walk_at "r"
          refine rd_isiLT hA h2 ?_
          walk_at "r"
          refine rd_bool (fun z => by rw [isA_list, isA_tuple] at z; cases z) (fun _ => ?_)
          walk_at "r"
          refine rd_isi hB (by decide) ?_
          walk_at "r"
          refine rd_isi hA (by decide) ?_
          walk_at "r"
          refine rd_ndec (fun z => absurd rfl z) (fun _ => ?_)
          walk_at "r"
          refine rd_isi hB (by decide) ?_
          walk_at "r"
          refine rd_isi hA (by decide) ?_
          walk_at "r"
          refine rd_ndec (fun z => absurd rfl z) (fun _ => ?_)
          walk_at "r"
          have q := k H2 (s1.trans s2)
          rw [← decide_eq_true (rfl : V.int i = V.int i)] at q
          exact q
        | str x =>
          have e1 := hA.eq_str
          have e2 := hB.eq_str
          subst e1 e2
          refine rd_bool (fun z => by rw [isA_list, isA_tuple] at z; cases z) (fun _ => ?_)
          walk_at "r"
          refine rd_newT (by show 2 ≤ sizeLine; decide) fun pt2 H2 m2 s2 h2 => ?_
          replace hA := hA.same s2
          replace hB := hB.same s2
          walk_at "r"
          refine rd_isiLT hA h2 ?_
          walk_at "r"
          refine rd_bool (fun z => by rw [isA_list, isA_tuple] at z; cases z) (fun _ => ?_)
          walk_at "r"
          refine rd_isi hB (by decide) ?_
          walk_at "r"
          refine rd_isi hA (by decide) ?_
          walk_at "r"
          refine rd_ndec (fun z => absurd rfl z) (fun _ => ?_)
          walk_at "r"
          refine rd_isi hB (by decide) ?_
          walk_at "r"
          refine rd_isi hA (by decide) ?_
          walk_at "r"
          refine rd_ndec (fun z => absurd rfl z) (fun _ => ?_)
          walk_at "r"
          have q := k H2 (s1.trans s2)
          rw [← decide_eq_true (rfl : V.str x = V.str x)] at q
          exact q
        | list ds =>
          refine rd_bool (fun _ => ?_) (fun z => by rw [isA_list, isA_tuple] at z; cases z)
          walk_at "r"
          refine rd_isi hB (by decide) ?_
          walk_at "r"
          refine rd_isi hA (by decide) ?_
          walk_at "r"
          refine rd_ndec (fun z => absurd rfl z) (fun _ => ?_)
          walk_at "r"
          refine rd_isi hB (by decide) ?_
          walk_at "r"
          refine rd_isi hA (by decide) ?_
          walk_at "r"
          refine rd_ndec (fun z => absurd rfl z) (fun _ => ?_)
          walk_at "r"
          obtain ⟨m, a, xs, rfl, rfl, a1, ab, ap⟩ := hA.of_list
          obtain ⟨m', b, ys, e, rfl, b1, bb, bp⟩ := hB.of_list
          cases e
          have la := Dn.len ap
          have lb := Dn.len bp
          refine rd_lenL (sqL_of a1) ?_
          walk_at "r"
          refine rd_lenL (sqL_of b1) ?_
          walk_at "r"
          refine rd_dec (fun _ => ?_) (fun z => absurd (by rw [la, lb]) z)
          walk_at "r"
          refine rd_wkZL (sqL_of a1) (sqL_of b1) ?_
          have hz := hA.llen a1
          refine lc_pure (walk_zip (xs := xs) (ys := ys) rfl) (fun H' s => ⟨sqL_of (s _ _ a1), sqL_of (s _ _ b1)⟩) (fun _ => some (.bl true)) ?_ (fun i x H2 H3 Q' N' hi s2 y q1 q2 => ?_) (fun D H' nD s2 hD1 => ?_)
          · omega
          · obtain ⟨tt, x, y, rfl, ht, rfl, hx, hy⟩ := y
            obtain ⟨di, hdi, pi⟩ := pat ap hx
            obtain ⟨dj, hdj, pj⟩ := pat bp hy
            rw [hdi] at hdj
            cases hdj
            have st := Same.new (o := .tup [x, y]) ht
            walk_at "r"
            refine rd_gTup (sqT_of upd_same) rfl ?_
            walk_at "r"
            exact hR m rfl _ _ _ _ ⟨x, y, di, rfl, (pi.same s2).same st, (pj.same s2).same st, fun H4 s4 => q1 _ _ rfl (st.trans s4)⟩
          · walk_at "r"
            refine all_lst hD1 (all_yes _) ?_
            rw [all_yes2]
            exact k H' (s1.trans s2)
        | tuple ds =>
          refine rd_bool (fun _ => ?_) (fun z => by rw [isA_list, isA_tuple] at z; cases z)
          walk_at "r"
          refine rd_isi hB (by decide) ?_
          walk_at "r"
          refine rd_isi hA (by decide) ?_
          walk_at "r"
          refine rd_ndec (fun z => absurd rfl z) (fun _ => ?_)
          walk_at "r"
          refine rd_isi hB (by decide) ?_
          walk_at "r"
          refine rd_isi hA (by decide) ?_
          walk_at "r"
          refine rd_ndec (fun z => absurd rfl z) (fun _ => ?_)
          walk_at "r"
          obtain ⟨m, a, xs, rfl, rfl, a1, ap⟩ := hA.of_tuple
          obtain ⟨m', b, ys, e, rfl, b1, bp⟩ := hB.of_tuple
          cases e
          have la := Dn.len ap
          have lb := Dn.len bp
          refine rd_lenT (sqT_of a1) ?_
          walk_at "r"
          refine rd_lenT (sqT_of b1) ?_
          walk_at "r"
          refine rd_dec (fun _ => ?_) (fun z => absurd (by rw [la, lb]) z)
          walk_at "r"
          refine rd_wkZT (sqT_of a1) (sqT_of b1) ?_
          have hz := hA.tlen a1
          refine lc_pure (walk_zipT (xs := xs) (ys := ys) rfl) (fun H' s => ⟨sqT_of (s _ _ a1), sqT_of (s _ _ b1)⟩) (fun _ => some (.bl true)) ?_ (fun i x H2 H3 Q' N' hi s2 y q1 q2 => ?_) (fun D H' nD s2 hD1 => ?_)
          · omega
          · obtain ⟨tt, x, y, rfl, ht, rfl, hx, hy⟩ := y
            obtain ⟨di, hdi, pi⟩ := pat ap hx
            obtain ⟨dj, hdj, pj⟩ := pat bp hy
            rw [hdi] at hdj
            cases hdj
            have st := Same.new (o := .tup [x, y]) ht
            walk_at "r"
            refine rd_gTup (sqT_of upd_same) rfl ?_
            walk_at "r"
            exact hR m rfl _ _ _ _ ⟨x, y, di, rfl, (pi.same s2).same st, (pj.same s2).same st, fun H4 s4 => q1 _ _ rfl (st.trans s4)⟩
          · walk_at "r"
            refine all_lst hD1 (all_yes _) ?_
            rw [all_yes2]
            exact k H' (s1.trans s2)
theorem ok_law_same (T : Txt K mg) : ∀ n : Nat, n ≤ 60 → Ok P w K mg base (n + 1) "_law_same" ["_law_found", "_law_due"] (spSame n)
  | 0, h => ok_law_same1 T 0 h (Ok.never T.F_law_same T.g_law_same (fun _ _ _ _ _ _ us hl => match us, hl with | [_, _], _ => rfl)) (fun j e => by cases e)
  | n + 1, h => ok_law_same1 T (n + 1) h (ok_law_same T n (by omega)) (fun j e vs H Q E h => by cases e; exact h)
theorem ok_law_any_slope (T : Txt K mg) (h_law_pull : Ok P w K mg base 1 "_law_pull" ["_law_bag_here", "_law_sides"] spPull) : Ok P w K mg base 2 "_law_any_slope" ["_law_bag_here"] spAnySlope := by
  refine Ok.mk T.F_law_any_slope T.g_law_any_slope sc_law_any_slope (fun _ _ _ _ _ _ us hl => match us, hl with | [_], _ => rfl) (fun vs H Q E h => ?_) (fun cdv A outer s H vs Q E hr h => ?_)
  · obtain ⟨a, c, ns, rfl, _⟩ := h
    rfl
  · obtain ⟨a, c, ns, rfl, hB, k⟩ := h
    refine ⟨_, (pss_one (ps_ret (pe_tup (pa_cons (pe_op op_sub (pe_ok h_law_pull (hr.mono (by omega)) (by rfl) (pa_cons (pv 0) (pa_cons pe_int pa_nil))) pe_int) (pa_cons (pe_op op_sub (pe_ok h_law_pull (hr.mono (by omega)) (by rfl) (pa_cons (pv 0) (pa_cons pe_int pa_nil))) pe_int) (pa_cons (pe_op op_add pe_int (pe_ok h_law_pull (hr.mono (by omega)) (by rfl) (pa_cons (pv 0) (pa_cons pe_int pa_nil)))) pa_nil)))))), ?_⟩
    walk_at "r"
    refine ⟨a, c, ns, _, rfl, hB, by decide, by decide, fun i H1 i0 i1 x1 B1 => ?_⟩
    walk_at "r"
    refine ⟨a, c, ns, _, rfl, B1, by decide, by decide, fun j H2 j0 j1 x2 B2 => ?_⟩
    walk_at "r"
    refine ⟨a, c, ns, _, rfl, B2, by decide, by decide, fun m H3 m0 m1 x3 B3 => ?_⟩
    walk_at "r"
    refine rd_newT (by show 3 ≤ sizeLine; decide) fun p H4 _ s4 h4 => ?_
    exact k _ (i - 9) (j - 3) (1 + m) H4 ⟨by omega, by omega, by omega, by omega, by omega, by omega⟩ (((x1.trans x2).trans x3).trans (.of s4)) (B3.same s4) (Dt.tup h4 (.cons (Dt.int _) (.cons (Dt.int _) (.cons (Dt.int _) .nil))) (by show 3 ≤ 100000; decide))
theorem ok_law_any_term1 (T : Txt K mg) (n : Nat) {spR : Sp} (h_law_pull : Ok P w K mg base 1 "_law_pull" ["_law_bag_here", "_law_sides"] spPull) (h_law_of : Ok P w K mg base 2 "_law_of" ["_law_bag_here", "_law_some"] (spOf K)) (h_law_any_slope : Ok P w K mg base 2 "_law_any_slope" ["_law_bag_here"] spAnySlope)
    (h_law_any_term : Ok P w K mg base (2 + n) "_law_any_term" ["_law_bag_here", "_law_names", "_law_deep"] spR) (hR : ∀ j, n = j + 1 → ∀ vs H Q E, spAnyTerm j vs H Q E → spR vs H Q E) :
    Ok P w K mg base (3 + n) "_law_any_term" ["_law_bag_here", "_law_names", "_law_deep"] (spAnyTerm n) := by
  refine Ok.mono (Ok.mk (k := 2 + n) T.F_law_any_term T.g_law_any_term sc_law_any_term (fun _ _ _ _ _ _ us hl => match us, hl with | [_, _, _], _ => rfl) (fun vs H Q E h => ?_) (fun cdv A outer s H vs Q E hr h => ?_)) (by omega)
  · obtain ⟨a, c, l, ns, nms, rfl, _⟩ := h
    rfl
  · obtain ⟨a, c, l, ns, nms, rfl, hB, hl, hg, k⟩ := h
    refine ⟨_, (pss_cons (ps_set (i := 3) sc_law_any_term.nd rfl (.inl rfl) (pe_lst pa_nil))
      (pss_cons (ps_for PassesOwn.never rfl (pi_range1 (by rfl) T.b_range (pa_cons (pe_ok h_law_of (hr.mono (by omega)) (by rfl) (pa_cons (pv 0) (pa_cons (pe_lst (pa_cons pe_int (pa_cons pe_int (pa_cons pe_int (pa_cons pe_int (pa_cons pe_int (pa_cons pe_int (pa_cons pe_int pa_nil)))))))) pa_nil))) pa_nil)) (pg_name (i := 4) sc_law_any_term.nd rfl (.inl rfl)) (pss_cons (ps_set (i := 5) sc_law_any_term.nd rfl (.inl rfl) (pe_op op_mul (pe_op op_add pe_int (pe_ok h_law_pull (hr.mono (by omega)) (by rfl) (pa_cons (pv 0) (pa_cons pe_int pa_nil)))) (pe_ok h_law_of (hr.mono (by omega)) (by rfl) (pa_cons (pv 0) (pa_cons (pe_lst (pa_cons pe_int (pa_cons (pe_un un_neg pe_int) (pa_cons pe_int pa_nil)))) pa_nil)))))
      (pss_one (ps_if (PW.pt (pw_and (pt_cmpR op_gt (pv 2) pe_int (nomark _)) (pw_and1 (pt_cmpR op_eq (pe_ok h_law_pull (hr.mono (by omega)) (by rfl) (pa_cons (pv 0) (pa_cons pe_int pa_nil))) pe_int (nomark _))))) (pss_one (ps_expr (pe_bm PySem.F.plainAttrs_list PySem.F.slot_list_append PySem.F.type_list_append mt_append (pv 3) (pa_cons (pe_tup (pa_cons (pv 5) (pa_cons (pe_tup (pa_cons pe_str (pa_cons (pe_ok h_law_any_slope (hr.mono (by omega)) (by rfl) (pa_cons (pv 0) pa_nil)) (pa_cons (pe_ok h_law_any_term (hr.mono (by omega)) (by rfl) (pa_cons (pv 0) (pa_cons (pv 1) (pa_cons (pe_op op_sub (pv 2) pe_int) pa_nil)))) pa_nil)))) pa_nil))) pa_nil)))) (pss_one (ps_if (pt_cmpR (op_neD hr.units) (pv 1) (pe_lst pa_nil) (nomark _)) (pss_one (ps_expr (pe_bm PySem.F.plainAttrs_list PySem.F.slot_list_append PySem.F.type_list_append mt_append (pv 3) (pa_cons (pe_tup (pa_cons (pv 5) (pa_cons (pe_ok h_law_of (hr.mono (by omega)) (by rfl) (pa_cons (pv 0) (pa_cons (pv 1) pa_nil))) pa_nil))) pa_nil)))) pss_nil))))))
      (pss_one (ps_ret (pe_tup (pa_cons (pe_tupleOf (by rfl) T.b_tuple (pe_slice sl_list (pv 3) po_none (po_some pe_int))) (pa_cons (pe_ok h_law_of (hr.mono (by omega)) (by rfl) (pa_cons (pv 0) (pa_cons (pe_lst (pa_cons pe_int (pa_cons pe_int (pa_cons (pe_op op_sub (pe_ok h_law_pull (hr.mono (by omega)) (by rfl) (pa_cons (pv 0) (pa_cons pe_int pa_nil))) pe_int) (pa_cons pe_int (pa_cons (pe_un un_neg pe_int) pa_nil)))))) pa_nil))) pa_nil))))))), ?_⟩
    walk_at "r"
    refine rd_newL (by show 0 ≤ sizeLine; decide) fun q H0 nq s0 h0 => ?_
    have B0 := hB.same s0
    obtain ⟨aq, cq⟩ := hB.free nq
    have hl0 := s0 _ _ hl
    walk_at "r"
    refine rd_newL (by show 7 ≤ sizeLine; decide) fun t0 H1 nt0 s1 h1 => ?_
    walk_at "r"
    refine ⟨a, c, t0, ns, _, rfl, B0.same s1, sqL_of h1, rfl, by decide, by decide, fun v H2 hv x2 B2 => ?_⟩
    obtain ⟨j, rfl, hj0, hj4⟩ : ∃ j : Int, v = .int j ∧ 0 ≤ j ∧ j ≤ 4 := by
      simp only [List.mem_cons, List.not_mem_nil, or_false] at hv
      rcases hv with rfl | rfl | rfl | rfl | rfl | rfl | rfl <;> exact ⟨_, rfl, by decide, by decide⟩
    walk_at "r"
    refine rd_wkR ⟨by omega, by omega⟩ ?_
    refine fo_it (walk_range (lo := 0) (n := j.toNat)) (TermInv a c l q ns nms n H)
      ⟨none, none, [], [], rfl, ((Ext.of s0).trans (.of s1)).trans x2, B2, x2 _ _ (s1 _ _ h0) rfl, .nil, Nat.le_refl _, fun d h => by cases h⟩ (fun _ _ _ _ _ => trivial) ?_ ?_
    · rintro i y σ1 H4 H3 hi ⟨o5, o6, ps, ds, rfl, x3, B3, h3, pd, ld, gd⟩ ⟨rfl, rfl⟩
      have hl3 := x3 _ _ hl (bag_strs _)
      walk_at "r"
      refine ⟨a, c, ns, _, rfl, B3, by decide, by decide, fun f H5 f0 f1 x5 B5 => ?_⟩
      walk_at "r"
      refine rd_newL (by show 3 ≤ sizeLine; decide) fun t1 H6 nt1 s6 h6 => ?_
      walk_at "r"
      refine ⟨a, c, t1, ns, _, rfl, B5.same s6, sqL_of h6, rfl, by decide, by decide, fun v H7 hv x7 B7 => ?_⟩
      obtain ⟨g, rfl, hg1⟩ : ∃ g : Int, v = .int g ∧ (g = 1 ∨ g = -1) := by
        simp only [List.mem_cons, List.not_mem_nil, or_false] at hv
        rcases hv with rfl | rfl | rfl
        · exact ⟨_, rfl, .inl rfl⟩
        · exact ⟨_, rfl, .inr rfl⟩
        · exact ⟨_, rfl, .inl rfl⟩
      refine rd_I (.inl ⟨by omega, by omega⟩) ?_
      have hF : -9 ≤ (1 + f) * g ∧ (1 + f) * g ≤ 9 ∧ (1 + f) * g ≠ 0 := by
        rcases hg1 with rfl | rfl
        · omega
        · omega
      generalize (1 + f) * g = F at hF
      have x8 : Ext H3 H7 := (x5.trans (.of s6)).trans x7
      have h7 := x8 _ _ h3 (bag_refs _)
      have pd7 := pimp pd fun _ _ z => z.keep (Tps.of x8)
      have hl7 := x8 _ _ hl3 (bag_strs _)
      replace x8 := x3.trans x8
      walk_at "r"
      refine rd_dec (fun hd => ?_) (fun hd => ?_)
      · walk_at "r"
        refine ⟨a, c, ns, _, rfl, B7, by decide, by decide, fun zz H8 _ _ x9 B8 => ?_⟩
        walk_at "r"
        replace h7 := x9 _ _ h7 (bag_refs _)
        replace pd7 := pimp pd7 fun _ _ z => z.keep (Tps.of x9)
        replace hl7 := x9 _ _ hl7 (bag_strs _)
        replace x8 := x8.trans x9
        replace B7 := B8
        clear B8 x9 x7 x5 s6 h6 h3 hl3
        refine rd_dec (fun hz => ?_) (fun hz => ?_)
        · walk_at "r"
          refine rd_bml (sqL_of h7) ?_
          walk_at "r"
          refine ⟨a, c, ns, rfl, B7, fun sv i1 j1 k1 H9 hs x9 B9 ds9 => ?_⟩
          walk_at "r"
          cases n with
          | zero => exact absurd hd (by decide)
          | succ m =>
            refine hR m rfl _ _ _ _ ⟨a, c, l, ns, nms, ?_, B9, x9 _ _ hl7 (bag_strs _), hg, fun tv td G1 y1 B10 dt gt => ?_⟩
            · show [V.ref a, V.ref l, V.int (((m + 1 : Nat) : Int) - 1)] = _
              rw [show (((m + 1 : Nat) : Int) - 1) = (m : Int) by omega]
            · walk_at "r"
              refine rd_newT (by show 3 ≤ sizeLine; decide) fun p1 G2 _ u2 g2 => ?_
              walk_at "r"
              refine rd_newT (by show 2 ≤ sizeLine; decide) fun p2 G3 _ u3 g3 => ?_
              walk_at "r"
              have y3 := ((x9.trans y1).trans (Ext.of u2)).trans (Ext.of u3)
              have t3 : Tps H9 G3 := Tps.of ((y1.trans (Ext.of u2)).trans (Ext.of u3))
              have t4 : Tps G1 G3 := Tps.of ((Ext.of u2).trans (Ext.of u3))
              refine TermInv.put nq aq cq ld (by omega) gd (x8.trans y3) ((B10.same u2).same u3) (y3 _ _ h7 (bag_refs _)) (pimp pd7 fun _ _ z => z.keep (Tps.of y3))
                (d := .tuple [.int F, .tuple [.str "floor", .tuple [.int i1, .int j1, .int k1], td]]) ?_ ⟨F, _, rfl, hF.1, hF.2.1, hF.2.2, .inr ⟨i1, j1, k1, td, rfl, hs, gt⟩⟩ (fun _ _ z => z)
              have d1 : Dt (1 + (3 + 4 * m)) G3 (.ref p1) (.tuple [.str "floor", .tuple [.int i1, .int j1, .int k1], td]) := by
                rw [Nat.add_comm]
                exact Dt.tup (u3 _ _ g2) (.cons (Dt.str (by decide +kernel) (by decide)) (.cons ((ds9.keep t3).up (by omega)) (.cons (dt.keep t4) .nil))) (by show 3 ≤ 100000; decide)
              have d2 : Dt (1 + (3 + 4 * m) + 1) G3 (.ref p2) (.tuple [.int F, .tuple [.str "floor", .tuple [.int i1, .int j1, .int k1], td]]) := Dt.tup g3 (.cons (Dt.int F) (.cons d1 .nil)) (by show 2 ≤ 100000; decide)
              exact d2.up (by omega)
        · walk_at "r"
          refine rd_newL (by show 0 ≤ sizeLine; decide) fun t2 G1 nt2 u1 g1 => ?_
          walk_at "r"
          refine rd_neD (n := 1) (m := 1) (by decide) (by decide) (dn_strs (u1 _ _ hl7) hg) (Dn.lst g1 rfl .nil (by decide)) ?_
          walk_at "r"
          rw [eqv_nil]
          refine rd_nbool (fun en => ?_) (fun en => ?_)
          · walk_at "r"
            refine rd_bml (sqL_of (u1 _ _ h7)) ?_
            walk_at "r"
            have hne : nms.map V.str ≠ [] := fun z => by
              rw [List.map_eq_nil_iff] at z
              subst z
              cases en
            have hsz : (nms.map V.str).length < 1073741824 := by rw [List.length_map]; have := hg.1; omega
            refine ⟨a, c, l, ns, _, rfl, B7.same u1, sqL_of (u1 _ _ hl7), bag_strs _, hne, hsz, fun v G2 hv y2 B8 => ?_⟩
            obtain ⟨z, hz, rfl⟩ : ∃ z, z ∈ nms ∧ v = .str z := by
              obtain ⟨z, hz, e⟩ := List.mem_map.mp hv
              exact ⟨z, hz, e.symm⟩
            walk_at "r"
            refine rd_newT (by show 2 ≤ sizeLine; decide) fun pt G3 npt u3 g3 => ?_
            walk_at "r"
            have y3 := ((Ext.of u1).trans y2).trans (Ext.of u3)
            exact TermInv.put nq aq cq ld (by omega) gd (x8.trans y3) (B8.same u3) (y3 _ _ h7 (bag_refs _)) (pimp pd7 fun _ _ z => z.keep (Tps.of y3))
              ((Dt.tup (n := 0) g3 (.cons (Dt.int F) (.cons (Dt.str (hg.2 z hz).1 (hg.2 z hz).2) .nil)) (by show 2 ≤ 100000; decide)).up (by omega)) ⟨F, .str z, rfl, hF.1, hF.2.1, hF.2.2, .inl ⟨z, rfl, hz⟩⟩ (fun _ _ z => z)
          · walk_at "r"
            have y3 := Ext.of u1
            exact ⟨_, _, ps, ds, rfl, x8.trans y3, B7.same u1, y3 _ _ h7 (bag_refs _), pimp pd7 fun _ _ z => z.keep (Tps.of y3), by omega, gd⟩
      · walk_at "r"
        refine rd_newL (by show 0 ≤ sizeLine; decide) fun t2 G1 nt2 u1 g1 => ?_
        walk_at "r"
        refine rd_neD (n := 1) (m := 1) (by decide) (by decide) (dn_strs (u1 _ _ hl7) hg) (Dn.lst g1 rfl .nil (by decide)) ?_
        walk_at "r"
        rw [eqv_nil]
        refine rd_nbool (fun en => ?_) (fun en => ?_)
        · walk_at "r"
          refine rd_bml (sqL_of (u1 _ _ h7)) ?_
          walk_at "r"
          have hne : nms.map V.str ≠ [] := fun z => by
            rw [List.map_eq_nil_iff] at z
            subst z
            cases en
          have hsz : (nms.map V.str).length < 1073741824 := by rw [List.length_map]; have := hg.1; omega
          refine ⟨a, c, l, ns, _, rfl, B7.same u1, sqL_of (u1 _ _ hl7), bag_strs _, hne, hsz, fun v G2 hv y2 B8 => ?_⟩
          obtain ⟨z, hz, rfl⟩ : ∃ z, z ∈ nms ∧ v = .str z := by
            obtain ⟨z, hz, e⟩ := List.mem_map.mp hv
            exact ⟨z, hz, e.symm⟩
          walk_at "r"
          refine rd_newT (by show 2 ≤ sizeLine; decide) fun pt G3 npt u3 g3 => ?_
          walk_at "r"
          have y3 := ((Ext.of u1).trans y2).trans (Ext.of u3)
          exact TermInv.put nq aq cq ld (by omega) gd (x8.trans y3) (B8.same u3) (y3 _ _ h7 (bag_refs _)) (pimp pd7 fun _ _ z => z.keep (Tps.of y3))
            ((Dt.tup (n := 0) g3 (.cons (Dt.int F) (.cons (Dt.str (hg.2 z hz).1 (hg.2 z hz).2) .nil)) (by show 2 ≤ 100000; decide)).up (by omega)) ⟨F, .str z, rfl, hF.1, hF.2.1, hF.2.2, .inl ⟨z, rfl, hz⟩⟩ (fun _ _ z => z)
        · walk_at "r"
          have y3 := Ext.of u1
          exact ⟨_, _, ps, ds, rfl, x8.trans y3, B7.same u1, y3 _ _ h7 (bag_refs _), pimp pd7 fun _ _ z => z.keep (Tps.of y3), by omega, gd⟩
    · rintro σ1 H3 ⟨o5, o6, ps, ds, rfl, x3, B3, h3, pd, ld, gd⟩
      have lp : (ps.map V.ref).length = ds.length := pd.length
      walk_at "r"
      refine rd_slL (sqL_of h3) fun t1 H4 _ s4 h4 => ?_
      rw [cut4 _ (by omega)] at h4
      refine rd_kTupL (sqL_of h4) fun t2 H5 _ s5 h5 => ?_
      walk_at "r"
      refine ⟨a, c, ns, _, rfl, (B3.same s4).same s5, by decide, by decide, fun u H6 u0 u1 x6 B6 => ?_⟩
      walk_at "r"
      refine rd_newL (by show 5 ≤ sizeLine; decide) fun t3 H7 _ s7 h7 => ?_
      walk_at "r"
      refine ⟨a, c, t3, ns, _, rfl, B6.same s7, sqL_of h7, rfl, List.cons_ne_nil _ _, by show 5 < 1073741824; decide, fun v H8 hv x8 B8 => ?_⟩
      obtain ⟨z, rfl, z0, z1⟩ : ∃ z : Int, v = .int z ∧ -1000 ≤ z ∧ z ≤ 1000 := by
        simp only [List.mem_cons, List.not_mem_nil, or_false] at hv
        rcases hv with rfl | rfl | rfl | rfl | rfl
        · exact ⟨_, rfl, by decide, by decide⟩
        · exact ⟨_, rfl, by decide, by decide⟩
        · exact ⟨_, rfl, by omega, by omega⟩
        · exact ⟨_, rfl, by decide, by decide⟩
        · exact ⟨_, rfl, by decide, by decide⟩
      walk_at "r"
      refine rd_newT (by show 2 ≤ sizeLine; decide) fun t4 H9 _ s9 h9 => ?_
      have y : Ext H5 H9 := ((x6.trans (.of s7)).trans x8).trans (.of s9)
      refine k _ (.tuple [.tuple ds, .int z]) H9 (((x3.trans (.of s4)).trans (.of s5)).trans y) (B8.same s9) ?_ ?_
      · have d1 : Dt (1 + 4 * n + 1) H9 (.ref t2) (.tuple ds) := Dt.tup (y _ _ h5 rfl) (pimp pd fun _ _ q => q.keep (Tps.of (((Ext.of s4).trans (.of s5)).trans y))) (by omega)
        have d2 : Dt (1 + 4 * n + 1 + 1) H9 (.ref t4) (.tuple [.tuple ds, .int z]) := Dt.tup h9 (.cons d1 (.cons (Dt.int z) .nil)) (by show 2 ≤ 100000; decide)
        exact d2.up (by omega)
      · rw [GTerm_eq]
        exact ⟨ds, z, rfl, by omega, z0, z1, gd⟩
theorem ok_law_any_term (T : Txt K mg) (h_law_pull : Ok P w K mg base 1 "_law_pull" ["_law_bag_here", "_law_sides"] spPull) (h_law_of : Ok P w K mg base 2 "_law_of" ["_law_bag_here", "_law_some"] (spOf K)) (h_law_any_slope : Ok P w K mg base 2 "_law_any_slope" ["_law_bag_here"] spAnySlope) :
    ∀ n : Nat, Ok P w K mg base (3 + n) "_law_any_term" ["_law_bag_here", "_law_names", "_law_deep"] (spAnyTerm n)
  | 0 => ok_law_any_term1 T 0 h_law_pull h_law_of h_law_any_slope (Ok.never T.F_law_any_term T.g_law_any_term (fun _ _ _ _ _ _ us hl => match us, hl with | [_, _, _], _ => rfl)) (fun j e => by cases e)
  | n + 1 => ok_law_any_term1 T (n + 1) h_law_pull h_law_of h_law_any_slope ((ok_law_any_term T h_law_pull h_law_of h_law_any_slope n).mono (by omega)) (fun j e vs H Q E h => by cases e; exact h)
theorem ok_law_bent (T : Txt K mg) (h_law_pull : Ok P w K mg base 1 "_law_pull" ["_law_bag_here", "_law_sides"] spPull) (h_law_of : Ok P w K mg base 2 "_law_of" ["_law_bag_here", "_law_some"] (spOf K)) : Ok P w K mg base 3 "_law_bent" ["_law_bag_here", "_law_value_z"] spBent := by
  refine Ok.mk T.F_law_bent T.g_law_bent sc_law_bent (fun _ _ _ _ _ _ us hl => match us, hl with | [_, _], _ => rfl) (fun vs H Q E h => ?_) (fun cdv A outer s H vs Q E hr h => ?_)
  · obtain ⟨a, c, t, ns, x1, x2, rfl, _⟩ := h
    rfl
  · obtain ⟨a, c, t, ns, x1, x2, rfl, hB, ht, i1, i2, k⟩ := h
    refine ⟨_, (pss_cons (ps_par (by rfl) sc_law_bent.nd (i := 2) (j := 3) rfl rfl (by decide) rfl rfl (pa_cons (pe_ok h_law_pull (hr.mono (by omega)) (by rfl) (pa_cons (pv 0) (pa_cons pe_int pa_nil))) (pa_cons (pe_ok h_law_pull (hr.mono (by omega)) (by rfl) (pa_cons (pv 0) (pa_cons (pe_callB c_len (by rfl) T.b_len (by decide +kernel) (pa_cons (pv 1) pa_nil)) pa_nil))) pa_nil)) (by rfl))
      (pss_cons (ps_if (pt_cmpR op_eq (pv 2) pe_int (nomark _)) (pss_one (ps_ret (pe_callTy c_list (by rfl) T.b_list (by decide +kernel) (pa_cons (pv 1) pa_nil)))) pss_nil)
      (pss_cons (ps_if (pt_cmpR op_eq (pv 2) pe_int (nomark _)) (pss_one (ps_ret (pe_op op_catA (pe_slice sl_tupA (pv 1) po_none (po_some (pv 3))) (pe_slice sl_tupA (pv 1) (po_some (pe_op op_add (pv 3) pe_int)) po_none)))) pss_nil)
      (pss_cons (ps_if (pt_cmpR op_eq (pv 2) pe_int (nomark _)) (pss_one (ps_ret (pe_op op_catA (pv 1) (pe_tup (pa_cons (pe_ix ix_tup (pv 1) (pv 3) (fun _ _ => rfl)) pa_nil))))) pss_nil)
      (pss_cons (ps_if (pt_cmpR op_eq (pv 2) pe_int (nomark _)) (pss_one (ps_ret (pe_op op_catA (pe_op op_catA (pe_slice sl_tupA (pv 1) po_none (po_some (pv 3))) (pe_tup (pa_cons pe_non pa_nil))) (pe_slice sl_tupA (pv 1) (po_some (pe_op op_add (pv 3) pe_int)) po_none)))) pss_nil)
      (pss_one (ps_ret (pe_ok h_law_of (hr.mono (by omega)) (by rfl) (pa_cons (pv 0) (pa_cons (pe_lst (pa_cons pe_non (pa_cons pe_int (pa_cons pe_str (pa_cons (pe_tup pa_nil) (pa_cons (pe_tup (pa_cons pe_str (pa_cons pe_int (pa_cons pe_int pa_nil)))) (pa_cons (pe_tup (pa_cons pe_str (pa_cons pe_str (pa_cons (pv 1) pa_nil)))) (pa_cons (pe_tup (pa_cons pe_str (pa_cons (pe_tup (pa_cons (pe_tup pa_nil) (pa_cons pe_int pa_nil))) (pa_cons pe_int (pa_cons pe_int pa_nil))))) (pa_cons (pe_tup (pa_cons pe_str (pa_cons (pe_tup (pa_cons (pe_tup pa_nil) (pa_cons pe_int pa_nil))) (pa_cons pe_int (pa_cons pe_int pa_nil))))) (pa_cons (pe_tup (pa_cons pe_str (pa_cons pe_str (pa_cons (pe_tup pa_nil) pa_nil)))) (pa_cons (pe_tup (pa_cons pe_str (pa_cons pe_str (pa_cons (pe_lst (pa_cons pe_str pa_nil)) pa_nil)))) (pa_cons (pe_tup (pa_cons pe_str (pa_cons (pv 1) pa_nil))) (pa_cons (pe_tup (pa_cons pe_str pa_nil)) pa_nil))))))))))))) pa_nil)))))))))), ?_⟩
    walk_at "a"
    refine ⟨a, c, ns, _, rfl, hB, by decide, by decide, fun wy H1 w0 w1 e1 B1 => ?_⟩
    walk_at "a"
    refine rd_lenT (sqT_of (e1 _ _ ht rfl)) ?_
    walk_at "a"
    refine ⟨a, c, ns, _, rfl, B1, by show (0 : Int) < 2; decide, by show (2 : Int) < _; decide, fun at_ H2 a0 a1 e2 B2 => ?_⟩
    have a2 : at_ < 2 := a1
    replace ht : H2 t = some (.tup [x1, x2]) := by walk_at "hp"
    replace i1 : IsD 25 H2 x1 := by walk_at "isd"
    replace i2 : IsD 25 H2 x2 := by walk_at "isd"
    have e3 : Ext H H2 := e1.trans e2
    have al : AllD 25 H2 [x1, x2] := .cons i1 (.cons i2 .nil)
    obtain ⟨xa, hxa, ma⟩ := atI_in a0 (show at_ < [x1, x2].length from a1)
    have ixa := al xa ma
    clear hB B1 e1 e2
    walk_at "a"
    refine rd_dec (fun _ => ?_) (fun _ => ?_)
    · walk_at "a"
      refine rd_list (.inr (sqT_of ht)) fun l H3 _ s3 h3 => ?_
      exact k _ H3 (by walk_at "ext") (by walk_at "bag") (IsD.up (IsD.lst h3 (bag_len (by show 2 ≠ 4; decide)) (by simp) (al.same s3)) (by decide))
    walk_at "a"
    refine rd_dec (fun _ => ?_) (fun _ => ?_)
    · walk_at "a"
      refine rd_slA ht fun b3 H3 s3 h3 => ?_
      walk_at "a"
      refine rd_slA (s3 _ _ ht) fun b4 H4 s4 h4 => ?_
      have l1 := cut_len [x1, x2] none (some at_)
      have l2 := cut_len [x1, x2] (some (at_ + 1)) none
      have l3 : [x1, x2].length = 2 := rfl
      refine rd_catA (s4 _ _ h3) h4 (sz_small (by omega)) fun b5 H5 s5 h5 => ?_
      refine k _ H5 (by walk_at "ext") (by walk_at "bag") (IsD.up (IsD.tup h5 (by rw [List.length_append]; omega) ((((al.cut _ _).app (al.cut _ _)).same s3).same (s4.trans s5))) (by decide))
    walk_at "a"
    refine rd_dec (fun _ => ?_) (fun _ => ?_)
    · walk_at "a"
      refine rd_ixT (sqT_of ht) hxa ?_
      walk_at "a"
      rename_i p3 H3 _ s3 h3
      refine rd_catA (s3 _ _ ht) h3 (sz_small (by show 2 + 1 ≤ 100000; decide)) fun b5 H5 s5 h5 => ?_
      exact k _ H5 (by walk_at "ext") (by walk_at "bag") (IsD.up (IsD.tup h5 (by show 2 + 1 ≤ 100000; decide) ((al.app (.cons ixa .nil)).same (s3.trans s5))) (by decide))
    walk_at "a"
    refine rd_dec (fun _ => ?_) (fun _ => ?_)
    · walk_at "a"
      refine rd_slA ht fun b3 H3 s3 h3 => ?_
      walk_at "a"
      rename_i p4 H4 _ s4 h4
      have l1 := cut_len [x1, x2] none (some at_)
      have l2 := cut_len [x1, x2] (some (at_ + 1)) none
      have l3 : [x1, x2].length = 2 := rfl
      refine rd_catA (s4 _ _ h3) h4 (sz_small (by show _ + 1 ≤ 100000; omega)) fun b5 H5 s5 h5 => ?_
      walk_at "a"
      refine rd_slA (by walk_at "hp") fun b6 H6 s6 h6 => ?_
      refine rd_catA (s6 _ _ h5) h6 (sz_small (by rw [List.length_append]; show _ + 1 + _ ≤ 100000; omega)) fun b7 H7 s7 h7 => ?_
      exact k _ H7 (by walk_at "ext") (by walk_at "bag") (IsD.up (IsD.tup h7 (by rw [List.length_append, List.length_append]; show _ + 1 + _ ≤ 100000; omega) ((((al.cut _ _).app (.cons IsD.non .nil)).app (al.cut _ _)).same ((((s3.trans s4).trans s5).trans s6).trans s7))) (by decide))
    walk_at "a"
    refine ⟨a, c, _, ns, _, rfl, by walk_at "bag", sqL_of (by assumption), rfl, List.cons_ne_nil _ _, by show 12 < 1073741824; decide, fun v H9 hv e9 B9 => ?_⟩
    refine k v H9 (by walk_at "ext") B9 (IsD.ext e9 ?_)
    refine (show AllD 30 _ _ from ?_) v hv
    walk_at "alld"
def LawInv (sc b c : Addr) (ns : List Int) (H0 : Hp) (_ : Nat) (σ : L2.St) (H : Hp) : Prop := ∃ o2 o3 o4 o5 o6 o7 o8 o9 o10 o11 o12 : Option V, σ = [some (.ref sc), some (.ref b), o2, o3, o4, o5, o6, o7, o8, o9, o10, o11, o12] ∧ Bag b c ns H
def LawInv2 (sc b f : Addr) (i : Nat) (σ : L2.St) (H : Hp) : Prop := ∃ (o2 o3 o4 o5 o6 o7 o8 o9 o12 : Option V) (v : V), σ = [some (.ref sc), some (.ref b), o2, o3, o4, o5, o6, o7, o8, o9, some v, some (.ref f), o12] ∧ Dt (2 + 4 * i) H v (DD i) ∧ H f = some (.lst (((List.range i).map fun j => termD 3 (DD j)).map V.bl))
theorem ok_law (T : Txt K mg) (h_law_bag : Ok P w K mg base 1 "_law_bag" ["_law_script"] (spBag K)) (h_law_pull : Ok P w K mg base 1 "_law_pull" ["_law_bag_here", "_law_sides"] spPull) (h_law_of : Ok P w K mg base 2 "_law_of" ["_law_bag_here", "_law_some"] (spOf K))
    (h_law_any_term : Ok P w K mg base 7 "_law_any_term" ["_law_bag_here", "_law_names", "_law_deep"] fun vs H Q E => ∃ n, n ≤ 4 ∧ spAnyTerm n vs H Q E) (h_law_bent : Ok P w K mg base 3 "_law_bent" ["_law_bag_here", "_law_value_z"] spBent)
    (h_law_is_term : Ok P w K mg base 6 "_law_is_term" ["_law_value_z", "_law_deep"] (spTestN 3 (termD 3))) (h_is_term : Ok P w K mg base 11 "is_term" ["value"] (spTest (termD 3))) (hk_is_term : OkK P w K mg base 11 "is_term" ["value"] 0 ["value"] (fun _ zs => zs) (spTest (termD 3)))
    (h_law_same : Ok P w K mg base 4 "_law_same" ["_law_found", "_law_due"] (spSame 3)) : Ok P w K mg base 12 "law" ["_law_script"] (spLaw K) := by
  refine Ok.mk T.F_law T.g_law sc_law (fun _ _ _ _ _ _ us hl => match us, hl with | [_], _ => rfl) (fun vs H Q E h => ?_) (fun cdv A outer s H vs Q E hr h => ?_)
  · obtain ⟨a, ns, rfl, _⟩ := h
    rfl
  · obtain ⟨a, ns, rfl, hS, k⟩ := h
    refine ⟨_, (pss_cons (ps_set (i := 1) sc_law.nd rfl (.inl rfl) (pe_ok h_law_bag (hr.mono (by omega)) (by rfl) (pa_cons (pv 0) pa_nil)))
      (pss_cons (ps_for PassesOwn.never rfl (pi_range1 (by rfl) T.b_range (pa_cons pe_int pa_nil)) (pg_name (i := 2) sc_law.nd rfl (.inl rfl)) (pss_cons (ps_set (i := 3) sc_law.nd rfl (.inl rfl) (pe_ok h_law_any_term (hr.mono (by omega)) (by rfl) (pa_cons (pv 1) (pa_cons (pe_lst (pa_cons pe_str (pa_cons pe_str pa_nil))) (pa_cons (pe_ok h_law_pull (hr.mono (by omega)) (by rfl) (pa_cons (pv 1) (pa_cons pe_int pa_nil))) pa_nil)))))
      (pss_cons (ps_set (i := 4) sc_law.nd rfl (.inl rfl) (pe_ok h_law_pull (hr.mono (by omega)) (by rfl) (pa_cons (pv 1) (pa_cons (pe_op op_add (pe_callB c_len (by rfl) T.b_len (by decide +kernel) (pa_cons (pe_ix ix_tup (pv 3) pe_int (fun _ _ => rfl)) pa_nil)) pe_int) pa_nil))))
      (pss_cons (ps_set (i := 5) sc_law.nd rfl (.inl rfl) (pe_ok h_law_of (hr.mono (by omega)) (by rfl) (pa_cons (pv 1) (pa_cons (pe_lst (pa_cons pe_int (pa_cons pe_int (pa_cons (pe_un un_neg pe_int) (pa_cons pe_int (pa_cons pe_bl (pa_cons pe_int (pa_cons pe_non pa_nil)))))))) pa_nil))))
      (pss_cons (ps_set (i := 6) sc_law.nd rfl (.inl rfl) (pe_ok h_law_of (hr.mono (by omega)) (by rfl) (pa_cons (pv 1) (pa_cons (pe_lst (pa_cons pe_str (pa_cons pe_str (pa_cons pe_str (pa_cons (pe_tup (pa_cons pe_str (pa_cons (pe_tup (pa_cons pe_int (pa_cons pe_int (pa_cons pe_int pa_nil)))) pa_nil))) (pa_cons (pe_tup (pa_cons pe_str (pa_cons (pe_tup (pa_cons pe_int (pa_cons pe_int (pa_cons pe_int pa_nil)))) (pa_cons (pv 3) pa_nil)))) (pa_cons (pe_lst (pa_cons pe_str pa_nil)) (pa_cons pe_str pa_nil)))))))) pa_nil))))
      (pss_cons (ps_set (i := 7) sc_law.nd rfl (.inl rfl) (pe_lst (pa_cons (pv 3) (pa_cons (pe_tup (pa_cons (pe_op op_catA (pe_op op_catA (pe_slice sl_tupA (pe_ix ix_tup (pv 3) pe_int (fun _ _ => rfl)) po_none (po_some (pv 4))) (pe_tup (pa_cons (pe_tup (pa_cons (pv 5) (pa_cons pe_str pa_nil))) pa_nil))) (pe_slice sl_tupA (pe_ix ix_tup (pv 3) pe_int (fun _ _ => rfl)) (po_some (pv 4)) po_none)) (pa_cons (pe_ix ix_tup (pv 3) pe_int (fun _ _ => rfl)) pa_nil))) (pa_cons (pe_tup (pa_cons (pe_ix ix_tup (pv 3) pe_int (fun _ _ => rfl)) (pa_cons (pe_ok h_law_of (hr.mono (by omega)) (by rfl) (pa_cons (pv 1) (pa_cons (pe_lst (pa_cons pe_int (pa_cons pe_bl (pa_cons pe_non (pa_cons pe_str pa_nil))))) pa_nil))) pa_nil))) (pa_cons (pe_tup (pa_cons (pe_callTy c_list (by rfl) T.b_list (by decide +kernel) (pa_cons (pe_ix ix_tup (pv 3) pe_int (fun _ _ => rfl)) pa_nil)) (pa_cons pe_int pa_nil))) (pa_cons (pe_tup (pa_cons (pe_op op_catA (pe_op op_catA (pe_slice sl_tupA (pe_ix ix_tup (pv 3) pe_int (fun _ _ => rfl)) po_none (po_some (pv 4))) (pe_tup (pa_cons (pe_tup (pa_cons pe_int (pa_cons (pv 6) pa_nil))) pa_nil))) (pe_slice sl_tupA (pe_ix ix_tup (pv 3) pe_int (fun _ _ => rfl)) (po_some (pe_op op_add (pv 4) pe_int)) po_none)) (pa_cons (pe_un un_neg pe_int) pa_nil))) (pa_cons (pe_ok h_law_bent (hr.mono (by omega)) (by rfl) (pa_cons (pv 1) (pa_cons (pv 3) pa_nil))) (pa_cons (pe_ix ix_tup (pv 3) pe_int (fun _ _ => rfl)) (pa_cons (pe_tup (pa_cons (pe_tup (pa_cons (pe_tup (pa_cons pe_int (pa_cons (pe_tup (pa_cons pe_str (pa_cons (pe_ok h_law_of (hr.mono (by omega)) (by rfl) (pa_cons (pv 1) (pa_cons (pe_lst (pa_cons (pe_tup (pa_cons pe_int (pa_cons pe_int (pa_cons pe_int pa_nil)))) (pa_cons (pe_tup (pa_cons pe_int (pa_cons pe_int (pa_cons pe_int pa_nil)))) (pa_cons (pe_tup (pa_cons pe_int (pa_cons pe_int pa_nil))) pa_nil)))) pa_nil))) (pa_cons (pv 3) pa_nil)))) pa_nil))) pa_nil)) (pa_cons pe_int pa_nil))) pa_nil))))))))))
      (pss_cons (ps_set (i := 8) sc_law.nd rfl (.inl rfl) (pe_ix ix_list (pv 7) (pe_ok h_law_pull (hr.mono (by omega)) (by rfl) (pa_cons (pv 1) (pa_cons pe_int pa_nil))) (fun _ _ => rfl)))
      (pss_cons (ps_set (i := 9) sc_law.nd rfl (.inl rfl) (pe_ok h_law_is_term (hr.mono (by omega)) (by rfl) (pa_cons (pv 8) (pa_cons pe_int pa_nil))))
      (pss_one (ps_if (pt_not (pt_val (pe_ok h_law_same (hr.mono (by omega)) (by rfl) (pa_cons (pe_lst (pa_cons (pe_ok h_is_term (hr.mono (by omega)) (by rfl) (pa_cons (pv 8) pa_nil)) (pa_cons (pe_okK0 hk_is_term (hr.mono (by omega)) (by rfl) (pk_cons (pv 3) pk_nil)) pa_nil))) (pa_cons (pe_lst (pa_cons (pv 9) (pa_cons (pe_ok h_law_is_term (hr.mono (by omega)) (by rfl) (pa_cons (pv 3) (pa_cons pe_int pa_nil))) pa_nil))) pa_nil))))) (pss_one (ps_ret pe_bl)) pss_nil))))))))))
      (pss_cons (ps_set (i := 10) sc_law.nd rfl (.inl rfl) (pe_tup (pa_cons (pe_tup pa_nil) (pa_cons pe_int pa_nil))))
      (pss_cons (ps_set (i := 11) sc_law.nd rfl (.inl rfl) (pe_lst pa_nil))
      (pss_cons (ps_for PassesOwn.never rfl (pi_range1 (by rfl) T.b_range (pa_cons pe_int pa_nil)) (pg_name (i := 12) sc_law.nd rfl (.inl rfl)) (pss_cons (ps_expr (pe_bm PySem.F.plainAttrs_list PySem.F.slot_list_append PySem.F.type_list_append mt_append (pv 11) (pa_cons (pe_ok h_is_term (hr.mono (by omega)) (by rfl) (pa_cons (pv 10) pa_nil)) pa_nil)))
      (pss_one (ps_set (i := 10) sc_law.nd rfl (.inl rfl) (pe_tup (pa_cons (pe_tup (pa_cons (pe_tup (pa_cons pe_int (pa_cons (pe_tup (pa_cons pe_str (pa_cons (pe_tup (pa_cons pe_int (pa_cons pe_int (pa_cons pe_int pa_nil)))) (pa_cons (pv 10) pa_nil)))) pa_nil))) pa_nil)) (pa_cons pe_int pa_nil)))))))
      (pss_one (ps_ret (pe_ok h_law_same (hr.mono (by omega)) (by rfl) (pa_cons (pv 11) (pa_cons (pe_lst (pa_cons pe_bl (pa_cons pe_bl (pa_cons pe_bl (pa_cons pe_bl (pa_cons pe_bl pa_nil)))))) pa_nil)))))))))), ?_⟩
    walk_at "a"
    refine ⟨a, ns, rfl, hS, fun b c ms H1 s1 B1 => ?_⟩
    walk_at "a"
    refine rd_wkR ⟨by decide, by decide⟩ ?_
    refine fo_it (walk_range (lo := 0) (n := 6)) (LawInv a b c ms H1) ⟨none, none, none, none, none, none, none, none, none, none, none, rfl, B1⟩ (fun _ _ _ _ _ => trivial) ?_ ?_
    · rintro i y σ1 H3 H2 hi ⟨o2, o3, o4, o5, o6, o7, o8, o9, o10, o11, o12, rfl, B2⟩ ⟨rfl, rfl⟩
      walk_at "a"
      rename_i nl G1 _ u1 g1
      refine ⟨b, c, ms, _, rfl, B2.same u1, by decide, by decide, fun dp G2 d0 d1 e2 B3 => ?_⟩
      walk_at "a"
      refine ⟨dp.toNat, by omega, b, c, nl, ms, ["x", "abc"], ?_, B3, e2 _ _ g1 rfl, ⟨by decide, by decide +kernel⟩, fun tv td G3 e3 B4 dt gt => ?_⟩
      · rw [show ((dp.toNat : Nat) : Int) = dp by omega]
        rfl
      obtain ⟨t, t1, xs, its, cc, rfl, ht, ht1, lx, al, nb, _⟩ := gt.parts dt
      replace al : AllD 20 G3 xs := al.up (by omega)
      clear dt gt e2 e3 u1 g1 d0 d1 B2 B3
      walk_at "a"
      refine rd_lenT (sqT_of ht1) ?_
      walk_at "a"
      refine ⟨b, c, ms, _, rfl, B4, by omega, by omega, fun sp G4 s0 s1 e4 B5 => ?_⟩
      walk_at "a"
      refine ⟨b, c, _, ms, _, rfl, by walk_at "bag", sqL_of (by assumption), rfl, List.cons_ne_nil _ _, by show 7 < 1073741824; decide, fun fv G5 hf e5 B6 => ?_⟩
      have if1 : IsD 1 G5 fv := by
        refine (show AllD 1 _ _ from ?_) fv hf
        walk_at "alld"
      replace e5 : Ext G3 G5 := by walk_at "ext"
      replace ht := e5 _ _ ht rfl
      replace ht1 := e5 _ _ ht1 rfl
      replace al := al.ext e5
      clear e4 e5 B5 B4 hf
      walk_at "a"
      have itt : IsD 22 G5 (.ref t) := IsD.tup ht (by simp) (.cons (IsD.tup ht1 (by omega) al) (.cons (IsD.int _) .nil))
      refine ⟨b, c, _, ms, _, rfl, by walk_at "bag", sqL_of (by assumption), rfl, List.cons_ne_nil _ _, by show 7 < 1073741824; decide, fun hv G6 hh e6 B7 => ?_⟩
      have ih : IsD 24 G6 hv := by
        refine IsD.ext e6 ?_
        refine (show AllD 24 _ _ from ?_) hv hh
        walk_at "alld"
      replace e6 : Ext G5 G6 := by walk_at "ext"
      replace ht := e6 _ _ ht rfl
      replace ht1 := e6 _ _ ht1 rfl
      replace al := al.ext e6
      replace itt := itt.ext e6
      replace if1 := if1.ext e6
      clear e6 B6 hh
      have it1 : IsD 21 G6 (.ref t1) := IsD.tup ht1 (by omega) al
      walk_at "a"
      -- the second: a factor put in
      refine rd_slA ht1 fun b1 J1 u1 q1 => ?_
      walk_at "a"
      refine' rd_catA ?h1 ?h2 ?hl ?_
      (case h1 => walk_at "hp"); (case h2 => walk_at "hp"); (case hl => exact sz_small (by have := cut_len xs none (some sp); simp; omega))
      intro b2 J2 u2 q2
      walk_at "a"
      refine rd_slA (by walk_at "hp") fun b3 J3 u3 q3 => ?_
      refine' rd_catA ?h1 ?h2 ?hl ?_
      (case h1 => walk_at "hp"); (case h2 => walk_at "hp"); (case hl => exact sz_small (by have := cut_len xs none (some sp); have := cut_len xs (some sp) none; simp; omega))
      intro b4 J4 u4 q4
      have j4 : IsD 21 J4 (.ref b4) := IsD.tup q4 (by have := cut_len xs none (some sp); have := cut_len xs (some sp) none; simp; omega) (((AllD.cut (by walk_at "alx") _ _).app (.cons (by walk_at "isd") .nil)).app (AllD.cut (by walk_at "alx") _ _))
      walk_at "a"
      rename_i p2 K1 _ w1 k1 lq K2 _ w2 k2
      have t2 : IsD 22 K1 (.ref p2) := IsD.tup k1 (by simp) (.cons (j4.same w1) (.cons (IsD.int _) .nil))
      -- the third: another constant
      refine ⟨b, c, _, ms, _, rfl, by walk_at "bag", sqL_of (by assumption), rfl, List.cons_ne_nil _ _, by show 4 < 1073741824; decide, fun v3 J5 m3 e5 B8 => ?_⟩
      have j5 : IsD 1 J5 v3 := by
        refine (show AllD 1 _ _ from ?_) v3 m3
        walk_at "alld"
      walk_at "a"
      rename_i p3 K3 _ w3 k3
      have t3 : IsD 22 K3 (.ref p3) := IsD.tup k3 (by simp) (.cons (it1.ext (by walk_at "ext")) (.cons (IsD.up (j5.same w3) (by decide)) .nil))
      -- the fourth: a list
      refine rd_list (.inr (sqT_of (xs := xs) (by walk_at "hp"))) fun b6 J6 n6 u6 q6 => ?_
      have j6 : IsD 21 J6 (.ref b6) := IsD.lst q6 nb (by omega) (by walk_at "alx")
      walk_at "a"
      rename_i p4 K4 _ w4 k4
      have t4 : IsD 22 K4 (.ref p4) := IsD.tup k4 (by simp) (.cons (j6.same w4) (.cons (IsD.int _) .nil))
      -- the fifth: another thing
      refine rd_slA (xs := xs) (by walk_at "hp") fun c1 L1 v1 r1 => ?_
      walk_at "a"
      refine' rd_catA ?h1 ?h2 ?hl ?_
      (case h1 => walk_at "hp"); (case h2 => walk_at "hp"); (case hl => exact sz_small (by have := cut_len xs none (some sp); simp; omega))
      intro c2 L2 v2 r2
      walk_at "a"
      refine rd_slA (xs := xs) (by walk_at "hp") fun c3 L3 v3' r3 => ?_
      refine' rd_catA ?h1 ?h2 ?hl ?_
      (case h1 => walk_at "hp"); (case h2 => walk_at "hp"); (case hl => exact sz_small (by have := cut_len xs none (some sp); have := cut_len xs (some (sp + 1)) none; simp; omega))
      intro c4 L4 v4 r4
      have j7 : IsD 26 L4 (.ref c4) := IsD.tup r4 (by have := cut_len xs none (some sp); have := cut_len xs (some (sp + 1)) none; simp; omega) (((AllD.cut (AllD.up (k := 20) (by walk_at "alx") (by decide)) _ _).app (.cons (by walk_at "isd") .nil)).app (AllD.cut (AllD.up (k := 20) (by walk_at "alx") (by decide)) _ _))
      walk_at "a"
      rename_i p5 K5 _ w5 k5
      have t5 : IsD 27 K5 (.ref p5) := IsD.tup k5 (by simp) (.cons (j7.same w5) (.cons (IsD.int _) .nil))
      -- the sixth: a bent term
      refine ⟨b, c, t, ms, .ref t1, .int cc, rfl, by walk_at "bag", by walk_at "hp", IsD.up (k := 21) (IsD.tup (xs := xs) (by walk_at "hp") (by omega) (by walk_at "alx")) (by decide), IsD.int _, fun v6 L5 f5 B9 j8 => ?_⟩
      walk_at "a"
      -- the eighth: a floor with another slope
      refine ⟨b, c, _, ms, _, rfl, by walk_at "bag", sqL_of (by assumption), rfl, List.cons_ne_nil _ _, by show 3 < 1073741824; decide, fun v8 L6 m8 f6 B10 => ?_⟩
      have j9 : IsD 2 L6 v8 := by
        refine IsD.ext f6 ?_
        refine (show AllD 2 _ _ from ?_) v8 m8
        walk_at "alld"
      walk_at "a"
      rename_i f1 N1 _ y1 z1 f2 N2 _ y2 z2 f3 N3 _ y3 z3 f4 N4 _ y4 z4 bl Hb _ ub hb
      have it6 : IsD 22 N1 (.ref t) := itt.ext (by walk_at "ext")
      have i1 : IsD 23 N1 (.ref f1) := IsD.tup z1 (by simp) (.cons (IsD.str (by decide +kernel) (by decide)) (.cons (IsD.up (j9.same y1) (by decide)) (.cons it6 .nil)))
      have i2 : IsD 24 N2 (.ref f2) := IsD.tup z2 (by simp) (.cons (IsD.int _) (.cons (i1.same y2) .nil))
      have i3 : IsD 25 N3 (.ref f3) := IsD.tup z3 (by simp) (.cons (i2.same y3) .nil)
      have i4 : IsD 26 N4 (.ref f4) := IsD.tup z4 (by simp) (.cons (i3.same y4) (.cons (IsD.int _) .nil))
      have itb : IsD 30 Hb (.ref t) := IsD.up ((it6.ext (by walk_at "ext")).same ub) (by decide)
      obtain ⟨items, hb, l8, al8⟩ : ∃ items, Hb bl = some (.lst items) ∧ items.length = 8 ∧ AllD 30 Hb items := ⟨_, hb, rfl, .cons itb (.cons (IsD.up (t2.ext (by walk_at "ext")) (by decide)) (.cons (IsD.up (t3.ext (by walk_at "ext")) (by decide)) (.cons (IsD.up (t4.ext (by walk_at "ext")) (by decide))
        (.cons (IsD.up (t5.ext (by walk_at "ext")) (by decide)) (.cons (IsD.up (j8.ext (by walk_at "ext")) (by decide)) (.cons (IsD.up (it1.ext (by walk_at "ext")) (by decide)) (.cons (IsD.up (i4.same ub) (by decide)) .nil)))))))⟩
      have Bb : Bag b c ms Hb := by walk_at "bag"
      refine ⟨b, c, ms, _, rfl, Bb, by decide, by decide, fun ix M1 x0 x1 g1 B11 => ?_⟩
      have nb8 : isBag (.lst items) = false := bag_len (by omega)
      obtain ⟨vz, hvz, mz⟩ := atI_in x0 (show ix < items.length by omega)
      refine rd_ixL (sqL_of (g1 _ _ hb nb8)) hvz ?_
      obtain ⟨dz, hz⟩ := (al8 vz mz).ext g1
      obtain ⟨dt2, ht2⟩ := itb.ext g1
      walk_at "a"
      refine ⟨30, vz, dz, by decide, rfl, hz, fun M2 w2 => ?_⟩
      walk_at "a"
      refine ⟨30, vz, dz, by decide, rfl, hz.same w2, fun M3 w3 => ?_⟩
      walk_at "a"
      refine ⟨rfl, rfl, 30, _, dt2, by decide, rfl, (ht2.same w2).same w3, fun M4 w4 => ?_⟩
      walk_at "a"
      rename_i l1 M5 _ w5 hl1
      refine ⟨30, _, dt2, by decide, rfl, (((ht2.same w2).same w3).same w4).same w5, fun M6 w6 => ?_⟩
      walk_at "a"
      rename_i l2 M7 _ w7 hl2
      refine ⟨_, _, .list [.bool (termD 3 dz), .bool (termD 3 dt2)], rfl, Dn.lst (w7 _ _ (w6 _ _ hl1)) rfl (.cons (Dn.bl _) (.cons (Dn.bl _) .nil)) (by simp), Dn.lst hl2 rfl (.cons (Dn.bl _) (.cons (Dn.bl _) .nil)) (by simp), fun M8 w8 => ?_⟩
      walk_at "a"
      exact ⟨_, _, _, _, _, _, _, _, _, _, _, rfl, ((((((B11.same w2).same w3).same w4).same w5).same w6).same w7).same w8⟩
    · rintro σ1 H2 ⟨o2, o3, o4, o5, o6, o7, o8, o9, o10, o11, o12, rfl, B2⟩
      walk_at "a"
      rename_i p1 G1 _ u1 g1 p2 G2 _ u2 g2 f G3 _ u3 g3
      refine rd_wkR ⟨by decide, by decide⟩ ?_
      refine fo_it (walk_range (lo := 0) (n := 5)) (LawInv2 a b f) ⟨_, _, _, _, _, _, _, _, _, _, rfl, Dt.tup (u3 _ _ g2) (.cons (Dt.tup (n := 0) (u3 _ _ (u2 _ _ g1)) .nil) (.cons (Dt.int _) .nil)) (by decide), g3⟩ (fun _ _ _ _ _ => trivial) ?_ ?_
      · rintro i y σ1 H4 H3 hi ⟨o2, o3, o4, o5, o6, o7, o8, o9, o12, v, rfl, dv, hf⟩ ⟨rfl, rfl⟩
        walk_at "a"
        refine rd_bml (sqL_of hf) ?_
        walk_at "a"
        refine ⟨_, v, _, by omega, rfl, dv.dn, fun H5 s5 => ?_⟩
        walk_at "a"
        refine rd_app (s5 _ _ hf) (by rw [List.length_map, List.length_map, List.length_range]; exact sz_smaller (by omega)) fun H6 c6 h6 => ?_
        have d6 := dv.keep ((Tps.of (Ext.of s5)).trans (Tps.chg c6 (s5 _ _ hf)))
        walk_at "a"
        rename_i q1 M1 _ y1 z1 q2 M2 _ y2 z2 q3 M3 _ y3 z3 q4 M4 _ y4 z4 q5 M5 _ y5 z5
        have k1 : Dt (2 + 4 * i) M2 (.ref q1) (.tuple [.int 1, .int 0, .int 1]) := Dt.up (n := 1) (Dt.tup (y2 _ _ z1) (.cons (Dt.int _) (.cons (Dt.int _) (.cons (Dt.int _) .nil))) (by simp)) (by omega)
        have k2 : Dt (2 + 4 * i + 1) M2 (.ref q2) (.tuple [.str "floor", .tuple [.int 1, .int 0, .int 1], DD i]) := Dt.tup z2 (.cons (Dt.str (by decide +kernel) (by decide)) (.cons k1 (.cons (d6.keep (Tps.of (Ext.of (y1.trans y2)))) .nil))) (by simp)
        have k3 : Dt (2 + 4 * i + 2) M3 (.ref q3) (.tuple [.int 1, .tuple [.str "floor", .tuple [.int 1, .int 0, .int 1], DD i]]) := Dt.tup z3 (.cons (Dt.int _) (.cons (k2.keep (Tps.of (Ext.of y3))) .nil)) (by simp)
        have k4 : Dt (2 + 4 * i + 3) M4 (.ref q4) (.tuple [.tuple [.int 1, .tuple [.str "floor", .tuple [.int 1, .int 0, .int 1], DD i]]]) := Dt.tup z4 (.cons (k3.keep (Tps.of (Ext.of y4))) .nil) (by simp)
        have k5 : Dt (2 + 4 * i + 4) M5 (.ref q5) (DD (i + 1)) := Dt.tup z5 (.cons (k4.keep (Tps.of (Ext.of y5))) (.cons (Dt.int _) .nil)) (by simp)
        refine ⟨_, _, _, _, _, _, _, _, _, _, rfl, k5, ?_⟩
        rw [List.range_succ, List.map_append, List.map_append]
        exact y5 _ _ (y4 _ _ (y3 _ _ (y2 _ _ (y1 _ _ h6))))
      · rintro σ1 H4 ⟨o2, o3, o4, o5, o6, o7, o8, o9, o12, v, rfl, dv, hf⟩
        walk_at "a"
        rename_i l2 M1 _ y1 z1
        have e : ((List.range 5).map fun j => termD 3 (DD j)) = [true, true, true, true, false] := by decide +kernel
        rw [e] at hf
        refine ⟨_, _, .list [.bool true, .bool true, .bool true, .bool true, .bool false], rfl, Dn.lst (y1 _ _ hf) rfl (.cons (Dn.bl _) (.cons (Dn.bl _) (.cons (Dn.bl _) (.cons (Dn.bl _) (.cons (Dn.bl _) .nil))))) (by decide), Dn.lst z1 rfl (.cons (Dn.bl _) (.cons (Dn.bl _) (.cons (Dn.bl _) (.cons (Dn.bl _) (.cons (Dn.bl _) .nil))))) (by decide), fun M2 y2 => k M2⟩
end
def d_is_integer : He.DefD := ⟨("is_integer", none), "is_integer", "is_integer", defArgs s_is_integer, defBody s_is_integer, defScope s_is_integer, [], []⟩
def d_is_slope : He.DefD := ⟨("is_slope", none), "is_slope", "is_slope", defArgs s_is_slope, defBody s_is_slope, defScope s_is_slope, [], []⟩
def d_is_variable : He.DefD := ⟨("is_variable", none), "is_variable", "is_variable", defArgs s_is_variable, defBody s_is_variable, defScope s_is_variable, [], []⟩
def d_is_within : He.DefD := ⟨("is_within", none), "is_within", "is_within", defArgs s_is_within, defBody s_is_within, defScope s_is_within, [], []⟩
def d_is_item : He.DefD := ⟨("is_item", none), "is_item", "is_item", defArgs s_is_item, defBody s_is_item, defScope s_is_item, [], []⟩
def d_is_term_within : He.DefD := ⟨("is_term_within", none), "is_term_within", "is_term_within", defArgs s_is_term_within, defBody s_is_term_within, defScope s_is_term_within, [], []⟩
def d_is_term : He.DefD := ⟨("is_term", none), "is_term", "is_term", defArgs s_is_term, defBody s_is_term, defScope s_is_term, [], []⟩
def d_law_bag : He.DefD := ⟨("_law_bag", none), "_law_bag", "_law_bag", defArgs s_law_bag, defBody s_law_bag, defScope s_law_bag, [], []⟩
def d_law_pull : He.DefD := ⟨("_law_pull", none), "_law_pull", "_law_pull", defArgs s_law_pull, defBody s_law_pull, defScope s_law_pull, [], []⟩
def d_law_of : He.DefD := ⟨("_law_of", none), "_law_of", "_law_of", defArgs s_law_of, defBody s_law_of, defScope s_law_of, [], []⟩
def d_law_same : He.DefD := ⟨("_law_same", none), "_law_same", "_law_same", defArgs s_law_same, defBody s_law_same, defScope s_law_same, [], []⟩
def d_law_any_slope : He.DefD := ⟨("_law_any_slope", none), "_law_any_slope", "_law_any_slope", defArgs s_law_any_slope, defBody s_law_any_slope, defScope s_law_any_slope, [], []⟩
def d_law_any_term : He.DefD := ⟨("_law_any_term", none), "_law_any_term", "_law_any_term", defArgs s_law_any_term, defBody s_law_any_term, defScope s_law_any_term, [], []⟩
def d_law_bent : He.DefD := ⟨("_law_bent", none), "_law_bent", "_law_bent", defArgs s_law_bent, defBody s_law_bent, defScope s_law_bent, [], []⟩
def d_law_is_word : He.DefD := ⟨("_law_is_word", none), "_law_is_word", "_law_is_word", defArgs s_law_is_word, defBody s_law_is_word, defScope s_law_is_word, [], []⟩
def d_law_is_whole : He.DefD := ⟨("_law_is_whole", none), "_law_is_whole", "_law_is_whole", defArgs s_law_is_whole, defBody s_law_is_whole, defScope s_law_is_whole, [], []⟩
def d_law_is_term : He.DefD := ⟨("_law_is_term", none), "_law_is_term", "_law_is_term", defArgs s_law_is_term, defBody s_law_is_term, defScope s_law_is_term, [], []⟩
def d_law_is_step : He.DefD := ⟨("_law_is_step", none), "_law_is_step", "_law_is_step", defArgs s_law_is_step, defBody s_law_is_step, defScope s_law_is_step, [], []⟩
def d_law : He.DefD := ⟨("law", none), "law", "law", defArgs s_law, defBody s_law, defScope s_law, [], []⟩
def fn : List He.DefD := [d_is_integer, d_is_slope, d_is_variable, d_is_within, d_is_item, d_is_term_within, d_is_term, d_law_bag, d_law_pull, d_law_of, d_law_same, d_law_any_slope, d_law_any_term, d_law_bent, d_law_is_word, d_law_is_whole, d_law_is_term, d_law_is_step, d_law]
def fa : List He.Fa := [.glo "is_integer", .glo "is_slope", .glo "is_variable", .glo "is_within", .glo "is_item", .glo "is_term_within", .glo "is_term", .glo "_law_bag", .glo "_law_pull", .glo "_law_of", .glo "_law_same", .glo "_law_any_slope", .glo "_law_any_term", .glo "_law_bent", .glo "_law_is_word", .glo "_law_is_whole", .glo "_law_is_term", .glo "_law_is_step", .glo "law", .free "abs", .free "all", .free "bool", .free "int", .free "isinstance", .free "len", .free "list", .free "range", .free "str", .free "tuple", .free "zip", .int "MOST_WHOLE" (9), .int "MOST_FACTOR_surds" (3), .int "MOST_BOTTOM" (4), .str "LETTERS" "abcdefghijklmnopqrstuvwxyz", .glo "WORDS", .int "MOST_ITEMS" (4), .int "MOST_FACTOR_sayings" (9), .int "MOST_CONSTANT" (1000), .int "MOST_DEPTH" (3)]
def tf : List He.Defn := []
def ex (K : PySem.W.Frag) : Bool := He.tupB K "WORDS" [.str "all", .str "and", .str "not", .str "or", .str "r"]
def names : List PySem.Str := (["MOST_WHOLE", "MOST_FACTOR_surds", "MOST_BOTTOM", "LETTERS", "WORDS", "MOST_ITEMS", "MOST_FACTOR_sayings", "MOST_CONSTANT", "MOST_DEPTH", "is_integer", "is_slope", "is_variable", "is_within", "is_item", "is_term_within", "is_term", "_law_bag", "_law_pull", "_law_of", "_law_same", "_law_any_slope", "_law_any_term", "_law_bent", "_law_is_word", "_law_is_whole", "_law_is_term", "_law_is_step"] : List PySem.Str)
abbrev R : PySem.W.OpenRow := PySem.W.OpenLaw.row PySem.Challenge.rw_rootfloor_k25_terms_and_slopes_recognize
abbrev hk : PySem.W.Hook := He.hookX 4 fa fn [] tf ex
def ob (s : PySem.W.SharedT) : He.AlX := He.obsX 4 fa fn [] tf ex (HandSHeadRun.getT s)
theorem ob_eq (s : PySem.W.SharedT) : ob s = hk.obs s.abs := He.obsX_eq (HandSHeadRun.getT_eq s)
theorem run (w : World) : HandSHeadRun.RunEq R (PySem.W.view R.prog [31]) hk ob 4000 names w := by
  intro os
  kernel_rfl
theorem txt_mk {w : World} {h : Heap} {K : PySem.W.Frag} {mg : Str → Option Value} (X : K.In h) (G : h.Ns mainGlobals mg) (c : He.SaysX fa fn [] tf ex w h K) : Txt K mg :=
  ⟨He.glo_ok X G (c.t.d.fact 0 (f := .glo "is_integer") rfl),
   He.glo_ok X G (c.t.d.fact 1 (f := .glo "is_slope") rfl),
   He.glo_ok X G (c.t.d.fact 2 (f := .glo "is_variable") rfl),
   He.glo_ok X G (c.t.d.fact 3 (f := .glo "is_within") rfl),
   He.glo_ok X G (c.t.d.fact 4 (f := .glo "is_item") rfl),
   He.glo_ok X G (c.t.d.fact 5 (f := .glo "is_term_within") rfl),
   He.glo_ok X G (c.t.d.fact 6 (f := .glo "is_term") rfl),
   He.glo_ok X G (c.t.d.fact 7 (f := .glo "_law_bag") rfl),
   He.glo_ok X G (c.t.d.fact 8 (f := .glo "_law_pull") rfl),
   He.glo_ok X G (c.t.d.fact 9 (f := .glo "_law_of") rfl),
   He.glo_ok X G (c.t.d.fact 10 (f := .glo "_law_same") rfl),
   He.glo_ok X G (c.t.d.fact 11 (f := .glo "_law_any_slope") rfl),
   He.glo_ok X G (c.t.d.fact 12 (f := .glo "_law_any_term") rfl),
   He.glo_ok X G (c.t.d.fact 13 (f := .glo "_law_bent") rfl),
   He.glo_ok X G (c.t.d.fact 14 (f := .glo "_law_is_word") rfl),
   He.glo_ok X G (c.t.d.fact 15 (f := .glo "_law_is_whole") rfl),
   He.glo_ok X G (c.t.d.fact 16 (f := .glo "_law_is_term") rfl),
   He.glo_ok X G (c.t.d.fact 17 (f := .glo "_law_is_step") rfl),
   He.glo_ok X G (c.t.d.fact 18 (f := .glo "law") rfl),
   He.free_ok X G (c.t.d.fact 19 (f := .free "abs") rfl),
   He.free_ok X G (c.t.d.fact 20 (f := .free "all") rfl),
   He.free_ok X G (c.t.d.fact 21 (f := .free "bool") rfl),
   He.free_ok X G (c.t.d.fact 22 (f := .free "int") rfl),
   He.free_ok X G (c.t.d.fact 23 (f := .free "isinstance") rfl),
   He.free_ok X G (c.t.d.fact 24 (f := .free "len") rfl),
   He.free_ok X G (c.t.d.fact 25 (f := .free "list") rfl),
   He.free_ok X G (c.t.d.fact 26 (f := .free "range") rfl),
   He.free_ok X G (c.t.d.fact 27 (f := .free "str") rfl),
   He.free_ok X G (c.t.d.fact 28 (f := .free "tuple") rfl),
   He.free_ok X G (c.t.d.fact 29 (f := .free "zip") rfl),
   He.int_ok X G (c.t.d.fact 30 (f := .int "MOST_WHOLE" 9) rfl),
   He.int_ok X G (c.t.d.fact 31 (f := .int "MOST_FACTOR_surds" 3) rfl),
   He.int_ok X G (c.t.d.fact 32 (f := .int "MOST_BOTTOM" 4) rfl),
   He.str_ok X G (c.t.d.fact 33 (f := .str "LETTERS" "abcdefghijklmnopqrstuvwxyz") rfl),
   He.glo_ok X G (c.t.d.fact 34 (f := .glo "WORDS") rfl),
   He.int_ok X G (c.t.d.fact 35 (f := .int "MOST_ITEMS" 4) rfl),
   He.int_ok X G (c.t.d.fact 36 (f := .int "MOST_FACTOR_sayings" 9) rfl),
   He.int_ok X G (c.t.d.fact 37 (f := .int "MOST_CONSTANT" 1000) rfl),
   He.int_ok X G (c.t.d.fact 38 (f := .int "MOST_DEPTH" 3) rfl),
   c.t.d.def_ 0 (d := d_is_integer) rfl,
   c.t.d.def_ 1 (d := d_is_slope) rfl,
   c.t.d.def_ 2 (d := d_is_variable) rfl,
   c.t.d.def_ 3 (d := d_is_within) rfl,
   c.t.d.def_ 4 (d := d_is_item) rfl,
   c.t.d.def_ 5 (d := d_is_term_within) rfl,
   c.t.d.def_ 6 (d := d_is_term) rfl,
   c.t.d.def_ 7 (d := d_law_bag) rfl,
   c.t.d.def_ 8 (d := d_law_pull) rfl,
   c.t.d.def_ 9 (d := d_law_of) rfl,
   c.t.d.def_ 10 (d := d_law_same) rfl,
   c.t.d.def_ 11 (d := d_law_any_slope) rfl,
   c.t.d.def_ 12 (d := d_law_any_term) rfl,
   c.t.d.def_ 13 (d := d_law_bent) rfl,
   c.t.d.def_ 14 (d := d_law_is_word) rfl,
   c.t.d.def_ 15 (d := d_law_is_whole) rfl,
   c.t.d.def_ 16 (d := d_law_is_term) rfl,
   c.t.d.def_ 17 (d := d_law_is_step) rfl,
   c.t.d.def_ 18 (d := d_law) rfl,
   fun H => He.tupB_ok (c.more) H⟩
theorem ok_all {P : Program} {w : World} {K : PySem.W.Frag} {mg : Str → Option Value} {base : Heap} (T : Txt K mg) : Ok P w K mg base 12 "law" ["_law_script"] (spLaw K) := by
  have h1 : Ok P w K mg base 1 "_law_pull" _ spPull := ok_law_pull T
  have h2 : Ok P w K mg base 2 "_law_of" _ (spOf K) := ok_law_of T h1
  have h3 : Ok P w K mg base 2 "_law_any_slope" _ spAnySlope := ok_law_any_slope T h1
  have g1 : Ok P w K mg base 1 "is_integer" _ spInteger := ok_is_integer T
  have g2 : Ok P w K mg base 2 "is_within" _ spWithin := ok_is_within T g1
  have g3 : Ok P w K mg base 11 "is_term" ["value"] (spTest (termD 3)) := ok_is_term T (ok_terms T g1 g2 (ok_is_variable T) (ok_is_slope T g1) 3)
  have g4 : OkK P w K mg base 11 "is_term" ["value"] 0 ["value"] (fun _ zs => zs) (spTest (termD 3)) := OkK.mk g3 T.F_is_term T.g_is_term (fun _ zs => zs) (fun _ r => r) (fun _ _ _ _ _ _ us ws h1 h2 => match us, h1, ws, h2 with | [], _, [_], _ => rfl)
  have l1 : Ok P w K mg base 1 "_law_is_whole" _ spWithin := ok_law_is_whole T
  exact ok_law T (ok_law_bag T) h1 h2 (Ok.union fun n hn => (ok_law_any_term T h1 h2 h3 n).mono (by omega)) (ok_law_bent T h1 h2) (ok_law_is_term T l1 (ok_law_is_step T l1) (ok_law_is_word T) 3) g3 g4 (ok_law_same T 3 (by decide))

theorem facts {P : Program} {w : World} {K : PySem.W.Frag} {h : Heap} {mg : Str → Option Value} {f : Addr} (X : K.In h) (G : h.Ns mainGlobals mg) (hfa : mg ("law" : Str) = some (.ref f)) (c : He.SaysX fa fn [] tf ex w h K) :
    ∃ fd : FuncData, (∀ (s : Shared) (v : Value), BindsTo s fd ⟨[v], []⟩ [("_law_script", v)]) ∧ ∀ base : Heap, K.In base → base.Ns mainGlobals mg → FnOk P w K mg base CX0 12 f fd ["_law_script"] (spLaw K) := by
  have T := txt_mk X G c
  obtain ⟨fd, F⟩ := T.F_law
  have e := hfa.symm.trans T.g_law
  cases e
  have b := FunD.bindsA (ps := ["_law_script"]) F fun _ _ _ _ _ _ us hl => match us, hl with | [_], _ => rfl
  exact ⟨fd, fun s v => b s [v] rfl, fun base _ _ => (ok_all T).at F T.g_law⟩
end RF
open PySem PySem.W PySem.Calls PyProof.Rows
theorem PySem.Challenge.cw_rootfloor_k25_terms_and_slopes_recognize_holds : PySem.Challenge.rw_rootfloor_k25_terms_and_slopes_recognize.Holds := by
  w_on; o_law
  refine HandSHeadRun.head_any (r := OpenLaw.row PySem.Challenge.rw_rootfloor_k25_terms_and_slopes_recognize) (q := view (OpenLaw.row PySem.Challenge.rw_rootfloor_k25_terms_and_slopes_recognize).prog [31]) (H := RF.hk) (ob := RF.ob) (M := 4000) (loose := RF.names) (d := HandSHeadRun.topDef (OpenLaw.row PySem.Challenge.rw_rootfloor_k25_terms_and_slopes_recognize).prog 31) (kwd := []) RF.ob_eq
    (by kernel_rfl) (fun s => by kernel_rfl) RF.run (by kernel_rfl) (by kernel_rfl) (by kernel_rfl) (by rfl) (by first | assumption | decide +kernel) (by decide +kernel) ⟨rfl, rfl, rfl, rfl, rfl, by decide +kernel⟩ ?hw ?hc
  case hw => w_witness2
  case hc =>
    refine L2.walk_ofE (l := PySem.Challenge.rw_rootfloor_k25_terms_and_slopes_recognize) (n := 63) (k := 12) (x := "_law_script") (CX := L2.CX0) rfl (by decide) (by kernel_rfl) ⟨rfl, by decide, by decide⟩ ?F (fun _ _ _ _ z => z)
    intro w mg fa h Y G hmg0
    obtain ⟨K, KX, c⟩ := Y
    have hmg : mg ("law" : PySem.Str) = some (.ref fa) := by
      have e : (HandSHeadRun.topDef (OpenLaw.row PySem.Challenge.rw_rootfloor_k25_terms_and_slopes_recognize).prog 31).name = ("law" : PySem.Str) := by kernel_rfl
      rw [← e]
      exact hmg0
    obtain ⟨fd, hb, hF⟩ := RF.facts (P := (PySem.Challenge.rw_rootfloor_k25_terms_and_slopes_recognize).prog) (w := w) KX G hmg c
    exact ⟨K, fd, RF.spLaw K, KX, hb, fun H a ns hl _ hS => ⟨a, ns, rfl, hS, fun _ => rfl⟩, hF⟩
