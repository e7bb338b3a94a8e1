import PyProof.Rows.All
import Wide.All
import OpenK.AllK
import Wide.FinOn
import HandS.ForMost
import HandS.Wide
import HandS.Conv
import HandS.IsInst
import HandS.Flow
import HandS.Exc
import HandS.ExcInit
import HandS.Strs
import HandS.TupSets
import HandS.SortOrd
import HandS.SortInts
import HandS.Deep
import HandS.TupAny
import HandS.Style
import KE.KIsAll
import HandS.ExcIs
import HandS.ExcField
import HandS.ClsMeth
import PyProof.ReprRoads
import PyProof.ReprLen
import KE.DataEq
import PySem.Challenge.RW_searchrules_k42_errors_made
set_option Elab.async false
set_option linter.all false
set_option maxRecDepth 100000
set_option maxHeartbeats 4000000
/-! Sx1: steps through readings of the hand layer; heaps by names in place of chains of stores. -/
namespace Sx
open PySem L2

/-! ### heaps -/
/-- H' is H with a new object o at p -/
structure New (H H' : Hp) (p : Addr) (o : HO) : Prop where
  free : H p = none
  eq : H' = upd H p o
/-- H' is H with o stored at p -/
structure Put (H H' : Hp) (p : Addr) (o : HO) : Prop where
  eq : H' = upd H p o
section
variable {H H' H2 : Hp} {p b : Addr} {o u : HO}
theorem New.here (n : New H H' p o) : H' p = some o := by rw [n.eq]; exact upd_same
theorem New.ne (n : New H H' p o) (e : H b = some u) : b ≠ p := ne_of_none e n.free
theorem New.get (n : New H H' p o) (e : H b = some u) : H' b = some u := by rw [n.eq, upd_ne (n.ne e)]; exact e
theorem New.same (n : New H H' p o) : Same H H' := fun _ _ e => n.get e
theorem Put.here (n : Put H H' p o) : H' p = some o := by rw [n.eq]; exact upd_same
theorem Put.get (n : Put H H' p o) (h : b ≠ p) (e : H b = some u) : H' b = some u := by rw [n.eq, upd_ne h]; exact e
theorem Put.back (n : Put H H' p o) (h : b ≠ p) (e : H' b = some u) : H b = some u := by rw [n.eq, upd_ne h] at e; exact e
theorem Put.none (n : Put H H' p o) (e : H' b = Option.none) : H b = Option.none ∧ b ≠ p := by
  rw [n.eq] at e
  by_cases h : b = p
  · subst h; rw [upd_same] at e; cases e
  · rw [upd_ne h] at e; exact ⟨e, h⟩
theorem New.none (n : New H H' p o) (e : H' b = Option.none) : H b = Option.none ∧ b ≠ p := Put.none ⟨n.eq⟩ e
theorem Same.get (n : Same H H') (e : H b = some u) : H' b = some u := n _ _ e
/-- all but what stands at the addresses of S is as it was -/
def But (S : List Addr) (H H' : Hp) : Prop := ∀ b o, b ∉ S → H b = some o → H' b = some o
theorem But.get {S : List Addr} (n : But S H H') (h : b ∉ S) (e : H b = some u) : H' b = some u := n _ _ h e
theorem But.of (n : Same H H') {S : List Addr} : But S H H' := fun _ _ _ e => n _ _ e
theorem But.trans {S : List Addr} (a : But S H H') (b : But S H' H2) : But S H H2 := fun c o h e => b c o h (a c o h e)
theorem But.put {S : List Addr} (n : Put H H' p o) (h : p ∈ S) : But S H H' := fun c u hc e => n.get (fun z => hc (z ▸ h)) e
theorem But.new {S : List Addr} (n : New H H' p o) : But S H H' := fun c u _ e => n.get e
theorem But.none {S : List Addr} (n : But S H H') (h : b ∉ S) (e : H' b = Option.none) : H b = Option.none := by
  cases q : H b with
  | none => rfl
  | some o => rw [n b o h q] at e; cases e
theorem Same.put {H0 : Hp} (s : Same H0 H) (n : Put H H' p o) (h : H0 p = Option.none) : Same H0 H' := fun c u e => n.get (ne_of_none e h) (s c u e)
end
/-- a new object: its heap under a name -/
theorem s_new {H : Hp} {o : HO} {R : Addr → Hp → Prop} (h : ∀ p H', New H H' p o → R p H') : ∀ p, H p = none → R p (upd H p o) := fun p hp => h p _ ⟨hp, rfl⟩

/-- what is read of a list that the law was handed -/
def Scr (K : PySem.W.Frag) (H : Hp) (a : Addr) (xs : List V) : Prop := ∀ H', (∀ o, H a = some o → H' a = some o) → SqL K H' a xs
theorem Scr.of {K : PySem.W.Frag} {H : Hp} {a : Addr} {xs : List V} (h : SqL K H a xs) : Scr K H a xs := fun H' k => by
  rcases h with (h | ⟨o, h⟩) | h
  · exact .inl (.inl (k _ h))
  · exact .inl (.inr ⟨o, k _ h⟩)
  · exact .inr h

theorem Scr.sq {K : PySem.W.Frag} {H H' : Hp} {a : Addr} {xs : List V} (h : Scr K H a xs) (k : ∀ o, H a = some o → H' a = some o) : SqL K H' a xs := h H' k

/-! ### operators by the kinds of what comes -/
section
variable {X : Cx}
abbrev Or2 (r r' : R2) : R2 := fun x y H Q => r x y H Q ∨ r' x y H Q
/-- + : ints, texts, lists, tuples -/
def rPlus (K : PySem.W.Frag) : R2 := Or2 (rI0 fun i j => .int (i + j)) (Or2 (fun x y H Q => ∃ i j, x = .str i ∧ y = .str j ∧ i.length + j.length ≤ sizeLine ∧ Q (.str (i ++ j)) H) (Or2 rCat (rCatT K)))
theorem op_plus : OpR X (binaryOp .Add) (rPlus X.K) := op_add.or (op_add_str.or (op_cat.or op_catT))
def rTimes : R2 := Or2 (rI CMul fun i j => .int (i * j)) (Or2 (rI CMulW fun i j => .int (i * j)) rRep)
theorem op_times : OpR X (binaryOp .Mult) rTimes := op_mul.or (op_mulW.or op_rep)
def rDiv : R2 := Or2 (rI CDiv fun i j => .int (i / j)) (rI CDivW fun i j => .int (i / j))
theorem op_div : OpR X (binaryOp .FloorDiv) rDiv := op_fdiv.or op_fdivW
/-- == : scalars, data -/
def rSame (K : PySem.W.Frag) : R2 := Or2 rEq (rEqD K)
theorem op_same (hu : X.A.units + 64 < cLine) : OpR X (compareOp .Eq) (rSame X.K) := op_eq.or (op_eqD hu)
def rDiffer (K : PySem.W.Frag) : R2 := Or2 rNe (rNeD K)
theorem op_differ (hu : X.A.units + 64 < cLine) : OpR X (compareOp .NotEq) (rDiffer X.K) := op_ne.or (op_neD hu)
theorem op_lt2 : OpR X (compareOp .Lt) (rI0 fun i j => .bl (decide (i < j))) := op_lt
/-- int of an int, a bool, a text -/
def rInt : List V → Hp → VK → Prop := fun xs H Q => (∃ i, xs = [.int i] ∧ Q (.int i) H) ∨ ∃ k, xs = [.bl k] ∧ Q (.int (if k then 1 else 0)) H
theorem call_int : CallR X (.type "int") rInt := call_int1
def rAbs : List V → Hp → VK → Prop := fun xs H Q => ∃ i, xs = [.int i] ∧ Q (.int (if i < 0 then -i else i)) H
theorem call_absI : CallR X (.builtin "abs") rAbs := call_abs
def rLenQ (K : PySem.W.Frag) : List V → Hp → VK → Prop := fun xs H Q => ∃ p ys, xs = [.ref p] ∧ (SqL K H p ys ∨ SqT K H p ys) ∧ Q (.int ys.length) H
theorem call_lenQ : CallR X (.builtin "len") (rLenQ X.K) := call_len_seq
def rListQ (K : PySem.W.Frag) : List V → Hp → VK → Prop := fun xs H Q => ∃ p ys, xs = [.ref p] ∧ (SqL K H p ys ∨ SqT K H p ys) ∧ ∀ l, H l = none → Q (.ref l) (upd H l (.lst ys))
theorem call_listQ : CallR X (.type "list") (rListQ X.K) := call_list_of
end

/-! ### a def of the text, called by its name -/
structure Ok (P : Program) (w : World) (K : PySem.W.Frag) (mg : Str → Option Value) (base : Heap) (CX : CXT) (k : Nat) (x : Str) (ps : List Str) (sp : Sp) : Prop where
  ex : ∃ (f : Addr) (fd : FuncData), FnOk P w K mg base CX k f fd ps sp ∧ Binds K fd ps [] ∧ mg x = some (.ref f) ∧ PySem.W.keepIn K (.ref f) = true
section
variable {X : Cx} {CX : CXT} {k : Nat} {ps : List Str} {sp : Sp} {E : XK} {x : Str} {p pos : Pos} {e : Expr} {es : List Expr} {t : TA}
theorem pe_own (h : Ok X.prog X.w X.K X.mg X.base CX k x ps sp) (hr : Room k X.A) (hg : Gl X x) (hx : Passes CX X E) (ha : PA X (e :: es) t)
    (hdb : (x == ("__debug__" : Str)) = false := by decide) (he : starEach (e :: es) X.env = (false, eval e X.env) :: starEach es X.env := by rfl) (hpl : (backTo pos (starEach es X.env)).any (·.1) = false := by rfl) :
    PE X (.Call (.Name x p) (e :: es) [] pos) (tCall sp [] E t) := by
  obtain ⟨f, fd, F, b, m, kp⟩ := h.ex
  exact pe_call F hr hg m kp b .nil hx ha hdb he hpl
theorem pe_own0 (h : Ok X.prog X.w X.K X.mg X.base CX k x ps sp) (hr : Room k X.A) (hg : Gl X x) (hx : Passes CX X E) (hdb : (x == ("__debug__" : Str)) = false := by decide) :
    PE X (.Call (.Name x p) [] [] pos) (tCall sp [] E tNil) := by
  obtain ⟨f, fd, F, b, m, kp⟩ := h.ex
  exact pe_call0 F hr hg m kp b .nil hx hdb
end

/-- a block cut behind its first statement: what holds there, then the rest from that alone -/
def tMid (t u : TS) : TS := fun D σ H => ∃ M : St → Hp → Prop, t { D with nx := M } σ H ∧ ∀ σ' H', M σ' H' → u D σ' H'
theorem pss_mid {X : Cx} {st : Stmt} {rest : List Stmt} {t u : TS} (h1 : PS X st t) (h2 : PSs X rest u) : PSs X (st :: rest) (tMid t u) := by
  refine ⟨fun pins s σ H D I h => ?_⟩
  obtain ⟨M, a, b⟩ := h
  refine wpAny_execs_cons (thn (h1.run pins s σ H { D with nx := M } I a) fun f s1 q => ?_)
  cases f with
  | next =>
    obtain ⟨σ', H', I', q⟩ := q
    exact h2.run pins s1 σ' H' D I' (b σ' H' q)
  | ret v => exact q
  | brk => exact q
  | cont => exact q

/-! ### steps -/
section
variable {K : PySem.W.Frag} {σ : St} {H H1 : Hp} {Q : VK} {D : Ends} {v : V}
theorem s_seq {t u : TS} (h : t { D with nx := u D } σ H) : tSeq t u D σ H := h
theorem s_mid {t u : TS} (M : St → Hp → Prop) (a : t { D with nx := M } σ H) (b : ∀ σ' H', M σ' H' → u D σ' H') : tMid t u D σ H := ⟨M, a, b⟩
theorem s_asg {te : TE} {g : TG} (h : te σ H fun x H1 => g x σ H1 D.nx) : tAsg te g D σ H := h
theorem s_gname {i : Nat} {R : St → Hp → Prop} (h : R (σ.set i (some v)) H) : gName i v σ H R := h
theorem s_ret {te : TE} (h : te σ H D.rt) : tRet te D σ H := h
theorem s_drop {te : TE} (h : te σ H fun _ H1 => D.nx σ H1) : tDrop te D σ H := h
theorem s_next (h : D.nx σ H) : tNext D σ H := h
theorem s_if {c : TT} {t u : TS} (h : c σ H fun b H1 => if b = true then t D σ H1 else u D σ H1) : tIfS c t u D σ H := h
theorem s_var {i : Nat} (e : σ[i]? = some (some v)) (h : Q v H) : tVar i σ H Q := ⟨v, e, h⟩
theorem s_c (h : Q v H) : tC v σ H Q := h
theorem s_op {r : R2} {ta tb : TE} (h : ta σ H fun x H1 => tb σ H1 fun y H2 => r x y H2 Q) : tOp r ta tb σ H Q := h
theorem s_un {r : V → Hp → VK → Prop} {ta : TE} (h : ta σ H fun x H1 => r x H1 Q) : tUn r ta σ H Q := h
theorem s_neg {i : Int} (h : Q (.int (-i)) H) : rU (fun i => .int (-i)) (.int i) H Q := ⟨i, rfl, h⟩
theorem s_cb {r : List V → Hp → VK → Prop} {t : TA} (h : t σ H fun vs H1 => r vs H1 Q) : tCB r t σ H Q := h
theorem s_nil {R : List V → Hp → Prop} (h : R [] H) : tNil σ H R := h
theorem s_cons {te : TE} {t : TA} {R : List V → Hp → Prop} (h : te σ H fun x H1 => t σ H1 fun xs H2 => R (x :: xs) H2) : tCons te t σ H R := h
theorem s_tb {t : TE} {R : Bool → Hp → Prop} (h : t σ H fun x H1 => ∃ c, x = .bl c ∧ R c H1) : tB t σ H R := h
theorem s_test {t : TE} {R : Bool → Hp → Prop} (h : t σ H fun x H1 => ∃ c, x = .bl c ∧ R c H1) : tTest t σ H R := h
theorem s_bl {c : Bool} {R : Bool → Prop} (h : R c) : ∃ d, V.bl c = .bl d ∧ R d := ⟨c, rfl, h⟩
theorem s_and {t u : TT} {R : Bool → Hp → Prop} (h : t σ H fun c H1 => if c = true then u σ H1 R else R false H1) : tAnd t u σ H R := h
theorem s_or {t u : TT} {R : Bool → Hp → Prop} (h : t σ H fun c H1 => if c = true then R true H1 else u σ H1 R) : tOr t u σ H R := h
theorem s_not {t : TT} {R : Bool → Hp → Prop} (h : t σ H fun c H1 => R (!c) H1) : tNot t σ H R := h
theorem s_andV {ta tb : TE} (h : ta σ H fun x H1 => ∃ c, x = .bl c ∧ if c = true then tb σ H1 Q else Q (.bl false) H1) : tAndV ta tb σ H Q := h
theorem s_orV {ta tb : TE} (h : ta σ H fun x H1 => ∃ c, x = .bl c ∧ if c = true then Q (.bl true) H1 else tb σ H1 Q) : tOrV ta tb σ H Q := h
theorem s_notV {ta : TE} (h : ta σ H fun x H1 => ∃ c, x = .bl c ∧ Q (.bl (!c)) H1) : tNotV ta σ H Q := h
theorem s_ifE {t : TT} {ta tb : TE} (h : t σ H fun c H1 => if c = true then ta σ H1 Q else tb σ H1 Q) : tIf t ta tb σ H Q := h
theorem s_call {sp : Sp} {E : XK} {t : TA} (h : t σ H fun vs H1 => sp (vs ++ []) H1 Q E) : tCall sp [] E t σ H Q := h
def kTupN (xs : List V) (H : Hp) (Q : VK) : Prop := xs.length ≤ sizeLine ∧ ∀ p, H p = none → Q (.ref p) (upd H p (.tup xs))
def kLstN (xs : List V) (H : Hp) (Q : VK) : Prop := xs.length ≤ sizeLine ∧ ∀ p, H p = none → Q (.ref p) (upd H p (.lst xs))
def kRgN (a b : Int) (H : Hp) (Q : VK) : Prop := RgOk a b ∧ ∀ p, H p = none → Q (.ref p) (upd H p (.lst (rgV a b)))
theorem s_tup {t : TA} (h : t σ H fun xs H1 => kTupN xs H1 Q) : tTup t σ H Q := h
theorem s_lst {t : TA} (h : t σ H fun xs H1 => kLstN xs H1 Q) : tLst t σ H Q := h
theorem s_madeT {xs : List V} (z : xs.length ≤ sizeLine) (h : ∀ p H', New H H' p (.tup xs) → Q (.ref p) H') : kTupN xs H Q := ⟨z, s_new h⟩
theorem s_madeL {xs : List V} (z : xs.length ≤ sizeLine) (h : ∀ p H', New H H' p (.lst xs) → Q (.ref p) H') : kLstN xs H Q := ⟨z, s_new h⟩
theorem s_madeR {a b : Int} (z : RgOk a b) (h : ∀ p H', New H H' p (.lst (rgV a b)) → Q (.ref p) H') : kRgN a b H Q := ⟨z, s_new h⟩
/-! values -/
theorem s_rI0 {g : Int → Int → V} {i j : Int} (h : Q (g i j) H) : rI0 g (.int i) (.int j) H Q := ⟨i, j, rfl, rfl, h⟩
theorem s_rI {C : Int → Int → Prop} {g : Int → Int → V} {i j : Int} (c : C i j) (h : Q (g i j) H) : rI C g (.int i) (.int j) H Q := ⟨i, j, rfl, rfl, c, h⟩
theorem s_plusI {i j : Int} (h : Q (.int (i + j)) H) : rPlus K (.int i) (.int j) H Q := .inl ⟨i, j, rfl, rfl, h⟩
theorem s_plusS {i j : Str} (z : i.length + j.length ≤ sizeLine) (h : Q (.str (i ++ j)) H) : rPlus K (.str i) (.str j) H Q := .inr (.inl ⟨i, j, rfl, rfl, z, h⟩)
theorem s_plusL {l b : Addr} {xs zs : List V} (e1 : H l = some (.lst xs)) (e2 : H b = some (.lst zs)) (z : xs.length + zs.length ≤ sizeLine) (h : ∀ p H', New H H' p (.lst (xs ++ zs)) → Q (.ref p) H') :
    rPlus K (.ref l) (.ref b) H Q := .inr (.inr (.inl ⟨l, b, xs, zs, rfl, rfl, e1, e2, z, s_new h⟩))
theorem s_plusT {l b : Addr} {xs zs : List V} (e1 : SqT K H l xs) (e2 : SqT K H b zs) (n1 : xs ≠ []) (n2 : zs ≠ []) (z : xs.length + zs.length ≤ sizeLine) (h : ∀ p H', New H H' p (.tup (xs ++ zs)) → Q (.ref p) H') :
    rPlus K (.ref l) (.ref b) H Q := .inr (.inr (.inr ⟨l, b, xs, zs, rfl, rfl, e1, e2, n1, z, fun e => absurd e n2, fun _ => s_new h⟩))
theorem s_timesI {i j : Int} (c : CMul i j) (h : Q (.int (i * j)) H) : rTimes (.int i) (.int j) H Q := .inl ⟨i, j, rfl, rfl, c, h⟩
theorem s_timesW {i j : Int} (c : CMulW i j) (h : Q (.int (i * j)) H) : rTimes (.int i) (.int j) H Q := .inr (.inl ⟨i, j, rfl, rfl, c, h⟩)
theorem s_timesL {l : Addr} {k : Int} {xs : List V} (e : H l = some (.lst xs)) (k1 : -(2 ^ 63) ≤ k) (k2 : k < 2 ^ 63) (z : xs.length * k.toNat ≤ sizeLine)
    (h : ∀ p H', New H H' p (.lst (List.replicate k.toNat xs).flatten) → Q (.ref p) H') : rTimes (.ref l) (.int k) H Q := .inr (.inr ⟨l, k, xs, rfl, rfl, e, k1, k2, z, s_new h⟩)
theorem s_divI {i j : Int} (c : CDiv i j) (h : Q (.int (i / j)) H) : rDiv (.int i) (.int j) H Q := .inl ⟨i, j, rfl, rfl, c, h⟩
theorem s_divW {i j : Int} (c : CDivW i j) (h : Q (.int (i / j)) H) : rDiv (.int i) (.int j) H Q := .inr ⟨i, j, rfl, rfl, c, h⟩
theorem s_eq {x y : V} (c : scal x y = true) (h : Q (.bl (decide (x = y))) H) : rSame K x y H Q := .inl ⟨c, h⟩
theorem s_ne {x y : V} (c : scal x y = true) (h : Q (.bl (!decide (x = y))) H) : rDiffer K x y H Q := .inl ⟨c, h⟩
theorem s_eqD {x y : V} {d e : PyData} (h1 : Dp K H x d) (h2 : Dp K H y e) (s1 : SeqAt.shaped d = true) (s2 : SeqAt.shaped e = true) (h : Q (.bl (PyData.eqv d e)) H) : rSame K x y H Q := .inr ⟨d, e, h1, h2, s1, s2, h⟩
theorem s_neD {x y : V} {d e : PyData} (h1 : Dp K H x d) (h2 : Dp K H y e) (s1 : SeqAt.shaped d = true) (s2 : SeqAt.shaped e = true) (h : Q (.bl (!PyData.eqv d e)) H) : rDiffer K x y H Q := .inr ⟨d, e, h1, h2, s1, s2, h⟩
theorem s_int {i : Int} (h : Q (.int i) H) : rInt [.int i] H Q := .inl ⟨i, rfl, h⟩
theorem s_intb {b : Bool} (h : Q (.int (if b then 1 else 0)) H) : rInt [.bl b] H Q := .inr ⟨b, rfl, h⟩
theorem s_abs {i : Int} (h : Q (.int (if i < 0 then -i else i)) H) : rAbs [.int i] H Q := ⟨i, rfl, h⟩
theorem s_lenL {p : Addr} {ys : List V} (e : SqL K H p ys) (h : Q (.int ys.length) H) : rLenQ K [.ref p] H Q := ⟨p, ys, rfl, .inl e, h⟩
theorem s_lenT {p : Addr} {ys : List V} (e : SqT K H p ys) (h : Q (.int ys.length) H) : rLenQ K [.ref p] H Q := ⟨p, ys, rfl, .inr e, h⟩
theorem s_listL {p : Addr} {ys : List V} (e : SqL K H p ys) (h : ∀ l H', New H H' l (.lst ys) → Q (.ref l) H') : rListQ K [.ref p] H Q := ⟨p, ys, rfl, .inl e, s_new h⟩
theorem s_listT {p : Addr} {ys : List V} (e : SqT K H p ys) (h : ∀ l H', New H H' l (.lst ys) → Q (.ref l) H') : rListQ K [.ref p] H Q := ⟨p, ys, rfl, .inr e, s_new h⟩
theorem s_ixL {p : Addr} {xs : List V} {i : Int} (e : SqL K H p xs) (hv : atI xs i = some v) (h : Q v H) : rIx K (.ref p) (.int i) H Q := .inl ⟨p, xs, i, v, rfl, rfl, e, hv, h⟩
theorem s_ixT {p : Addr} {xs : List V} {i : Int} (e : SqT K H p xs) (hv : atI xs i = some v) (h : Q v H) : rIx K (.ref p) (.int i) H Q := .inr (.inl ⟨p, xs, i, v, rfl, rfl, e, hv, h⟩)
theorem s_inL {x : V} {p : Addr} {xs : List V} (e : SqL K H p xs) (f : flatV x = true) (fs : xs.all flatV = true) (h : Q (.bl (inV x xs)) H) : rIn K false x (.ref p) H Q := ⟨p, xs, rfl, .inl e, f, fs, h⟩
theorem s_inT {x : V} {p : Addr} {xs : List V} (e : SqT K H p xs) (f : flatV x = true) (fs : xs.all flatV = true) (h : Q (.bl (inV x xs)) H) : rIn K false x (.ref p) H Q := ⟨p, xs, rfl, .inr e, f, fs, h⟩
theorem s_ninL {x : V} {p : Addr} {xs : List V} (e : SqL K H p xs) (f : flatV x = true) (fs : xs.all flatV = true) (h : Q (.bl (!inV x xs)) H) : rIn K true x (.ref p) H Q := ⟨p, xs, rfl, .inl e, f, fs, h⟩
theorem s_ninT {x : V} {p : Addr} {xs : List V} (e : SqT K H p xs) (f : flatV x = true) (fs : xs.all flatV = true) (h : Q (.bl (!inV x xs)) H) : rIn K true x (.ref p) H Q := ⟨p, xs, rfl, .inr e, f, fs, h⟩
theorem s_isN {te : TE} (h : te σ H fun x H1 => Q (.bl (decide (x = .non))) H1) : tIsN te σ H Q := h
theorem s_notN {te : TE} (h : te σ H fun x H1 => Q (.bl (!decide (x = .non))) H1) : tNotN te σ H Q := h
theorem s_bm {T : String} {r : V → List V → Hp → VK → Prop} {to : TE} {t : TA} (h : to σ H fun x H1 => tyV K T x H1 ∧ t σ H1 fun xs H2 => r x xs H2 Q) : tBM K T r to t σ H Q := h
theorem s_bm0 {T : String} {r : V → List V → Hp → VK → Prop} {to : TE} (h : to σ H fun x H1 => tyV K T x H1 ∧ r x [] H1 Q) : tBM0 K T r to σ H Q := h
theorem s_append {l : Addr} {xs : List V} (e : H l = some (.lst xs)) (z : xs.length < sizeLine) (h : ∀ H', Put H H' l (.lst (xs ++ [v])) → Q .non H') : rAppend (.ref l) [v] H Q := ⟨l, xs, v, rfl, rfl, e, z, h _ ⟨rfl⟩⟩
theorem s_pop {l : Addr} {xs : List V} (e : H l = some (.lst xs)) (hv : xs[xs.length - 1]? = some v) (h : ∀ H', Put H H' l (.lst xs.dropLast) → Q v H') : rPop (.ref l) [] H Q := ⟨l, xs, v, rfl, rfl, e, hv, h _ ⟨rfl⟩⟩
theorem s_popAt {l : Addr} {xs : List V} {i : Int} {j : Nat} (e : H l = some (.lst xs)) (i1 : -(2 ^ 63) ≤ i) (i2 : i < 2 ^ 63) (hj : seqIndex? i xs.length = some j) (hv : xs[j]? = some v) (h : ∀ H', Put H H' l (.lst (xs.eraseIdx j)) → Q v H') :
    rPopAt (.ref l) [.int i] H Q := ⟨l, xs, i, j, v, rfl, rfl, e, i1, i2, hj, hv, h _ ⟨rfl⟩⟩
theorem s_tyL {p : Addr} {xs : List V} {R : Prop} (e : SqL K H p xs) (h : R) : tyV K "list" (.ref p) H ∧ R := ⟨.inl ⟨rfl, xs, e⟩, h⟩
theorem s_gsub {to ti : TE} {t : TSet} {R : St → Hp → Prop} (h : to σ H fun o H1 => ti σ H1 fun i H2 => t o i v H2 fun H3 => R σ H3) : gSub to ti t v σ H R := h
theorem s_setL {p : Addr} {xs : List V} {k : Int} {j : Nat} {R : Hp → Prop} (e : H p = some (.lst xs)) (hj : ixN xs.length k = some j) (h : ∀ H', Put H H' p (.lst (xs.set j v)) → R H') : rSetL (.ref p) (.int k) v H R := ⟨p, xs, k, j, rfl, rfl, e, hj, h _ ⟨rfl⟩⟩
theorem s_chain {r r' : R2} {ta tb tc : TE} (h : ta σ H fun x H1 => tb σ H1 fun y H2 => r x y H2 fun z H3 => ∃ k, z = .bl k ∧ (if k = true then tc σ H3 fun w' H4 => r' y w' H4 Q else Q (.bl false) H3)) : tChain r r' ta tb tc σ H Q := h
theorem s_lstRg {te : St → Hp → (Int → Int → Hp → Prop) → Prop} (h : te σ H fun a b H1 => kRgN a b H1 Q) : tLstRg te σ H Q := h
theorem s_rg1 {ta : TE} {R : Int → Int → Hp → Prop} (h : ta σ H fun x H1 => ∃ n, x = .int n ∧ R 0 n H1) : tRg1 ta σ H R := h
theorem s_rg2 {ta tb : TE} {R : Int → Int → Hp → Prop} (h : ta σ H fun x H1 => tb σ H1 fun y H2 => ∃ i j, x = .int i ∧ y = .int j ∧ R i j H2) : tRg2 ta tb σ H R := h
theorem s_sl {r : V → Option Int → Option Int → Hp → VK → Prop} {te : TE} {tl th : TO} (h : te σ H fun x H1 => tl σ H1 fun l H2 => th σ H2 fun u H3 => r x l u H3 Q) : tSl r te tl th σ H Q := h
theorem s_nopart {R : Option Int → Hp → Prop} (h : R none H) : tNoPart σ H R := h
theorem s_part {te : TE} {R : Option Int → Hp → Prop} (h : te σ H fun x H1 => ∃ i, x = .int i ∧ R (some i) H1) : tPart te σ H R := h
theorem s_intI {i : Int} {R : Int → Prop} (h : R i) : ∃ j, V.int i = .int j ∧ R j := ⟨i, rfl, h⟩
theorem s_slL {a : Addr} {xs : List V} {lo hi : Option Int} (e : SqL K H a xs) (h : ∀ p H', New H H' p (.lst (cutV xs lo hi)) → Q (.ref p) H') : rSlL K (.ref a) lo hi H Q := ⟨a, xs, rfl, e, s_new h⟩
end
end Sx

/-! Sx2: exceptions of own classes as values: made (by keywords, too), their fields, isinstance; repr of data. -/
namespace PySem
namespace SxE
open PySem.W PySem.Calls PyProof.Rows PySem.HandSPX
section
variable {prog : Program} {w : World} {M : Model} {A : Around} {E : Value → Shared → Prop} {R : Result → Shared → Prop} {h : Heap} {g : Array GenState} {d : Drawn} {t : Nat} {os : OsState}
variable {nm q : Str} {C N : Addr} {bs bm bmB : List Value} {hdct : Bool} {sn : List Str} {sub : List Value} {ab : Bool} {col : Option Bool} {dd : Option Addr} {k0 k1 k2 k3 k5 : Option Value} {B newId initId : String}
theorem chk_new (F : ExcBaseFacts B newId initId bmB) (hT : ∀ Y : String, bm.contains (.type Y) = bmB.contains (.type Y)) {args : List Value} {kw : List (Str × Value)} {Q : Unit → Shared → Prop}
    (hC : h.get? C = some (excClassObj nm q C N bs bm hdct sn sub ab col dd k0 k1 k2 k3 k5 newId)) (hq : Q () ⟨h, g, d, t, os⟩) : wpAny M A (checkBuiltinCall newId ⟨.ref C :: args, kw⟩) Q E ⟨h, g, d, t, os⟩ := by
  have c1 : (Value.ref C :: bm).contains (.type B) = true := by rw [List.contains_cons, hT, F.hasB, Bool.or_true]
  have c2 := F.noStar
  simp only [checkBuiltinCall, F.newKind, F.newSplit, F.newRow]
  repeat (first | refine wpAny_loadPart_at hC ?_ | (refine wpAny_isSubtype_exc hC ?_; rw [c1]) | refine wpAny_staticBase_exc hC ?_ | refine wpAny_madeBy_exc hC ?_ | simp only [bne_self_eq_false, Bool.false_eq_true, if_false] | wp_step)
  exact hq
theorem mk_new (F : ExcBaseFacts B newId initId bmB) (hT : ∀ Y : String, bm.contains (.type Y) = bmB.contains (.type Y)) {args : List Value} {kw : List (Str × Value)}
    (hC : h.get? C = some (excClassObj nm q C N bs bm hdct sn sub ab col dd k0 k1 k2 k3 k5 newId))
    (hq : R (.ok (.ret (.ref (h.objs.size + 1)))) ⟨(h.push (kdv_tup args)).push (excO C h.objs.size), g, d, t, os⟩) (hz : args.length ≤ sizeLine) :
    codeAny (model prog w) A (.builtin newId ⟨.ref C :: args, kw⟩) R ⟨h, g, d, t, os⟩ := by
  have c0 := F.ends
  have c1 : (Value.ref C :: bm).contains (.type B) = true := by rw [List.contains_cons, hT, F.hasB, Bool.or_true]
  have c2 : (Value.ref C :: bm).contains (.type "AttributeError") = false := by rw [List.contains_cons, hT, F.noAttr] <;> rfl
  have c3 : (Value.ref C :: bm).contains (.type "NameError") = false := by rw [List.contains_cons, hT, F.noName] <;> rfl
  refine codeAny_builtinAt F.entry ?_
  unfold Builtin.«BaseException.__new__»
  refine wpAt_bind ?_
  show wpAt _ _ _ (stack >>= _) _ _ _
  refine wpAt_bind (wpAt_stack fun p below => wpAt_of_wpAny ?_)
  wp_walk
  refine wpAt_of_wpAny ?_
  rw [F.owner]
  repeat (first | with_reducible refine wpAny_madeHere_exc F.canon hC ?_ | with_reducible refine wpAny_loadPart_at hC ?_ | (with_reducible refine wpAny_isSubtype_exc hC ?_; first | rw [c1] | rw [c2] | rw [c3]) | wp_step)
  show R _ _
  rw [Heap.size_push]
  exact hq
theorem mk_type (F : ExcBaseFacts B newId initId bmB) (hT : ∀ Y : String, bm.contains (.type Y) = bmB.contains (.type Y)) {args : List Value} {kw : List (Str × Value)} {fI : Addr} {Q : Fin → Shared → Prop}
    (hC : h.get? C = some (excClassObj nm q C N bs bm hdct sn sub ab col dd k0 k1 k2 k3 k5 newId))
    (hi : Looks (model prog w) h (typeLookup (.ref C) "__init__") (some (.ref fI))) (hb : ∀ self, Looks (model prog w) h (bindSpecial (.ref fI) self) (.ref fI, [self])) (hz : args.length ≤ sizeLine)
    (hq : codeAny (model prog w) A (.call (.ref fI) ⟨.ref (h.objs.size + 1) :: args, kw⟩)
      (fun r s' => match r with | .ok (.ret v) => v = .none ∧ Q (.done (.ret (.ref (h.objs.size + 1)))) s' | .ok _ => False | .error e => E e s')
      ⟨(h.push (kdv_tup args)).push (excO C h.objs.size), g, d, t, os⟩) :
    wpAny (model prog w) A (Builtin.«type.__call__» ⟨.ref C :: args, kw⟩) Q E ⟨h, g, d, t, os⟩ := by
  repeat (first | with_reducible refine wpAny_loadPart_at hC ?_ | with_reducible refine wpAny_madeBy_exc hC ?_ | wp_step)
  refine codeAny_call_builtin_code (Code.quiet_builtin _ F.quiet) (chk_new F hT hC ?_)
  refine mk_new F hT hC ?_ hz
  show wpAny _ _ _ _ _ _
  have kk : ∀ b o, h.get? b = some o → ((h.push (kdv_tup args)).push (excO C h.objs.size)).get? b = some o := fun b o e => Heap.get?_push_of_some _ (Heap.get?_push_of_some _ e)
  have c1 := kk _ _ hC
  have c2 : ((h.push (kdv_tup args)).push (excO C h.objs.size)).get? (h.objs.size + 1) = some (excO C h.objs.size) := by heap_get
  have c3 : (Value.ref C :: bm).contains (.ref C) = true := by simp
  have i1 := hi.keeps kk
  have b1 := (hb (.ref (h.objs.size + 1))).keeps kk
  unfold isInstance
  repeat (first | with_reducible refine wpAny_loadPart_at c2 ?_ | (with_reducible refine wpAny_isSubtype_exc c1 ?_; rw [c3]) | wp_step)
  show wpAny _ _ (typeLookup (.ref C) _) _ _ _
  refine i1.at ?_
  refine wpAny_holding (wpAny_bind (b1.at ?_))
  refine wpAny_bind (wpAny_call (codeAny_mono hq fun r s' z => ?_))
  rcases r with e | (v | _ | _ | _) <;> first | exact z | exact z.elim | skip
  obtain ⟨rfl, z⟩ := z
  first
    | exact wpAny_pure (wpAny_pure z)
    | (wp_walk; exact z)
theorem chk_type {args : List Value} {kw : List (Str × Value)} {Q : Unit → Shared → Prop} (hC : h.get? C = some (excClassObj nm q C N bs bm hdct sn sub ab col dd k0 k1 k2 k3 k5 newId))
    (hq : Q () ⟨h, g, d, t, os⟩) : wpAny M A (checkBuiltinCall "type.__call__" ⟨.ref C :: args, kw⟩) Q E ⟨h, g, d, t, os⟩ := by
  have f3 := tc_sub
  have hT : (⟨h, g, d, t, os⟩ : Shared).TypeIs (.ref C) "type" := ⟨_, hC, rfl⟩
  simp only [checkBuiltinCall, tc_kind, tc_split]
  repeat (any_goals (first | assumption | with_reducible refine wpAny_loadPart_at hC ?_ | with_reducible refine wpAny_onRaise ?_ | with_reducible refine wpAny_map ?_ | wp_step))
theorem mk_call (F : ExcBaseFacts B newId initId bmB) (hT : ∀ Y : String, bm.contains (.type Y) = bmB.contains (.type Y)) {args : List Value} {kw : List (Str × Value)} {fI : Addr}
    (hC : h.get? C = some (excClassObj nm q C N bs bm hdct sn sub ab col dd k0 k1 k2 k3 k5 newId))
    (hi : Looks (model prog w) h (typeLookup (.ref C) "__init__") (some (.ref fI))) (hb : ∀ self, Looks (model prog w) h (bindSpecial (.ref fI) self) (.ref fI, [self])) (hz : args.length ≤ sizeLine)
    (hq : codeAny (model prog w) (A.under (.builtin "type.__call__" ⟨.ref C :: args, kw⟩)) (.call (.ref fI) ⟨.ref (h.objs.size + 1) :: args, kw⟩) (InitBack (h.objs.size + 1) R)
      ⟨(h.push (kdv_tup args)).push (excO C h.objs.size), g, d, t, os⟩) :
    codeAny (model prog w) A (.call (.ref C) ⟨args, kw⟩) R ⟨h, g, d, t, os⟩ := by
  have f1 := tc_lookup
  have f2 := tc_bind (.ref C)
  have c1 : (⟨h, g, d, t, os⟩ : Shared).TypeIs (.ref C) "type" := ⟨_, hC, rfl⟩
  refine codeAny_of_tree ?_
  show wpAny _ _ (callAny (.ref C) _) _ _ _
  repeat (any_goals (first | assumption | with_reducible refine wpAny_loadPart_at hC ?_ | wp_step))
  refine ⟨rfl, ?_⟩
  refine codeAny_call_builtin_at (Code.quiet_builtin _ (by decide +kernel)) entry_typeCall (chk_type hC (mk_type F hT hC hi hb hz ?_))
  refine codeAny_mono hq fun r s' z => ?_
  rcases r with e | (v | _ | _ | _) <;> exact z
end
section
open Builtin Builtin.ObjectAttr
variable {prog : Program} {w : World} {A : Around} {E : Value → Shared → Prop} {s : Shared} {K : Frag} {x D : Addr} {ox : Obj} {od : Option Obj}
theorem findObj_dd {C : Addr} {name : Str} {a gg : Value} (hc : (clsIn K C).isSome = true) (ha : findIn K (.ref C) name = some (some a)) (hg : specialIn K a "__get__" = some (some gg)) (ht : takesIn K a = some true) : findObj K C od name = some (.bind gg a) := by
  cases od with
  | some o => exact findObj_data hc ha hg ht
  | none => exact findObj_dataN hc ha hg ht
theorem cls_of_exc {Q : Option Value → Shared → Prop} (T : L2.ExcC K D) (X : K.In s.heap) (I : InstAt s.heap x ox D od) (hq : Q (some (.ref D)) { s with toks := s.toks + 1 }) : wpAny (model prog w) A (getAttr? (.ref x) "__class__") Q E s := by
  have hf : findObj K D od "__class__" = some (.bind (.builtin "getset_descriptor.__get__") (.builtin "object.__class__")) := findObj_dd (by obtain ⟨cd, hc, _⟩ := any_some T.hd; rw [hc]; rfl) T.ha T.hn T.ht
  obtain ⟨hp, g, d, t, os⟩ := s
  have Ty := I.type (M := model prog w)
  have Lg := looks_findIn (M := model prog w) X T.hg
  have Lk := looks_findIn (M := model prog w) X T.hk
  have Lf := looks_find (M := model prog w) X I hf
  have sb : Looks (model prog w) hp (isInstance (.ref x) (.type "BaseException")) true := Ty.andThen (looks_subIn X T.hs)
  have e1 : (Value.builtin "BaseException.__getattribute__" == Value.builtin "object.__getattribute__") = false := by decide +kernel
  have e2 : (onTheHeap (Value.ref D) && Value.builtin "BaseException.__getattribute__" == Value.builtin "object.__getattribute__") = false := by rw [e1] <;> rfl
  unfold getAttr? getAttrBy? getAttrBy
  refine wpAny_bind (wpAny_mkText (wpAny_bind (wpAny_attempt (wpAny_holding (wpAny_bind (Ty.at (wpAny_bind (Lg.at ?_))))))))
  show wpAny _ _ (if (onTheHeap (Value.ref D) && Value.builtin "BaseException.__getattribute__" == Value.builtin "object.__getattribute__") = true then _ else _) _ _ _
  rw [e2, if_neg Bool.false_ne_true]
  unfold getAttrByItsOwn hookBefore
  refine wpAny_bind ?_
  rw [if_pos (show onTheHeap (Value.ref D) = true from rfl)]
  refine Lk.at (wpAny_bind (wpAny_attempt (wpAny_holding ?_)))
  unfold callGetattribute
  rw [if_neg (show ¬ (false && onTheHeap (Value.builtin "BaseException.__getattribute__")) = true from Bool.false_ne_true)]
  unfold boundAndCalled
  rw [PySem.F.excAttr_ValueError.ga.bind (.ref x)]
  refine wpAny_bind (wpAny_pure ?_)
  show wpAny _ _ (call (.builtin "BaseException.__getattribute__") [.ref x, .str "__class__" t]) _ _ _
  refine wpAny_call (codeAny_call_builtin PySem.F.excAttr_ValueError.ga.plain PySem.F.entry_bexc_ga ?_)
  refine @check_slot (model prog w) _ _ ⟨hp, g, d, t + 1, os⟩ "BaseException.__getattribute__" "BaseException" "__getattribute__" (.ref x) [.str "__class__" t] [] _ (by decide +kernel) (by decide +kernel) sb (PySem.F.args_bexc_ga (.ref x) (.str "__class__" t)) ?_
  unfold Builtin.«object.__getattribute__»
  refine wpAny_bind (wpAny_of_eq (a := ((Value.ref x : Value), [Value.str "__class__" t])) (by first | rfl | (simp only [slotArgs]; rfl)) ?_)
  refine wpAny_bind (wpAny_pure (wpAny_bind (Ty.at (wpAny_bind (Lf.at ?_)))))
  show wpAny _ _ (holding [Value.builtin "object.__class__"] (call (.builtin "getset_descriptor.__get__") [.builtin "object.__class__", .ref x, .ref D]) >>= ret) _ _ _
  refine wpAny_bind (wpAny_holding (wpAny_call (class_get (s := ⟨hp, g, d, t + 1, os⟩) X I T.hm ?_)))
  refine wpAny_pure ?_
  show wpAny _ _ (handedOut (.ref D)) _ _ _
  rw [handedOut_of (v := .ref D) rfl]
  first
    | exact wpAny_pure (wpAny_pure hq)
    | exact wpAny_pure hq
    | exact wpAny_pure (wpAny_bind (wpAny_pure (wpAny_pure hq)))
theorem kit_exc (T : L2.ExcC K D) : KitX K (.ref x) (.ref D) (fun h => ∃ od, InstAt h x ox D od) where
  ty := fun _ _ _ ⟨_, I⟩ => I.type
  it := fun _ _ X _ => by
    obtain ⟨cd, hc, _⟩ := any_some T.hd
    unfold clsIn at hc
    split at hc
    · rename_i c1 d1 cd1 sl1 ho
      intro A' Q' E' s' k q
      unfold isType loadHead
      exact wpAny_bind (wpAny_loadPart (k _ _ (X _ _ ho)) (wpAny_pure q))
    · cases hc
  ne := fun h tp dd its n sl X htp => by
    obtain ⟨cd, hc, _⟩ := any_some T.hd
    unfold clsIn at hc
    split at hc
    · rename_i c1 d1 cd1 sl1 ho
      refine Bool.eq_false_iff.mpr fun q => ?_
      have e : D = tp := Value.ref.inj (beq_iff_eq.mp q)
      subst e
      have z := (X _ _ ho).symm.trans htp
      cases z
    · cases hc
  ca := fun X ⟨_, I⟩ k => cls_of_exc T X I k
end
end SxE
end PySem

namespace Sx
open PySem L2
/-- what the text says of an own error class at C: all of it a Bool of the written part -/
structure ErrC (K : PySem.W.Frag) (C : Addr) : Prop where
  o : OexC K C
  e : ExcC K C
/-- an error object at a, of the class at C, its fields -/
structure Err (H : Hp) (a C d : Addr) (fs : List (Str × V)) : Prop where
  ob : H a = some (exo a C (some d))
  dc : H d = some (exd d fs)
theorem Err.same {H H' : Hp} {a C d : Addr} {fs : List (Str × V)} (s : Same H H') (e : Err H a C d fs) : Err H' a C d fs := ⟨s _ _ e.ob, s _ _ e.dc⟩
theorem inst_exo {P : Program} {w : World} {K : PySem.W.Frag} {H : Hp} {h : Heap} {a C d : Addr} {fs : List (Str × V)} (hok : HOk P w H h) (e : Err H a C d fs) :
    ∃ (t1 : Addr) (mA : Str → Option Value) (od : Obj), PySem.W.InstAt h a { cls := .ref C, dict := some d, data := .fields #[.ref t1, .none, .none, .none, .bool false, .none] } C (some od) ∧ h.get? d = some od ∧ h.Ns1 d mA ∧ (∀ f, RelO (fs.lookup f) (mA f)) ∧ ∀ y, PySem.W.lookIn y od = some (mA y) := by
  obtain ⟨t1, ho⟩ := exo_at hok e.ob
  obtain ⟨mA, hn, r⟩ := exd_at hok e.dc
  obtain ⟨od, hd, hl⟩ := lookIn_ns hn
  exact ⟨t1, mA, od, ⟨ho, rfl, rfl, hd⟩, hd, hn, r, hl⟩

section
variable {X : Cx} {K : PySem.W.Frag} {e o : Expr} {es : List Expr} {te : TE} {ta : TA} {x f m : Str} {p p1 p2 pos apos : Pos}
/-! isinstance -/
/-- an error without a dict of its own -/
structure Err0 (H : Hp) (a C : Addr) : Prop where
  ob : H a = some (exo a C none)
/-- an error, with fields or without -/
def IsErr (H : Hp) (a C : Addr) : Prop := Err0 H a C ∨ ∃ d fs, Err H a C d fs
theorem IsErr.inst {P : Program} {w : World} {H : Hp} {h : Heap} {a C : Addr} (hok : HOk P w H h) (e : IsErr H a C) : ∃ ox od, PySem.W.InstAt h a ox C od := by
  rcases e with e | ⟨d, fs, e⟩
  · obtain ⟨t1, ho⟩ := exo_at hok e.ob
    exact ⟨_, none, ⟨ho, rfl, rfl, trivial⟩⟩
  · obtain ⟨t1, mA, od, J, _⟩ := inst_exo (K := []) hok e
    exact ⟨_, _, J⟩
def rIsErr (K : PySem.W.Frag) : List V → Hp → VK → Prop := fun xs H Q => ∃ (a D : Addr) (c : V) (cv : Value) (b : Bool), xs = [.ref a, c] ∧ IsErr H a D ∧ ExcC K D ∧ ClsV c cv ∧ PySem.W.kitOne K (.ref D) cv = some b ∧ Q (.bl b) H
theorem call_isErr : CallR X (.builtin "isinstance") (rIsErr X.K) := by
  intro pins s σ H xs us Q I r h
  obtain ⟨a, D, c, cv, b, rfl, er, T, k, ek, q⟩ := h
  obtain ⟨u1, u2, rfl, r1, r2⟩ := r.two
  have e2 := k.eq r2
  subst e2
  obtain rfl : u1 = .ref a := r1
  obtain ⟨ox, od, J⟩ := er.inst I.hok
  exact PySem.W.kia_one (SxE.kit_exc T) I.kIn ⟨_, J⟩ ek (fun z => nomatch z) fun tk => ⟨.bl b, H, I.tok tk, rfl, q⟩
/-- isinstance of anything: by its type, or of an error -/
def rIs (K : PySem.W.Frag) : List V → Hp → VK → Prop := fun xs H Q => rIsi K xs H Q ∨ rIsErr K xs H Q
theorem call_is : CallR X (.builtin "isinstance") (rIs X.K) := call_isi.or call_isErr
/-! a field -/
def tErrF (K : PySem.W.Frag) (f : Str) (te : TE) : TE := fun σ H Q => te σ H fun x H1 => ∃ (a C d : Addr) (fs : List (Str × V)) (v : V), x = .ref a ∧ Err H1 a C d fs ∧ ExcC K C ∧ PySem.W.findIn K (.ref C) f = some none ∧ fs.lookup f = some v ∧ Q v H1
theorem pe_errF (he : PE X e te) (hb : attributeBase e f X.env (eval e X.env) = eval e X.env := by rfl) : PE X (.Attribute e f pos) (tErrF X.K f te) := by
  refine ⟨fun pins s σ H Q I h => ?_⟩
  refine attr_of hb (thn (he.run pins s σ H _ I h) fun u s1 hh => ?_)
  obtain ⟨x, H1, I1, rx, a, C, d, fs, v, ex, er, T, hno, l, q⟩ := hh
  subst ex
  obtain rfl : u = Value.ref a := rx
  obtain ⟨t1, mA, od, J, _, _, hr, hl⟩ := inst_exo (K := X.K) I1.hok er
  obtain ⟨u, hu, ru⟩ := RelO.some_of (v := v) (o := mA f) (by rw [← l]; exact hr f)
  exact PySem.HandSPX.exc_get I1.kIn J T.hg T.hk T.hs (PySem.W.findObj_own T.hd hno rfl (by rw [hl, hu])) (handed_of ru) ⟨v, H1, I1.tok _, ru, q⟩
/-! S.__init__(self, ..), S an own class whose __init__ is ValueError's -/
structure SupC (K : PySem.W.Frag) (S : Addr) : Prop where
  rd : PySem.W.readsIn K S (.type "type") = true
  ga : PySem.W.specialIn K (.ref S) "__getattribute__" = some (some (.builtin "type.__getattribute__"))
  at_ : PySem.W.findCls K (.ref S) (.type "type") "__init__" = some (.val (.builtin "ValueError.__init__"))
theorem pe_supinit {S : Addr} {pl : Sem Bool} (hg : Gl X x) (hm : X.mg x = some (.ref S)) (T : SupC X.K S) (ha : PA X (e :: es) ta) (hdb : (x == ("__debug__" : Str)) = false := by decide)
    (hc : eval (.Call (.Attribute (.Name x p1) "__init__" p2) (e :: es) [] pos) X.env = (do
      let ov ← eval (.Name x p1) X.env
      standAt p2.atName
      let (f, first) ← holding [ov] (getMethod ov "__init__" pl)
      callWith pos f first (backTo pos (starEach (e :: es) X.env)) (backToKw pos (keywordEach [] X.env))) := by rfl)
    (he : starEach (e :: es) X.env = (false, eval e X.env) :: starEach es X.env := by rfl) (hpl : (backTo pos (starEach es X.env)).any (·.1) = false := by rfl) :
    PE X (.Call (.Attribute (.Name x p1) "__init__" p2) (e :: es) [] pos) (tVeI X.K ta) := by
  refine ⟨fun pins s σ H Q I h => ?_⟩
  refine PySem.W.methodCall_KW (ld_glob I hg hm ?_ hdb) hc
  refine PySem.W.method_cls I.kIn T.ga (PySem.W.cls_value I.kIn T.rd T.at_ rfl ?_)
  show wpAny _ _ (callWith pos (Value.builtin "ValueError.__init__") [] (backTo pos (starEach (e :: es) X.env)) []) _ _ _
  refine PyProof.Rows.callWith_method1 (thn (ha.run pos pins _ σ H _ (I.tok _) h) fun us s1 ⟨vs, H1, I1, r1, a, C, ws, ev, hl, TC, ea, q⟩ => ?_) he hpl
  subst ev
  cases r1 with
  | @cons _ u0 _ ur ra rw' =>
    obtain rfl : u0 = Value.ref a := ra
    refine oinit_ok TC I1 ea (by rw [← Paired.length rw', sizeLine_eq]; omega) fun s' J => ⟨.non, H1, J, rfl, q⟩
/-! C(..) as a value -/
/-- the made error: __init__'s promise at the new object -/
def mkErr (C : Addr) (sp : Sp) (vs : List V) (H : Hp) (Q : VK) : Prop := ∀ a, H a = none → sp (.ref a :: vs) (upd H a (exo a C none)) (fun v H2 => v = .non ∧ Q (.ref a) H2) (fun _ _ _ => False)
structure MkC (K : PySem.W.Frag) (mg : Str → Option Value) (x : Str) (C fI : Addr) : Prop where
  o : OexC K C
  m : mg x = some (.ref C)
  iC : PySem.W.findIn K (.ref C) "__init__" = some (some (.ref fI))
  tI : PySem.W.typeIn K (.ref fI) = some (.type "function")
theorem run_err {CX : CXT} {C fI : Addr} {k : Nat} {fd : FuncData} {ps : List Str} {sp : Sp} {pins : List (Addr × Obj)} {σ : St} {H : Hp} {s : Shared} {Q : VK} {us : List Value} {kw : List (Str × Value)} {vs : List V} {us' : Addr → List Value}
    (T : MkC X.K X.mg x C fI) (F1 : FnOk X.prog X.w X.K X.mg X.base CX k fI fd ps sp) (hr : Room (k + 1) X.A) (hx : Passes CX X (fun _ _ _ => False)) (I : Inv X pins σ H s) (hus : us.length ≤ sizeLine)
    (hb : ∀ (s : Shared) (a : Addr), X.K.In s.heap → (us' a).length = ps.length → BindsTo s fd ⟨.ref a :: us, kw⟩ (ps.zip (us' a))) (r : ∀ a, Vals (V.ref a :: vs) (us' a)) (h : mkErr C sp vs H Q) :
    wpAny (model X.prog X.w) X.A (call (.ref C) us kw) (EP X pins σ Q) X.xe s := by
  obtain ⟨nm, q, N, bs, bm, sn, sub, ab, col, dd, k0, k1, k2, k3, k5, hC, hbm⟩ := T.o.cls
  obtain ⟨hp, g, dr, tk, os⟩ := s
  have hsz : hp.objs.size ≤ hp.objs.size + 1 := Nat.le_succ _
  have hn : H (hp.objs.size + 1) = none := I.hok.fresh hsz
  have hq := h (hp.objs.size + 1) hn
  have kk : ∀ b o, hp.get? b = some o → ((hp.push (PySem.W.kdv_tup us)).push (PySem.HandSPX.excO C hp.objs.size)).get? b = some o := fun b o e => Heap.get?_push_of_some _ (Heap.get?_push_of_some _ e)
  have hget : ((hp.push (PySem.W.kdv_tup us)).push (PySem.HandSPX.excO C hp.objs.size)).get? (hp.objs.size + 1) = some (PySem.HandSPX.excO C hp.objs.size) := by heap_get
  have I2 : Inv X pins σ (upd H (hp.objs.size + 1) (exo (hp.objs.size + 1) C none)) ⟨(hp.push (PySem.W.kdv_tup us)).push (PySem.HandSPX.excO C hp.objs.size), g, dr, tk, os⟩ :=
    I.laid (t' := tk) (a := hp.objs.size + 1) (o := exo (hp.objs.size + 1) C none) (h' := (hp.push (PySem.W.kdv_tup us)).push (PySem.HandSPX.excO C hp.objs.size)) kk hsz (exo_ok hget)
  have hl : (us' (hp.objs.size + 1)).length = ps.length := by rw [← (r _).length]; exact F1.len _ _ _ _ hq
  refine wpAny_call (SxE.mk_call F.excBase_ValueError (fun Y => PySem.HandSPX.refsVE_contains Y bm hbm) (I.kIn _ _ hC) (PySem.W.looks_findIn I.kIn T.iC) (fun self => PySem.W.bind_fn I.kIn self T.tI) hus
    (codeAny_mono (F1.run _ X.stack _ _ ⟨Value.ref (hp.objs.size + 1) :: us, kw⟩ (us' (hp.objs.size + 1)) _ _ (fun _ _ _ => False) (hr.make C us kw) (I2.env0.make C us kw) (hb _ _ I2.kIn hl) (r _) hq) fun rr s' hq' => ?_))
  cases rr with
  | error er => exact hx pins σ _ _ er s' I2 hq'
  | ok fl =>
    cases fl with
    | ret u =>
      obtain ⟨v, H2, os2, bare2, un2, hok2, rv, ev, q2⟩ := hq'
      subst ev
      obtain ⟨h2, g2, d2, t2, os'⟩ := s'
      obtain rfl : os' = os := os2
      have U : Un (frs X.stack) [] H H2 hp h2 := {
        keep := fun b o z n hf hx => by
          have hne : b ≠ hp.objs.size + 1 := Nat.ne_of_lt (Nat.lt_succ_of_lt (Heap.lt_size z))
          exact un2.keep b o (kk b o z) (by rw [upd_ne hne]; exact n) hf hx
        slot := fun b o z n hf hx => by
          have hne : b ≠ hp.objs.size + 1 := Nat.ne_of_lt (Nat.lt_succ_of_lt (Heap.lt_size z))
          exact un2.slot b o (kk b o z) (by rw [upd_ne hne]; exact n) hf hx
        free := fun b o z n hx => by
          have hne : b ≠ hp.objs.size + 1 := Nat.ne_of_lt (Nat.lt_succ_of_lt (Heap.lt_size z))
          exact un2.free b o (kk b o z) (by rw [upd_ne hne]; exact n) hx
        there := fun b o z hx => un2.there b o (kk b o z) hx
        tups := fun b xs z => un2.tups b xs (by rw [upd_ne (ne_of_none z hn)]; exact z)
        frzs := fun b o u z => un2.frzs b o u (by rw [upd_ne (ne_of_none z hn)]; exact z)
        tbls := fun b ps z => un2.tbls b ps (by rw [upd_ne (ne_of_none z hn)]; exact z) }
      exact ⟨rv, .ref (hp.objs.size + 1), H2, I.call (h' := h2) (g' := g2) (d' := d2) (t' := t2) (ch := []) U hok2 bare2 (fun b z => absurd z (by simp)), rfl, q2⟩
    | next => exact False.elim hq'
    | brk => exact False.elim hq'
    | cont => exact False.elim hq'
end
end Sx

/-! Sx3: errors made by their classes' names; repr; loops and comprehensions by an invariant; the law's own entry with no text in the making. -/
namespace Sx
open PySem L2

/-! ### C(..) by positional and by keyword arguments -/
structure OkC (P : Program) (w : World) (K : PySem.W.Frag) (mg : Str → Option Value) (base : Heap) (k : Nat) (x : Str) (C fI : Addr) (fd : FuncData) (ps : List Str) (sp : Sp) : Prop where
  mc : MkC K mg x C fI
  fn : FnOk P w K mg base CX0 k fI fd ps sp
  bd : Binds K fd ps []
def tErr (C : Addr) (sp : Sp) (t : TA) : TE := fun σ H Q => t σ H fun vs H1 => vs.length ≤ 1000 ∧ mkErr C sp vs H1 Q
/-- the keywords' values in the parameters' order -/
structure KwB (fd : FuncData) (ps ks : List Str) (re : {α : Type} → List α → List α) : Prop where
  to : ∀ (s : Shared) (a : Addr) (ws : List Value), (Value.ref a :: re ws).length = ps.length → BindsTo s fd ⟨[.ref a], ks.zip ws⟩ (ps.zip (.ref a :: re ws))
  rel : ∀ {zs : List V} {ws : List Value}, Vals zs ws → Vals (re zs) (re ws)
def tErrK (C : Addr) (sp : Sp) (re : {α : Type} → List α → List α) (t : TA) : TE := fun σ H Q => t σ H fun vs H1 => mkErr C sp (re vs) H1 Q
section
variable {X : Cx} {k : Nat} {C fI : Addr} {fd : FuncData} {ps ks : List Str} {sp : Sp} {x : Str} {p pos : Pos} {e : Expr} {es : List Expr} {t : TA} {kws : List Keyword} {re : {α : Type} → List α → List α}
theorem len_ok {vs : List V} {us : List Value} (r : Vals vs us) (h : vs.length ≤ 1000) : us.length ≤ sizeLine := by
  rw [← Paired.length r, sizeLine_eq]
  omega
theorem pe_err (T : OkC X.prog X.w X.K X.mg X.base k x C fI fd ps sp) (hr : Room (k + 1) X.A) (hg : Gl X x) (ha : PA X (e :: es) t)
    (hdb : (x == ("__debug__" : Str)) = false := by decide) (he : starEach (e :: es) X.env = (false, eval e X.env) :: starEach es X.env := by rfl) (hpl : (backTo pos (starEach es X.env)).any (·.1) = false := by rfl) :
    PE X (.Call (.Name x p) (e :: es) [] pos) (tErr C sp t) := by
  refine ⟨fun pins s σ H Q I h => ?_⟩
  refine wpAny_Call_Name_kw (ld_glob I hg T.mc.m ?_ hdb)
  refine PySem.W.callWith_K (h₀ := X.base) I.ok.mod.kin T.mc.o.kC (thn (ha.run pos pins s σ H _ I h) fun us s1 ⟨vs, H1, I1, r1, hz, q1⟩ => ⟨I1.kIn, ?_⟩) he hpl
  exact run_err (us' := fun a => .ref a :: us) T.mc T.fn hr pass0 I1 (len_ok r1 hz) (fun s a hk hl => by simpa using T.bd s (.ref a :: us) hk (by simpa using hl)) (fun a => .cons rfl r1) q1
theorem pe_err0 (T : OkC X.prog X.w X.K X.mg X.base k x C fI fd ps sp) (hr : Room (k + 1) X.A) (hg : Gl X x) (hdb : (x == ("__debug__" : Str)) = false := by decide) :
    PE X (.Call (.Name x p) [] [] pos) (tErr C sp tNil) := by
  refine ⟨fun pins s σ H Q I h => ?_⟩
  refine wpAny_Call_Name_kw (ld_glob I hg T.mc.m ?_ hdb)
  obtain ⟨hz, q1⟩ := h
  refine PySem.W.callWith_K0 I.kIn T.mc.o.kC ?_
  exact run_err (us := []) (us' := fun a => [.ref a]) T.mc T.fn hr pass0 I (by simp) (fun s a hk hl => by simpa using T.bd s [.ref a] hk (by simpa using hl)) (fun a => .cons rfl .nil) q1
theorem pe_errK (T : OkC X.prog X.w X.K X.mg X.base k x C fI fd ps sp) (B : KwB fd ps ks re) (hr : Room (k + 1) X.A) (hg : Gl X x) (hkw : PK X kws t)
    (hall : (backToKw pos (keywordEach kws X.env)).all (·.1.isSome) = true := by rfl) (hks : (backToKw pos (keywordEach kws X.env)).filterMap (·.1) = ks := by rfl)
    (hdb : (x == ("__debug__" : Str)) = false := by decide) (hpl : ((backTo pos (starEach [] X.env)).any (·.1) || (backToKw pos (keywordEach kws X.env)).any (·.1.isNone)) = false := by rfl) :
    PE X (.Call (.Name x p) [] kws pos) (tErrK C sp re t) := by
  refine ⟨fun pins s σ H Q I h => ?_⟩
  refine wpAny_Call_Name_kw (ld_glob I hg T.mc.m ?_ hdb)
  refine PySem.W.callWith_KW0 (h₀ := X.base) I.ok.mod.kin T.mc.o.kC hall (thn (hkw.run pos pins s σ H _ I h) fun ws s2 ⟨zs, H2, I2, rz, q2⟩ => ⟨I2.kIn, ?_⟩) hpl
  rw [hks]
  exact run_err (us := []) (kw := ks.zip ws) (us' := fun a => .ref a :: re ws) T.mc T.fn hr pass0 I2 (by simp) (fun s a hk hl => B.to s a ws hl) (fun a => .cons rfl (B.rel rz)) q2
end
section
variable {K : PySem.W.Frag} {σ : St} {H : Hp} {Q : VK} {D : Ends}
theorem s_err {C : Addr} {sp : Sp} {t : TA} (h : t σ H fun vs H1 => vs.length ≤ 1000 ∧ mkErr C sp vs H1 Q) : tErr C sp t σ H Q := h
theorem s_errK {C : Addr} {sp : Sp} {re : {α : Type} → List α → List α} {t : TA} (h : t σ H fun vs H1 => mkErr C sp (re vs) H1 Q) : tErrK C sp re t σ H Q := h
theorem s_small {vs : List V} {R : Prop} (z : vs.length ≤ 1000) (h : R) : vs.length ≤ 1000 ∧ R := ⟨z, h⟩
theorem s_errF {f : Str} {te : TE} (h : te σ H fun x H1 => ∃ (a C d : Addr) (fs : List (Str × V)) (v : V), x = .ref a ∧ Err H1 a C d fs ∧ ExcC K C ∧ PySem.W.findIn K (.ref C) f = some none ∧ fs.lookup f = some v ∧ Q v H1) : tErrF K f te σ H Q := h
theorem s_field {f : Str} {a C d : Addr} {fs : List (Str × V)} {v : V} {R : V → Prop} (e : Err H a C d fs) (t : ExcC K C) (n : PySem.W.findIn K (.ref C) f = some none) (l : fs.lookup f = some v) (h : R v) :
    ∃ (b C d : Addr) (fs : List (Str × V)) (v : V), V.ref a = .ref b ∧ Err H b C d fs ∧ ExcC K C ∧ PySem.W.findIn K (.ref C) f = some none ∧ fs.lookup f = some v ∧ R v := ⟨a, C, d, fs, v, rfl, e, t, n, l, h⟩
theorem s_isErr {a D : Addr} {c : V} {cv : Value} {b : Bool} (e : IsErr H a D) (t : ExcC K D) (k : ClsV c cv) (o : PySem.W.kitOne K (.ref D) cv = some b) (h : Q (.bl b) H) : rIs K [.ref a, c] H Q := .inr ⟨a, D, c, cv, b, rfl, e, t, k, o, h⟩
end

/-! ### the promises of __init__ -/
/-- one field -/
def spErr1 (C : Addr) (f : Str) : Sp := fun vs H Q _ => ∃ (a : Addr) (v : V), vs = [.ref a, v] ∧ H a = some (exo a C none) ∧ ∀ d H', H d = none → d ≠ a → H' = upd (upd H d (exd d [(f, v)])) a (exo a C (some d)) → Q .non H'
/-- two fields -/
def spErr2 (C : Addr) (f g : Str) : Sp := fun vs H Q _ => ∃ (a : Addr) (v u : V), vs = [.ref a, v, u] ∧ H a = some (exo a C none) ∧ ∀ d H', H d = none → d ≠ a → H' = upd (upd H d (exd d [(g, u), (f, v)])) a (exo a C (some d)) → Q .non H'
/-- no field -/
def spErr0 (C : Addr) : Sp := fun vs H Q _ => ∃ a : Addr, vs = [.ref a] ∧ H a = some (exo a C none) ∧ Q .non H
/-- a list at l of lists at ps, which hold xss -/
structure LL (H : Hp) (l : Addr) (ps : List Addr) (xss : List (List V)) : Prop where
  top : H l = some (.lst (ps.map V.ref))
  all : Paired (fun p xs => H p = some (.lst xs)) ps xss
/-- a moment and copies of lists -/
def spErrL (C : Addr) : Sp := fun vs H Q _ => ∃ (a l : Addr) (m : V) (ps : List Addr) (xss : List (List V)), vs = [.ref a, m, .ref l] ∧ H a = some (exo a C none) ∧ LL H l ps xss ∧ ps.length ≤ 1000 ∧
  ∀ d L qs H', H d = none → d ≠ a → H L = none → L ≠ a → L ≠ d → (∀ q ∈ qs, H q = none ∧ q ≠ a ∧ q ≠ d ∧ q ≠ L) → qs.Nodup → H' a = some (exo a C (some d)) → H' d = some (exd d [("sets", .ref L), ("moment", m)]) → LL H' L qs xss → But [a] H H' → Q .non H'
theorem made1 {C : Addr} {f : Str} {v : V} {H : Hp} {Q : VK} (h : ∀ a d H', Same H H' → H a = none → H d = none → Err H' a C d [(f, v)] → Q (.ref a) H') : mkErr C (spErr1 C f) [v] H Q := fun a ha =>
  ⟨a, v, rfl, upd_same, fun d H' hd hne e => ⟨rfl, by
    subst e
    have hd' : H d = none := by rw [upd_ne hne] at hd; exact hd
    refine h a d _ (fun b o q => ?_) ha hd' ⟨upd_same, ?_⟩
    · rw [upd_ne (ne_of_none q ha), upd_ne (ne_of_none q hd'), upd_ne (ne_of_none q ha)]; exact q
    · rw [upd_ne hne, upd_same]⟩⟩
theorem made2 {C : Addr} {f g : Str} {v u : V} {H : Hp} {Q : VK} (h : ∀ a d H', Same H H' → H a = none → H d = none → Err H' a C d [(g, u), (f, v)] → Q (.ref a) H') : mkErr C (spErr2 C f g) [v, u] H Q := fun a ha =>
  ⟨a, v, u, rfl, upd_same, fun d H' hd hne e => ⟨rfl, by
    subst e
    have hd' : H d = none := by rw [upd_ne hne] at hd; exact hd
    refine h a d _ (fun b o q => ?_) ha hd' ⟨upd_same, ?_⟩
    · rw [upd_ne (ne_of_none q ha), upd_ne (ne_of_none q hd'), upd_ne (ne_of_none q ha)]; exact q
    · rw [upd_ne hne, upd_same]⟩⟩
theorem made0 {C : Addr} {H : Hp} {Q : VK} (h : ∀ a H', Same H H' → H a = none → Err0 H' a C → Q (.ref a) H') : mkErr C (spErr0 C) [] H Q := fun a ha =>
  ⟨a, rfl, upd_same, rfl, h a _ (fun b o q => by rw [upd_ne (ne_of_none q ha)]; exact q) ha ⟨upd_same⟩⟩
theorem LL.mono {H H' : Hp} {l : Addr} {ps : List Addr} {xss : List (List V)} (k : ∀ b, b = l ∨ b ∈ ps → ∀ o, H b = some o → H' b = some o) (e : LL H l ps xss) : LL H' l ps xss := by
  refine ⟨k l (.inl rfl) _ e.top, ?_⟩
  have go : ∀ {qs : List Addr} {yss : List (List V)}, Paired (fun p xs => H p = some (.lst xs)) qs yss → (∀ b ∈ qs, b ∈ ps) → Paired (fun p xs => H' p = some (.lst xs)) qs yss := by
    intro qs yss r
    induction r with
    | nil => intro _; exact .nil
    | cons r1 _ ih => intro hs; exact .cons (k _ (.inr (hs _ List.mem_cons_self)) _ r1) (ih fun b hb => hs b (List.mem_cons_of_mem _ hb))
  exact go e.all fun _ h => h
theorem LL.same {H H' : Hp} {l : Addr} {ps : List Addr} {xss : List (List V)} (s : Same H H') (e : LL H l ps xss) : LL H' l ps xss := e.mono fun b _ o q => s b o q
theorem madeL {C l : Addr} {m : V} {ps : List Addr} {xss : List (List V)} {H : Hp} {Q : VK} (e : LL H l ps xss) (z : ps.length ≤ 1000)
    (h : ∀ a d L qs H', Same H H' → H a = none → H d = none → H L = none → (∀ q ∈ qs, H q = none ∧ q ≠ L) → qs.Nodup → Err H' a C d [("sets", .ref L), ("moment", m)] → LL H' L qs xss → Q (.ref a) H') : mkErr C (spErrL C) [m, .ref l] H Q := fun a ha => by
  have s1 : Same H (upd H a (exo a C none)) := fun b o q => by rw [upd_ne (ne_of_none q ha)]; exact q
  refine ⟨a, l, m, ps, xss, rfl, upd_same, e.same s1, z, fun d L qs H' hd hda hL hLa hLd hq nd ea ed eL bt => ⟨rfl, ?_⟩⟩
  have back : ∀ {b : Addr}, upd H a (exo a C none) b = none → H b = none := fun {b} q => s1.free q
  refine h a d L qs H' (fun b o q => bt b o (by simpa using ne_of_none q ha) (s1 b o q)) ha (back hd) (back hL) (fun q hm => ⟨back (hq q hm).1, (hq q hm).2.2.2⟩) nd ⟨ea, ed⟩ eL

/-! ### repr -/
section
variable {X : Cx}
def rRepr (K : PySem.W.Frag) : List V → Hp → VK → Prop := fun xs H Q => ∃ (a : Addr) (d : PyData), xs = [.ref a] ∧ Dp K H (.ref a) d ∧ d.showable = true ∧ d.hasDict = false ∧ d.depth ≤ 60 ∧ d.shown.length ≤ sizeLine ∧ Q (.str d.shown) H
theorem call_repr (hg : X.A.guards = some []) (hu : X.A.units + 64 < cLine) : CallR X (.builtin "repr") (rRepr X.K) := by
  intro pins s σ H xs us Q I r h
  obtain ⟨a, d, rfl, dp, h1, h2, h3, h4, q⟩ := h
  have e := r.ref1
  subst e
  obtain ⟨as, rd⟩ := Dp.reads I d _ (.ref a) dp rfl
  refine repr_of_reads' rd h1 (fun z => by rw [h2] at z; cases z) hg (by omega) (fun _ _ z => z) (fun h' u tk k => ?_) h4
  exact ⟨.str d.shown, H, I.kept (t' := tk) k, ⟨u, rfl⟩, q⟩
end
section
variable {K : PySem.W.Frag} {H : Hp} {Q : VK}
theorem s_repr {a : Addr} {d : PyData} (dp : Dp K H (.ref a) d) (h1 : d.showable = true) (h2 : d.hasDict = false) (h3 : d.depth ≤ 60) (h4 : d.shown.length ≤ sizeLine) (h : Q (.str d.shown) H) : rRepr K [.ref a] H Q := ⟨a, d, rfl, dp, h1, h2, h3, h4, h⟩
end

/-! ### loops -/
def kFor (J : It) (g : TG) (tb : TS) (D : Ends) (σ : St) (H1 : Hp) : Prop := ∃ W : Nat → Nat → St → Hp → Prop, (∃ m, W 0 m σ H1) ∧ ∀ i m σ H, W i m σ H →
  (J.stop i H ∧ D.nx σ H) ∨ (J.go i H ∧ ∃ N : St → Hp → Prop, (∀ σ' H', N σ' H' → ∃ m', m' < m ∧ W (i + 1) m' σ' H') ∧ ∀ x H', J.yld i H x H' → g x σ H' fun σ2 H2 => tb { D with nx := N, ct := N, bk := D.nx } σ2 H2)
section
variable {K : PySem.W.Frag} {σ : St} {H : Hp} {D : Ends} {g : TG} {tb : TS}
theorem s_for {wi : TI} (h : wi σ H fun J H1 => kFor J g tb D σ H1) : tFor wi g tb D σ H := h
theorem s_iList {tl : TE} {R : It → Hp → Prop} (h : tl σ H fun x H1 => ∃ a, x = .ref a ∧ (∃ xs, SqL K H1 a xs) ∧ R (Itl K a) H1) : iList K tl σ H R := h
theorem s_itL {a : Addr} {xs : List V} {R : Addr → Prop} (e : SqL K H a xs) (h : R a) : ∃ b, V.ref a = .ref b ∧ (∃ xs, SqL K H b xs) ∧ R b := ⟨a, rfl, ⟨xs, e⟩, h⟩
theorem s_iRng1 {ta : TA} {R : It → Hp → Prop} (h : ta σ H fun vs H1 => ∃ j : Int, vs = [.int j] ∧ -(2 ^ 62) ≤ j ∧ j < 2 ^ 62 ∧ R (Itr 0 j.toNat) H1) : iRng1 ta σ H R := h
theorem s_itR1 {j : Int} {R : Int → Prop} (h1 : -(2 ^ 62) ≤ j) (h2 : j < 2 ^ 62) (h : R j) : ∃ i : Int, [V.int j] = [.int i] ∧ -(2 ^ 62) ≤ i ∧ i < 2 ^ 62 ∧ R i := ⟨j, rfl, h1, h2, h⟩
theorem s_iRng2 {ta : TA} {R : It → Hp → Prop} (h : ta σ H fun vs H1 => ∃ i j : Int, vs = [.int i, .int j] ∧ (-(2 ^ 62) ≤ i ∧ i < 2 ^ 62 ∧ -(2 ^ 62) ≤ j ∧ j < 2 ^ 62) ∧ R (Itr i (j - i).toNat) H1) : iRng2 ta σ H R := h
/-- over a list that stands still -/
theorem for_l {a : Addr} {xs : List V} (Pv : Nat → St → Hp → Prop) (h0 : Pv 0 σ H) (hl : ∀ i σ H, Pv i σ H → SqL K H a xs)
    (hs : ∀ i x σ H, xs[i]? = some x → Pv i σ H → g x σ H fun σ2 H2 => tb { D with nx := Pv (i + 1), ct := Pv (i + 1), bk := D.nx } σ2 H2) (hd : ∀ σ H, Pv xs.length σ H → D.nx σ H) : kFor (Itl K a) g tb D σ H :=
  for_list Pv h0 (fun i σ H _ => hl i σ H) hs hd
theorem for_r {lo : Int} {n : Nat} (Pv : Nat → St → Hp → Prop) (h0 : Pv 0 σ H)
    (hs : ∀ i σ H, i < n → Pv i σ H → g (.int (lo + i)) σ H fun σ2 H2 => tb { D with nx := Pv (i + 1), ct := Pv (i + 1), bk := D.nx } σ2 H2) (hd : ∀ σ H, Pv n σ H → D.nx σ H) : kFor (Itr lo n) g tb D σ H :=
  for_range Pv h0 hs hd
end
/-! ### comprehensions -/
def kLc (J : It) (g : TG) (tt : TT) (te : TE) (vs : List Nat) (σ : St) (H1 : Hp) (Q : VK) : Prop := ∀ D, H1 D = none → ∃ W : Nat → Nat → Hp → Prop, (∃ m, W 0 m (upd H1 D (.lst []))) ∧ ∀ i m H, W i m H →
  (J.stop i H ∧ Q (.ref D) H) ∨ (J.go i H ∧ ∃ Nx : Hp → Prop, (∀ H', Nx H' → ∃ m', m' < m ∧ W (i + 1) m' H') ∧ ∀ x H', J.yld i H x H' → g x (wipe σ vs) H' fun σ2 H2 => wipe σ2 vs = wipe σ vs ∧ tt σ2 H2 fun b H3 =>
    if b = true then te σ2 H3 fun y H4 => ∃ acc, H4 D = some (.lst acc) ∧ acc.length < sizeLine ∧ Nx (upd H4 D (.lst (acc ++ [y]))) else Nx H3)
/-- the end of an element: y is appended to the list at D -/
def kApp (D : Addr) (y : V) (H4 : Hp) (N : List V → Hp → Prop) : Prop := ∃ acc, H4 D = some (.lst acc) ∧ acc.length < sizeLine ∧ N (acc ++ [y]) (upd H4 D (.lst (acc ++ [y])))
section
variable {K : PySem.W.Frag} {σ : St} {H : Hp} {g : TG} {tt : TT} {te : TE} {vs : List Nat} {Q : VK}
theorem s_lc {wi : TI} (h : wi σ H fun J H1 => kLc J g tt te vs σ H1 Q) : tLc wi g tt te vs σ H Q := h
theorem s_kApp {D : Addr} {y : V} {N : List V → Hp → Prop} {acc : List V} (e : H D = some (.lst acc)) (z : acc.length < sizeLine) (h : ∀ H', Put H H' D (.lst (acc ++ [y])) → N (acc ++ [y]) H') : kApp D y H N := ⟨acc, e, z, h _ ⟨rfl⟩⟩
theorem s_kIf {b : Bool} {D : Addr} {σ2 : St} {H3 : Hp} {Nx : Hp → Prop} (h : if b = true then te σ2 H3 fun y H4 => kApp D y H4 fun _ H5 => Nx H5 else Nx H3) :
    if b = true then te σ2 H3 fun y H4 => ∃ acc, H4 D = some (.lst acc) ∧ acc.length < sizeLine ∧ Nx (upd H4 D (.lst (acc ++ [y]))) else Nx H3 := h
/-- over a list that stands still: Pv says what stands at the turn's start, the new list within -/
theorem lc_l {a : Addr} {xs : List V} (Pv : Addr → Nat → Hp → Prop) (h0 : ∀ D H', New H H' D (.lst []) → Pv D 0 H') (hl : ∀ D i H, Pv D i H → SqL K H a xs)
    (hs : ∀ D i x H1, xs[i]? = some x → H D = none → Pv D i H1 → g x (wipe σ vs) H1 fun σ2 H2 => wipe σ2 vs = wipe σ vs ∧ tt σ2 H2 fun b H3 => if b = true then te σ2 H3 fun y H4 => kApp D y H4 fun _ H5 => Pv D (i + 1) H5 else Pv D (i + 1) H3)
    (hd : ∀ D H1, H D = none → Pv D xs.length H1 → Q (.ref D) H1) : kLc (Itl K a) g tt te vs σ H Q := fun D hD =>
  lc_list (Pv D) (h0 D _ ⟨hD, rfl⟩) (fun i H _ => hl D i H) (fun i x H1 hx hp => hs D i x H1 hx hD hp) (fun H1 hp => hd D H1 hD hp)
theorem lc_r {lo : Int} {n : Nat} (Pv : Addr → Nat → Hp → Prop) (h0 : ∀ D H', New H H' D (.lst []) → Pv D 0 H')
    (hs : ∀ D (i : Nat) H1, i < n → H D = none → Pv D i H1 → g (.int (lo + i)) (wipe σ vs) H1 fun σ2 H2 => wipe σ2 vs = wipe σ vs ∧ tt σ2 H2 fun b H3 => if b = true then te σ2 H3 fun y H4 => kApp D y H4 fun _ H5 => Pv D (i + 1) H5 else Pv D (i + 1) H3)
    (hd : ∀ D H1, H D = none → Pv D n H1 → Q (.ref D) H1) : kLc (Itr lo n) g tt te vs σ H Q := fun D hD =>
  lc_range (Pv D) (h0 D _ ⟨hD, rfl⟩) (fun i H1 hx hp => hs D i H1 hx hD hp) (fun H1 hp => hd D H1 hD hp)
theorem s_yes {R : Bool → Hp → Prop} (h : R true H) : tYes σ H R := h
theorem s_wipe {A B : St} {R : Prop} (e : A = B) (h : R) : A = B ∧ R := ⟨e, h⟩
/-! the def of an error: the base's __init__, then stores -/
theorem s_vei {ta : TA} (h : ta σ H fun vs H1 => ∃ (a C : Addr) (ws : List V), vs = .ref a :: ws ∧ ws.length ≤ 1000 ∧ OexC K C ∧ H1 a = some (exo a C none) ∧ Q .non H1) : tVeI K ta σ H Q := h
theorem s_veq {a C : Addr} {ws : List V} {R : Prop} (z : ws.length ≤ 1000) (t : OexC K C) (e : H a = some (exo a C none)) (h : R) :
    ∃ (b C : Addr) (us : List V), (V.ref a :: ws) = .ref b :: us ∧ us.length ≤ 1000 ∧ OexC K C ∧ H b = some (exo b C none) ∧ R := ⟨a, C, ws, rfl, z, t, e, h⟩
end
section
variable {K : PySem.W.Frag} {σ : St} {H : Hp} {D : Ends}
def kOst (K : PySem.W.Frag) (f : Str) (x y : V) (D : Ends) (σ : St) (H2 : Hp) : Prop := ∃ a C : Addr, x = .ref a ∧ OexC K C ∧ PySem.W.findIn K (.ref C) f = some none ∧
  ((H2 a = some (exo a C none) ∧ ∀ dx, H2 dx = none → dx ≠ a → D.nx σ (upd (upd H2 dx (exd dx [(f, y)])) a (exo a C (some dx)))) ∨
    ∃ (dx : Addr) (fs : List (Str × V)), H2 a = some (exo a C (some dx)) ∧ H2 dx = some (exd dx fs) ∧ fs.length ≤ 900 ∧ D.nx σ (upd H2 dx (exd dx ((f, y) :: fs))))
theorem s_ost {f : Str} {to te : TE} (h : te σ H fun y H1 => to σ H1 fun x H2 => kOst K f x y D σ H2) : tOst K f to te D σ H := h
theorem s_ost1 {f : Str} {a C : Addr} {y : V} (t : OexC K C) (n : PySem.W.findIn K (.ref C) f = some none) (e : H a = some (exo a C none)) (h : ∀ dx H', H dx = none → dx ≠ a → H' = upd (upd H dx (exd dx [(f, y)])) a (exo a C (some dx)) → D.nx σ H') :
    kOst K f (.ref a) y D σ H := ⟨a, C, rfl, t, n, .inl ⟨e, fun dx h1 h2 => h dx _ h1 h2 rfl⟩⟩
theorem s_ost2 {f : Str} {a C dx : Addr} {y : V} {fs : List (Str × V)} (t : OexC K C) (n : PySem.W.findIn K (.ref C) f = some none) (e : H a = some (exo a C (some dx))) (ed : H dx = some (exd dx fs)) (z : fs.length ≤ 900)
    (h : ∀ H', Put H H' dx (exd dx ((f, y) :: fs)) → D.nx σ H') : kOst K f (.ref a) y D σ H := ⟨a, C, rfl, t, n, .inr ⟨dx, fs, e, ed, z, h _ ⟨rfl⟩⟩⟩
end
end Sx

/-! Sx4: the law's own def run at one surrounding: what the surrounding is, is known there (no text is in the making). -/
namespace Sx
open PySem PySem.Spec PyProof.Rows L2
/-- a def's promise at one surrounding -/
def At (P : Program) (w : World) (K : PySem.W.Frag) (mg : Str → Option Value) (base : Heap) (A : Around) (f : Addr) (fd : FuncData) (ps : List Str) (sp : Sp) : Prop :=
  ∀ (outer : List Env) (s : Shared) (H : Hp) (args : Args) (us : List Value) (vs : List V) (Q : VK) (E : XK), Env0 P w K mg base A outer s H → BindsTo s fd args (ps.zip us) → Vals vs us → sp vs H Q E →
    codeAny (model P w) A (.call (.ref f) args) (CR CX0 outer P w H s Q E) s
theorem at_of {P : Program} {w : World} {K : PySem.W.Frag} {mg : Str → Option Value} {base : Heap} {k : Nat} {f : Addr} {x qual : Str} {st : Stmt} {fd : FuncData} {N ps : List Str} {sp : Sp} {A : Around} (hA : Room (k + 1) A)
    (F : Fun K x qual st f fd) (S : FnScope N ps (defScope st)) (len : ∀ vs H Q E, sp vs H Q E → vs.length = ps.length)
    (body : ∀ (cdv : Value) (outer : List Env) (s : Shared) (H : Hp) (vs : List V) (Q : VK) (E : XK), Room k (A.deeper (envOfC qual (defScope st) s.heap.objs.size f cdv)) → sp vs H Q E →
      ∃ t, PSs (cxOf CX0 P w K mg base N qual (defScope st) f cdv A outer s H E).nox (defBody st) t ∧ t { nx := fun _ H' => Q .non H', rt := Q } (start N vs) H) :
    At P w K mg base A f fd ps sp := by
  obtain ⟨oc, od, kV, doc, pm, an, cdv, ct, osl, rfl, lk, hcd⟩ := F.ex
  intro outer s H args us vs Q E e0 hb r hsp
  have hl := len _ _ _ _ hsp
  have KX : K.In s.heap := e0.mod.kin.keeps fun b o e => (e0.bs b o e).1
  have lim : s.heap.NoLimit := e0.mod.nolimit.keeps fun b o e => (e0.bs b o e).1
  have kinds : ∀ y ∈ ps.zip us, (defScope st).names.lookup y.1 = some .local ∨ ((defScope st).names.lookup y.1 = some .cell ∧ ((cellsFrom (s.heap.objs.size + 1) (defScope st).names []).lookup y.1).isSome = true) := fun ⟨n, v⟩ hy =>
    (S.par n (List.of_mem_zip hy).1).elim .inl fun q => .inr ⟨q, PySem.W.cellsFrom_some _ _ _ (.inl q)⟩
  refine codeAny_call_function hA.depth (KX _ _ lk) rfl S.co S.gen rfl (PySem.W.codeRec_of KX hcd) (hb _ _ _ _ ?_)
  refine wpAny_newFunctionEnv_cells S.kind kinds fun env he s1 y => ?_
  subst he
  refine ⟨lim.keeps y.toInCall.keep, codeAny_func ?_⟩
  obtain ⟨t, ht, hq⟩ := body cdv outer s H vs Q E (hA.deeper _) hsp
  have I := inv_start (CX := CX0) (E := E) (f := f) (qual := qual) (cd := cdv) S hA.hd e0 hl r y
  refine wpAny_mono (ht.nox.run [] s1 (start N vs) H _ I hq) (fun fl s' hs => ?_) fun e s' hs => hs
  cases fl with
  | ret u =>
    obtain ⟨v, σ', H', J, rv, q⟩ := hs
    exact ⟨v, H', J.os, J.bare, J.base, J.hok, rv, q⟩
  | next =>
    obtain ⟨σ', H', J, q⟩ := hs
    exact ⟨V.non, H', J.os, J.bare, J.base, J.hok, rfl, q⟩
  | brk => obtain ⟨_, _, _, q⟩ := hs; exact q.elim
  | cont => obtain ⟨_, _, _, q⟩ := hs; exact q.elim
/-- the law's call -/
theorem law_at {P : Program} {w : World} {K : PySem.W.Frag} {mg mb : Str → Option Value} {fa a : Addr} {fd : FuncData} {x : Str} {sp : Sp} {s₁ : Shared} {vs : List Value} {ns : List Int}
    (KX : K.In s₁.heap) (hns : s₁.heap.Ns mainGlobals mg) (hb : s₁.heap.Ns builtinsNs mb) (hbb : ∀ x : Str, x ≠ "__name__" → mb x = bootBuiltins x) (hlim : s₁.heap.NoLimit) (hg : s₁.gens = #[])
    (ha : s₁.heap.get? a = some { cls := .type "list", data := .seq vs.toArray }) (hi : IntsAre vs ns) (hl : ns.length ≤ sizeLine)
    (F : ∀ base : Heap, K.In base → base.Ns mainGlobals mg → At P w K mg base callerA fa fd [x] sp) (hbind : ∀ (s : Shared) (u : Value), BindsTo s fd ⟨[u], []⟩ [(x, u)])
    (hsp : ∀ H : Hp, Only H → SqL K H a (ns.map V.int) → sp [.ref a] H (fun v _ => v = .bl true) fun _ _ _ => False) :
    codeAny (model P w) callerA (.call (.ref fa) ⟨[.ref a], []⟩) (fun r s' => r = .ok (.ret (.bool true)) ∧ OldK s₁.heap s'.heap ∧ s'.os = s₁.os ∧ AllBare s'.gens) s₁ := by
  have rv := vals_ints hi
  have go : ∀ H : Hp, Only H → SqL K H a (ns.map V.int) → HOk P w H s₁.heap → (∀ b, H b ≠ none → b = a) → (H a ≠ none → K.lookup a = none) →
      codeAny (model P w) callerA (.call (.ref fa) ⟨[.ref a], []⟩) (fun r s' => r = .ok (.ret (.bool true)) ∧ OldK s₁.heap s'.heap ∧ s'.os = s₁.os ∧ AllBare s'.gens) s₁ := fun H hO hS hok hA hK => by
    have free : ∀ {b : Addr} {o : Obj} {es : Array DictEntry} {ep : Nat}, s₁.heap.get? b = some o → o.data = .dict es ep → H b = none := fun {b o es ep} e d => by
      cases q : H b with
      | none => rfl
      | some u =>
        obtain rfl := hA b (by rw [q]; simp)
        rw [ha] at e; cases e
        exact nomatch (show Data.seq vs.toArray _ = Data.dict es ep from d)
    have kept : ∀ {b : Addr} {m : Str → Option Value}, s₁.heap.Ns b m → (hidT s₁.heap H).Ns b m := fun {b m} ⟨o, es, ep, e, d, r⟩ => ⟨o, es, ep, hidT_get e (free e d), d, r⟩
    have hKb : K.In (hidT s₁.heap H) := fun b o e => hidT_get (KX b o e) (by
      cases q : H b with
      | none => rfl
      | some u =>
        obtain rfl := hA b (by rw [q]; simp)
        rw [hK (by rw [q]; simp)] at e; cases e)
    have e0 : Env0 P w K mg (hidT s₁.heap H) callerA [] s₁ H :=
      ⟨rfl, ⟨hKb, kept hns, ⟨mb, kept hb, hbb⟩, let ⟨mc, h1, h2⟩ := hlim; ⟨mc, kept h1, h2⟩⟩, fun b o e => of_hidT e, Nat.le_of_eq (hidT_size _ _), trivial, fun b hb => absurd (show b ∈ ([] : List Addr) from hb) (by simp), hok, .of_eq hg⟩
    refine codeAny_mono (F _ hKb (kept hns) [] s₁ H ⟨[.ref a], []⟩ [.ref a] [.ref a] _ _ e0 (hbind s₁ (.ref a)) (.cons rfl .nil) (hsp H hO hS)) fun r s' h => ?_
    cases r with
    | error e => exact False.elim h
    | ok fl =>
      cases fl with
      | next => exact False.elim h
      | brk => exact False.elim h
      | cont => exact False.elim h
      | ret u =>
        obtain ⟨v, H', os, bare, un, hok', r', q⟩ := h
        obtain rfl : v = .bl true := q
        obtain rfl : u = Value.bool true := r'
        refine ⟨rfl, OldK.of_keep fun b o e => ?_, os, bare⟩
        rcases hO b with z | ⟨ob, xs, z⟩
        · exact un.keep b o e z (fun q => absurd (show b ∈ ([] : List Addr) from q) (by simp)) (by simp)
        · obtain ⟨e1, _⟩ := hok b _ z
          obtain ⟨e2, _⟩ := hok' b _ (un.frzs b ob _ z)
          rw [e] at e1; cases e1
          exact e2
  cases hk : K.lookup a with
  | some o =>
    have e := KX a o hk
    rw [ha] at e
    cases e
    exact go (fun _ => none) (fun _ => .inl rfl) (.inr ⟨_, vs.toArray, _, hk, rfl, rfl, rfl, by rw [List.size_toArray, hi.length]; exact hl, by simpa using rv⟩) (fun b u z => nomatch (show (none : Option HO) = some u from z)) (fun b z => absurd rfl z) fun z => absurd rfl z
  | none =>
    refine go (fun b => if b = a then some (.frz { cls := .type "list", data := .seq vs.toArray } (.lst (ns.map V.int))) else none) (fun b => ?_) (.inl (.inr ⟨{ cls := .type "list", data := .seq vs.toArray }, if_pos rfl⟩)) (fun b u z => ?_) (fun b z => ?_) fun _ => hk
    all_goals by_cases hb : b = a
    · exact .inr ⟨_, _, if_pos hb⟩
    · exact .inl (if_neg hb)
    · cases (if_pos hb).symm.trans z
      subst hb
      exact ⟨ha, by rw [List.length_map]; exact hl, vs, _, rv, ha⟩
    · cases (if_neg hb).symm.trans z
    · exact hb
    · exact absurd (if_neg hb) z
theorem walk_at {l : PySem.W.OpenLaw} {n : Nat} {q : Program} {loose : List Str} {XP : (Str → Option Value) → Heap → Prop} {YP : World → Heap → Prop} {d : DefRec} {K : Params → PySem.W.Frag} {sp : PySem.W.Frag → Sp} {x : Str}
    (hn : l.most = some n) (hn2 : n ≤ sizeLine) (hdf : d.params.defaults = []) (hY : ∀ (w : World) (h : Heap), YP w h → (K w.params).In h)
    (F : ∀ (w : World) (mg : Str → Option Value) (fa : Addr) (h : Heap), (K w.params).In h → h.Ns mainGlobals mg → mg d.name = some (.ref fa) →
      ∃ fd : FuncData, (∀ (s : Shared) (u : Value), BindsTo s fd ⟨[u], []⟩ [(x, u)]) ∧
        ∀ base : Heap, (K w.params).In base → base.Ns mainGlobals mg → At l.prog w (K w.params) mg base callerA fa fd [x] (sp (K w.params)))
    (hsp : ∀ (K' : PySem.W.Frag) (H : Hp) (a : Addr) (ns : List Int), ns.length ≤ n → Only H → SqL K' H a (ns.map V.int) → sp K' [.ref a] H (fun v _ => v = .bl true) fun _ _ _ => False) :
    PySem.W.WalkO q loose XP YP l.row.toRowW d [] (fun f vs => PySem.call f vs) := by
  refine Att.attach_call hn hdf fun w s₀ s₁ mg mb fa o pm cd doc a vs ns G Y ho hd hcd hmg hobj hints hlen hg => ?_
  have KX := hY w _ Y
  obtain ⟨fd, hb, hF⟩ := F w mg fa _ KX G.T.g hmg
  exact law_at KX G.T.g G.T.b G.T.builtins G.T.nolimit hg hobj hints (Nat.le_trans hlen hn2) hF hb (fun H hO hS => hsp _ H a ns hlen hO hS)
end Sx

/-! Sx5: data of bounded size; what lists of lists hold as data. -/
namespace Sx
open PySem L2
/-- data that texts, comparisons take: of weight at most n, at most k deep -/
structure Good (n k : Nat) (d : PyData) : Prop where
  lay : d.canLay0 = true
  dep : d.depth ≤ k
  wt : d.weight ≤ n
  sh : d.showable = true
  lv : d.leavesShort 40 = true
structure GoodAll (n k : Nat) (ds : List PyData) : Prop where
  lay : PyData.canLayAll0 ds = true
  dep : PyData.depthAll ds ≤ k
  wt : PyData.weightAll ds ≤ n
  sh : PyData.showableAll ds = true
  lv : PyData.leavesShortAll 40 ds = true
theorem Good.none : Good 0 0 .none := ⟨rfl, Nat.le_refl _, Nat.le_refl _, rfl, rfl⟩
theorem Good.bool (b : Bool) : Good 0 0 (.bool b) := ⟨rfl, Nat.le_refl _, Nat.le_refl _, rfl, rfl⟩
theorem Good.int {i : Int} (h : i.natAbs < 10 ^ 38) : Good 200 0 (.int i) := by
  have hl : i.natAbs.log2 < 200 := by
    by_cases h0 : i.natAbs = 0
    · rw [h0]; decide
    · exact (Nat.log2_lt h0).mpr (Nat.lt_of_lt_of_le h (by decide))
  refine ⟨rfl, Nat.le_refl _, ?_, ?_, ?_⟩
  · simp only [PyData.weight]
    split <;> omega
  · simp only [PyData.showable, decide_eq_true_eq]
    omega
  · simp only [PyData.leavesShort, decide_eq_true_eq]
    have e := int_text_length_le10 (a := i) (k := 38) (by decide) h
    have z : (PyData.shown (.int i)).length = (toString i).length := by simp only [PyData.shown, ofString_length]
    omega
theorem Good.str {x : Str} (h1 : PyData.strOk x = true) (h2 : x.cps.toList.all (fun c => decide (c < 16 ^ 8)) = true) : Good x.cps.size 0 (.str x) := ⟨h1, Nat.le_refl _, Nat.le_refl _, rfl, h2⟩
theorem GoodAll.nil {k : Nat} : GoodAll 0 k [] := ⟨rfl, Nat.zero_le _, Nat.le_refl _, rfl, rfl⟩
theorem GoodAll.cons {n m k j i : Nat} {d : PyData} {ds : List PyData} (a : Good n j d) (b : GoodAll m i ds) (h1 : j ≤ k := by omega) (h2 : i ≤ k := by omega) : GoodAll (n + 1 + m) k (d :: ds) :=
  ⟨by simp [PyData.canLayAll0, a.lay, b.lay], by have := a.dep; have := b.dep; simp only [PyData.depthAll]; omega, by have := a.wt; have := b.wt; simp only [PyData.weightAll]; omega,
    by simp [PyData.showableAll, a.sh, b.sh], by simp [PyData.leavesShortAll, a.lv, b.lv]⟩
theorem GoodAll.map {α : Type} {n k : Nat} {f : α → PyData} : ∀ {xs : List α}, (∀ x ∈ xs, Good n k (f x)) → GoodAll (xs.length * (n + 1)) k (xs.map f)
  | [], _ => by simpa using GoodAll.nil
  | x :: xs, h => by
    have := GoodAll.cons (h x List.mem_cons_self) (GoodAll.map fun y hy => h y (List.mem_cons_of_mem _ hy)) (k := k)
    rw [List.length_cons, Nat.succ_mul, Nat.add_comm]
    exact this
theorem Good.list {n k : Nat} {ds : List PyData} (a : GoodAll n k ds) : Good n (k + 1) (.list ds) := ⟨a.lay, Nat.succ_le_succ a.dep, a.wt, a.sh, a.lv⟩
theorem Good.tuple {n k : Nat} {ds : List PyData} (a : GoodAll n k ds) : Good n (k + 1) (.tuple ds) := ⟨a.lay, Nat.succ_le_succ a.dep, a.wt, a.sh, a.lv⟩
theorem Good.mono {n m k j : Nat} {d : PyData} (a : Good n k d) (h : n ≤ m) (h' : k ≤ j) : Good m j d := ⟨a.lay, Nat.le_trans a.dep h', Nat.le_trans a.wt h, a.sh, a.lv⟩
section
variable {n k : Nat} {d : PyData}
theorem Good.shaped (a : Good n k d) (h : k ≤ 60) : SeqAt.shaped d = true := by
  unfold SeqAt.shaped
  rw [a.lay, Bool.true_and, decide_eq_true_eq]
  have := a.dep
  omega
theorem Good.noDict (a : Good n k d) : d.hasDict = false := PyData.hasDict_of_canLay d a.lay
theorem Good.fits (a : Good n k d) (h : n ≤ 300000) : d.shown.length ≤ sizeLine := by
  have e := PyData.shown_le 40 (by decide) d a.lv
  have w := a.wt
  have : (40 + 2) * d.weight ≤ 42 * 300000 := Nat.mul_le_mul (by decide) (by omega)
  rw [sizeLine_eq]
  omega
theorem Good.refl (a : Good n k d) : PyData.eqv d d = true := SeqAt.eqv_refl_plain d (PyData.plain_of_canLay0 d a.lay)
end
section
variable {K : PySem.W.Frag} {H H' : Hp} {Q : VK}
theorem s_reprG {a : Addr} {n k : Nat} {d : PyData} (dp : Dp K H (.ref a) d) (g : Good n k d) (hk : k ≤ 60) (hn : n ≤ 300000) (h : Q (.str d.shown) H) : rRepr K [.ref a] H Q :=
  s_repr dp g.sh g.noDict (Nat.le_trans g.dep hk) (g.fits hn) h
theorem s_eqG {x y : V} {n k m j : Nat} {d e : PyData} (h1 : Dp K H x d) (h2 : Dp K H y e) (g1 : Good n k d) (g2 : Good m j e) (hk : k ≤ 60) (hj : j ≤ 60) (h : Q (.bl (PyData.eqv d e)) H) : rSame K x y H Q := s_eqD h1 h2 (g1.shaped hk) (g2.shaped hj) h
theorem s_neG {x y : V} {n k m j : Nat} {d e : PyData} (h1 : Dp K H x d) (h2 : Dp K H y e) (g1 : Good n k d) (g2 : Good m j e) (hk : k ≤ 60) (hj : j ≤ 60) (h : Q (.bl (!PyData.eqv d e)) H) : rDiffer K x y H Q := s_neD h1 h2 (g1.shaped hk) (g2.shaped hj) h
/-- the same data on both sides -/
theorem s_neSame {x y : V} {n k : Nat} {d : PyData} (h1 : Dp K H x d) (h2 : Dp K H y d) (g : Good n k d) (hk : k ≤ 60) (h : Q (.bl false) H) : rDiffer K x y H Q := s_neG h1 h2 g g hk hk (by rw [g.refl]; exact h)
theorem s_eqSame {x y : V} {n k : Nat} {d : PyData} (h1 : Dp K H x d) (h2 : Dp K H y d) (g : Good n k d) (hk : k ≤ 60) (h : Q (.bl true) H) : rSame K x y H Q := s_eqG h1 h2 g g hk hk (by rw [g.refl]; exact h)
theorem DpAll.ints (ns : List Int) : DpAll K H (ns.map V.int) (ns.map PyData.int) := by
  induction ns with
  | nil => exact .nil
  | cons n ns ih => exact .cons (.int n) ih
theorem DpAll.bools (bs : List Bool) : DpAll K H (bs.map V.bl) (bs.map PyData.bool) := by
  induction bs with
  | nil => exact .nil
  | cons n ns ih => exact .cons (.bl n) ih
theorem Dp.lstH {a : Addr} {xs : List V} {ds : List PyData} (e : H a = some (.lst xs)) (h : DpAll K H xs ds) : Dp K H (.ref a) (.list ds) := .lst (SqL.of e) h
theorem Dp.tupH {a : Addr} {xs : List V} {ds : List PyData} (e : H a = some (.tup xs)) (h : DpAll K H xs ds) : Dp K H (.ref a) (.tuple ds) := .tup (SqT.of e) h
/-- a list of lists of ints, as data -/
def dII (nss : List (List Int)) : PyData := .list (nss.map fun ns => .list (ns.map PyData.int))
abbrev vII (nss : List (List Int)) : List (List V) := nss.map fun ns => ns.map V.int
theorem LL.dpAll : ∀ {ps : List Addr} {nss : List (List Int)}, Paired (fun p xs => H p = some (.lst xs)) ps (vII nss) → DpAll K H (ps.map V.ref) (nss.map fun ns => .list (ns.map PyData.int))
  | [], [], _ => .nil
  | _ :: _, [], r => nomatch r
  | [], _ :: _, r => nomatch r
  | p :: ps, ns :: nss, .cons h r => .cons (Dp.lstH h (DpAll.ints ns)) (LL.dpAll r)
theorem LL.dp {l : Addr} {ps : List Addr} {nss : List (List Int)} (e : LL H l ps (vII nss)) : Dp K H (.ref l) (dII nss) := Dp.lstH e.top (LL.dpAll e.all)
theorem goodII {nss : List (List Int)} (h1 : nss.length ≤ 10) (h2 : ∀ ns ∈ nss, ns.length ≤ 10 ∧ ∀ i ∈ ns, i.natAbs < 10 ^ 38) : Good 20110 2 (dII nss) := by
  have a : GoodAll (nss.length * (2010 + 1)) 1 (nss.map fun ns => .list (ns.map PyData.int)) := GoodAll.map fun ns hm => by
    have b : GoodAll (ns.length * (200 + 1)) 0 (ns.map PyData.int) := GoodAll.map fun i hi => Good.int ((h2 ns hm).2 i hi)
    have z := (h2 ns hm).1
    exact (Good.list b).mono (by omega) (by omega)
  exact (Good.list a).mono (by omega) (by omega)
theorem LL.length {l : Addr} {ps : List Addr} {xss : List (List V)} (e : LL H l ps xss) : ps.length = xss.length := Paired.length e.all
theorem LL.put {l p : Addr} {ps : List Addr} {xss : List (List V)} {o : HO} (e : LL H l ps xss) (n : Put H H' p o) (h1 : l ≠ p) (h2 : p ∉ ps) : LL H' l ps xss := e.mono fun b hb u q => n.get (fun z => by
  rcases hb with hb | hb
  · exact h1 (hb ▸ z)
  · exact h2 (z ▸ hb)) q
theorem LL.new {l p : Addr} {ps : List Addr} {xss : List (List V)} {o : HO} (e : LL H l ps xss) (n : New H H' p o) : LL H' l ps xss := e.same n.same
theorem LL.but {l : Addr} {ps S : List Addr} {xss : List (List V)} (e : LL H l ps xss) (n : But S H H') (h1 : l ∉ S) (h2 : ∀ p ∈ ps, p ∉ S) : LL H' l ps xss := e.mono fun b hb u q => n.get (by
  rcases hb with hb | hb
  · exact hb ▸ h1
  · exact h2 b hb) q
end
end Sx

/-! Sx6: errors by hypothesis; what is held by a part of the heap; copies of lists of lists. -/
namespace Sx
open PySem L2
/-- an error class with its __init__'s promise, and what KS says of its def -/
structure OkE (P : Program) (w : World) (K : PySem.W.Frag) (mg : Str → Option Value) (base : Heap) (k : Nat) (x : Str) (C : Addr) (ps : List Str) (sp : Sp) (KS : FuncData → Prop) : Prop where
  ex : ∃ (fI : Addr) (fd : FuncData), OkC P w K mg base k x C fI fd ps sp ∧ KS fd
section
variable {X : Cx} {k : Nat} {C : Addr} {ps ks : List Str} {sp : Sp} {x : Str} {p pos : Pos} {e : Expr} {es : List Expr} {t : TA} {kws : List Keyword} {re : {α : Type} → List α → List α} {KS : FuncData → Prop}
theorem pe_errE (T : OkE X.prog X.w X.K X.mg X.base k x C ps sp KS) (hr : Room (k + 1) X.A) (hg : Gl X x) (ha : PA X (e :: es) t)
    (hdb : (x == ("__debug__" : Str)) = false := by decide) (he : starEach (e :: es) X.env = (false, eval e X.env) :: starEach es X.env := by rfl) (hpl : (backTo pos (starEach es X.env)).any (·.1) = false := by rfl) :
    PE X (.Call (.Name x p) (e :: es) [] pos) (tErr C sp t) := by
  obtain ⟨fI, fd, T, _⟩ := T.ex
  exact pe_err T hr hg ha hdb he hpl
theorem pe_errE0 (T : OkE X.prog X.w X.K X.mg X.base k x C ps sp KS) (hr : Room (k + 1) X.A) (hg : Gl X x) (hdb : (x == ("__debug__" : Str)) = false := by decide) :
    PE X (.Call (.Name x p) [] [] pos) (tErr C sp tNil) := by
  obtain ⟨fI, fd, T, _⟩ := T.ex
  exact pe_err0 T hr hg hdb
theorem pe_errKE (T : OkE X.prog X.w X.K X.mg X.base k x C ps sp (fun fd => KwB fd ps ks re)) (hr : Room (k + 1) X.A) (hg : Gl X x) (hkw : PK X kws t)
    (hall : (backToKw pos (keywordEach kws X.env)).all (·.1.isSome) = true := by rfl) (hks : (backToKw pos (keywordEach kws X.env)).filterMap (·.1) = ks := by rfl)
    (hdb : (x == ("__debug__" : Str)) = false := by decide) (hpl : ((backTo pos (starEach [] X.env)).any (·.1) || (backToKw pos (keywordEach kws X.env)).any (·.1.isNone)) = false := by rfl) :
    PE X (.Call (.Name x p) [] kws pos) (tErrK C sp re t) := by
  obtain ⟨fI, fd, T, B⟩ := T.ex
  exact pe_errK T B hr hg hkw hall hks hdb hpl
theorem pe_cls (hg : Gl X x) (hm : X.mg x = some (.ref C)) (hd : (x == ("__debug__" : Str)) = false := by decide) : PE X (.Name x pos) (tC (.ref C)) := pe_glob hg hm rfl hd
theorem reId : ∀ {zs : List V} {ws : List Value}, Vals zs ws → Vals (id zs) (id ws) := fun h => h
theorem reRev : ∀ {zs : List V} {ws : List Value}, Vals zs ws → Vals zs.reverse ws.reverse := by
  intro zs ws h
  have go : ∀ {zs : List V} {ws : List Value} {as : List V} {bs : List Value}, Vals zs ws → Vals as bs → Vals (zs.reverseAux as) (ws.reverseAux bs) := by
    intro zs ws as bs h
    induction h generalizing as bs with
    | nil => exact id
    | cons r _ ih => exact fun q => ih (.cons r q)
  have := go h (.nil : Vals [] [])
  simpa using this
end
theorem upd2 {H H1 H2 : Hp} {d a : Addr} {x y z : HO} (hne : d ≠ a) (e1 : H1 = upd (upd H d x) a y) (n : Put H1 H2 d z) : H2 = upd (upd H d z) a y := by
  funext b
  rw [n.eq, e1]
  by_cases h1 : b = d
  · subst h1; rw [upd_same, upd_ne hne, upd_same]
  · rw [upd_ne h1]
    by_cases h2 : b = a
    · subst h2; rw [upd_same, upd_same]
    · rw [upd_ne h2, upd_ne h1, upd_ne h2, upd_ne h1]
/-- P holds as long as what is read at the addresses of B stands -/
def Held (B : Addr → Prop) (H : Hp) (P : Hp → Prop) : Prop := ∀ H', (∀ b o, B b → H b = some o → H' b = some o) → P H'
section
variable {B : Addr → Prop} {H H' : Hp} {P P' : Hp → Prop} {b c : Addr} {o u : HO}
theorem Held.now (h : Held B H P) : P H := h H fun _ _ _ e => e
theorem Held.go (h : Held B H P) (k : ∀ b o, B b → H b = some o → H' b = some o) : Held B H' P := fun H2 k2 => h H2 fun b o hb e => k2 b o hb (k b o hb e)
theorem Held.same (h : Held B H P) (k : Same H H') : Held B H' P := h.go fun b o _ e => k b o e
theorem Held.but {S : List Addr} (h : Held B H P) (k : But S H H') (f : ∀ s ∈ S, ¬ B s) : Held B H' P := h.go fun b o hb e => k b o (fun z => f b z hb) e
/-- things of unlike kinds stand apart -/
theorem apart (e : H b = some o) (e' : H c = some u) (h : o ≠ u) : b ≠ c := fun z => by
  subst z
  rw [e] at e'
  exact h (Option.some.inj e')
end
theorem Paired.mono {α β : Type} {R R' : α → β → Prop} : ∀ {as : List α} {bs : List β}, Paired R as bs → (∀ a b, a ∈ as → R a b → R' a b) → Paired R' as bs
  | _, _, .nil, _ => .nil
  | _, _, .cons h r, k => .cons (k _ _ List.mem_cons_self h) (Paired.mono r fun a b m q => k a b (List.mem_cons_of_mem _ m) q)
theorem Paired.at {α β : Type} {R : α → β → Prop} : ∀ {as : List α} {bs : List β} {i : Nat} {a : α}, Paired R as bs → as[i]? = some a → ∃ b, bs[i]? = some b ∧ R a b
  | _, _, 0, _, .cons h _, e => by cases e; exact ⟨_, rfl, h⟩
  | _, _, i + 1, _, .cons _ r, e => Paired.at (i := i) r e
  | _, _, _, _, .nil, e => nomatch e
theorem Paired.snoc {α β : Type} {R : α → β → Prop} : ∀ {as : List α} {bs : List β} {a : α} {b : β}, Paired R as bs → R a b → Paired R (as ++ [a]) (bs ++ [b])
  | _, _, _, _, .nil, h => .cons h .nil
  | _, _, _, _, .cons q r, h => .cons q (Paired.snoc r h)
section
variable {K : PySem.W.Frag} {σ : St} {H : Hp} {g : TG} {tt : TT} {te : TE} {vs : List Nat} {Q : VK}
/-- [list(one) for one in l], l a list of lists -/
theorem lc_copy {l : Addr} {ps : List Addr} {xss : List (List V)} (e : LL H l ps xss) (z : ps.length ≤ 1000)
    (step : ∀ (p : Addr) (xs : List V) (H1 : Hp) (R : V → Hp → Prop) (Z : Hp → Prop), H1 p = some (.lst xs) → (∀ q H2, New H1 H2 q (.lst xs) → R (.ref q) H2) →
      g (.ref p) (wipe σ vs) H1 fun σ2 H2 => wipe σ2 vs = wipe σ vs ∧ tt σ2 H2 fun b H3 => if b = true then te σ2 H3 R else Z H3)
    (hd : ∀ L qs H', Same H H' → H L = none → (∀ q ∈ qs, H q = none ∧ q ≠ L) → qs.Nodup → LL H' L qs xss → Q (.ref L) H') : kLc (Itl K l) g tt te vs σ H Q := by
  have hlen : ps.length = xss.length := Paired.length e.all
  refine lc_l (xs := ps.map V.ref) (fun D i H1 => ∃ qs : List Addr, Same H H1 ∧ H1 D = some (.lst (qs.map V.ref)) ∧ Paired (fun p xs => H1 p = some (.lst xs)) qs (xss.take i) ∧ (∀ q ∈ qs, H q = none ∧ q ≠ D) ∧ qs.Nodup)
    (fun D H' n => ⟨[], n.same, n.here, by simpa using Paired.nil, by simp, by simp⟩) (fun D i H1 ⟨_, s, _⟩ => SqL.of (s _ _ e.top)) (fun D i x H1 hx hD ⟨qs, s, hd1, pr, fr, nd⟩ => ?_) (fun D H1 hD ⟨qs, s, hd1, pr, fr, nd⟩ => ?_)
  · obtain ⟨p, hp, rfl⟩ : ∃ p, ps[i]? = some p ∧ x = V.ref p := by
      rw [List.getElem?_map] at hx
      cases q : ps[i]? with
      | none => rw [q] at hx; cases hx
      | some p => rw [q] at hx; cases hx; exact ⟨p, rfl, rfl⟩
    obtain ⟨xs, hxs, hpx⟩ := Paired.at e.all hp
    have hi : i < ps.length := (List.getElem?_eq_some_iff.mp hp).1
    have lq : qs.length = i := by rw [Paired.length pr, List.length_take]; omega
    refine step p xs H1 _ _ (s _ _ hpx) fun q H2 n => ?_
    have hqD : D ≠ q := n.ne hd1
    refine s_kApp (acc := qs.map V.ref) (n.get hd1) (by rw [List.length_map, sizeLine_eq]; omega) fun H3 m => ?_
    refine ⟨qs ++ [q], fun b o q' => m.get (ne_of_none q' hD) (n.get (s _ _ q')), by simpa using m.here, ?_, fun b hb => ?_, ?_⟩
    · have tk : xss.take (i + 1) = xss.take i ++ [xs] := by
        have hi' : i < xss.length := by omega
        have : xss[i] = xs := by rw [List.getElem?_eq_getElem hi'] at hxs; exact Option.some.inj hxs
        rw [List.take_succ_eq_append_getElem hi', this]
      rw [tk]
      exact Paired.snoc (Paired.mono pr fun a b ha h => m.get (fr a ha).2 (n.get h)) (m.get (Ne.symm hqD) n.here)
    · rcases List.mem_append.mp hb with h | h
      · exact fr b h
      · simp at h; subst h; exact ⟨Same.free s n.free, Ne.symm hqD⟩
    · refine List.nodup_append.mpr ⟨nd, by simp, fun a ha b hb => ?_⟩
      simp at hb; subst hb
      obtain ⟨k, hk⟩ := List.getElem?_of_mem ha
      obtain ⟨_, _, hq⟩ := Paired.at pr hk
      exact n.ne hq
  · refine hd D qs H1 s hD fr nd ⟨hd1, ?_⟩
    rw [List.length_map, hlen, List.take_length] at pr
    exact pr
end
theorem atI_zero {α : Type} {x : α} {xs : List α} : atI (x :: xs) 0 = some x := atI_nat (j := 0) rfl
theorem atI_one {α : Type} {x y : α} {xs : List α} : atI (x :: y :: xs) 1 = some y := atI_nat (j := 1) rfl
theorem cutV_one {x : V} {xs : List V} : cutV (x :: xs) (some 1) none = xs := by
  have e1 : HT.sIx (x :: xs).length 0 (some 1) = 1 := by simp [HT.sIx]
  have e2 : HT.sIx (x :: xs).length (x :: xs).length none = (x :: xs).length := by simp [HT.sIx]
  unfold cutV
  rw [e1, e2]
  simp
section
variable {K : PySem.W.Frag} {H H' : Hp} {p a C d : Addr} {fs : List (Str × V)} {xs : List V} {o : HO}
theorem s_truB {b : Bool} {R : Bool → Prop} (h : R b) : ∃ k, TruV K (.bl b) H k ∧ R k := ⟨b, rfl, h⟩
theorem s_rEq {x y : V} {Q : VK} (c : scal x y = true) (h : Q (.bl (decide (x = y))) H) : rEq x y H Q := ⟨c, h⟩
theorem Err.put (e : Err H a C d fs) (n : Put H H' p o) (hp : H p = some (.lst xs)) : Err H' a C d fs := ⟨n.get (Sx.apart e.ob hp (fun z => nomatch z)) e.ob, n.get (Sx.apart e.dc hp (fun z => nomatch z)) e.dc⟩
theorem Err.but {S : List Addr} (e : Err H a C d fs) (n : But S H H') (hp : ∀ s ∈ S, ∃ xs, H s = some (.lst xs)) : Err H' a C d fs :=
  ⟨n.get (fun z => by obtain ⟨xs, hx⟩ := hp _ z; exact Sx.apart e.ob hx (fun z => nomatch z) rfl) e.ob, n.get (fun z => by obtain ⟨xs, hx⟩ := hp _ z; exact Sx.apart e.dc hx (fun z => nomatch z) rfl) e.dc⟩
end
section
variable {σ : St} {H : Hp} {D : Ends} {g : TG} {tb : TS} {tt : TT} {te : TE} {vs : List Nat} {Q : VK}
theorem for_r0 {n : Nat} (Pv : Nat → St → Hp → Prop) (h0 : Pv 0 σ H)
    (hs : ∀ (i : Nat) σ H, i < n → Pv i σ H → g (.int i) σ H fun σ2 H2 => tb { D with nx := Pv (i + 1), ct := Pv (i + 1), bk := D.nx } σ2 H2) (hd : ∀ σ H, Pv n σ H → D.nx σ H) : kFor (Itr 0 n) g tb D σ H :=
  for_r Pv h0 (fun i σ H hi hp => by rw [Int.zero_add]; exact hs i σ H hi hp) hd
theorem lc_r0 {n : Nat} (Pv : Addr → Nat → Hp → Prop) (h0 : ∀ D H', New H H' D (.lst []) → Pv D 0 H')
    (hs : ∀ D (i : Nat) H1, i < n → H D = none → Pv D i H1 → g (.int i) (wipe σ vs) H1 fun σ2 H2 => wipe σ2 vs = wipe σ vs ∧ tt σ2 H2 fun b H3 => if b = true then te σ2 H3 fun y H4 => kApp D y H4 fun _ H5 => Pv D (i + 1) H5 else Pv D (i + 1) H3)
    (hd : ∀ D H1, H D = none → Pv D n H1 → Q (.ref D) H1) : kLc (Itr 0 n) g tt te vs σ H Q :=
  lc_r Pv h0 (fun D i H1 hi hD hp => by rw [Int.zero_add]; exact hs D i H1 hi hD hp) hd
theorem rgV0 {n : Nat} : rgV 0 n = ((List.range n).map fun i : Nat => (i : Int)).map V.int := by
  unfold rgV
  rw [List.map_map]
  simp
end
end Sx

/-! Sx7: more steps. -/
namespace Sx
open PySem L2
section
variable {K : PySem.W.Frag} {H H' H0 H2 : Hp} {Q : VK}
theorem Same.but {S : List Addr} (s : Same H0 H) (n : But S H H') (f : ∀ x ∈ S, H0 x = none) : Same H0 H' := fun b o e => n b o (fun z => by rw [f b z] at e; cases e) (s b o e)
theorem DpAll.map {α : Type} {f : α → V} {g : α → PyData} (h : ∀ x, Dp K H (f x) (g x)) : ∀ xs : List α, DpAll K H (xs.map f) (xs.map g)
  | [] => .nil
  | _ :: xs => .cons (h _) (DpAll.map h xs)
theorem s_neRefl {x : V} (c : scal x x = true) (h : Q (.bl false) H) : rDiffer K x x H Q := s_ne c (by rw [decide_eq_true rfl]; exact h)
theorem s_eqRefl {x : V} (c : scal x x = true) (h : Q (.bl true) H) : rSame K x x H Q := s_eq c (by rw [decide_eq_true rfl]; exact h)
theorem But.mono {S S' : List Addr} (n : But S H H') (h : ∀ x ∈ S, x ∈ S') : But S' H H' := fun b o hb e => n b o (fun z => hb (h b z)) e
/-- two stores taken back -/
theorem back2 {p l : Addr} {x y : HO} (hx : H p = some x) (hy : H l = some y) (h : ∀ b o, b ≠ p → b ≠ l → H b = some o → H' b = some o) (ep : H' p = some x) (el : H' l = some y) : Same H H' := fun b o e => by
  by_cases h1 : b = p
  · subst h1; rw [hx] at e; cases e; exact ep
  · by_cases h2 : b = l
    · subst h2; rw [hy] at e; cases e; exact el
    · exact h b o h1 h2 e
theorem LL.cons {l p : Addr} {ps : List Addr} {xs : List V} {xss : List (List V)} (e : LL H l (p :: ps) (xs :: xss)) : H p = some (.lst xs) ∧ Paired (fun p xs => H p = some (.lst xs)) ps xss := by
  cases e.all with
  | cons h r => exact ⟨h, r⟩
theorem LL.split {l : Addr} {ps : List Addr} {xs : List V} {xss : List (List V)} (e : LL H l ps (xs :: xss)) : ∃ p pt, ps = p :: pt ∧ H p = some (.lst xs) ∧ Paired (fun p xs => H p = some (.lst xs)) pt xss := by
  cases ps with
  | nil => exact nomatch e.all
  | cons p pt => exact ⟨p, pt, rfl, e.cons⟩
theorem LL.mem {l : Addr} {ps : List Addr} {xss : List (List V)} (e : LL H l ps xss) {p : Addr} (h : p ∈ ps) : ∃ xs, H p = some (.lst xs) := by
  obtain ⟨k, hk⟩ := List.getElem?_of_mem h
  obtain ⟨xs, _, q⟩ := Paired.at e.all hk
  exact ⟨xs, q⟩
end
theorem iteNT {p q : Prop} (h : q) : if (!true) = true then p else q := by rw [if_neg (by decide)]; exact h
theorem iteNF {p q : Prop} (h : p) : if (!false) = true then p else q := by rw [if_pos (by decide)]; exact h
theorem LL.lens {H : Hp} {l p : Addr} {ps : List Addr} {xss : List (List V)} (e : LL H l (p :: ps) xss) : ps.length + 1 = xss.length := by
  have := Paired.length e.all
  simpa using this
theorem s_popL {H : Hp} {Q : VK} {l : Addr} {xs : List V} {y : V} (e : H l = some (.lst (xs ++ [y]))) (h : ∀ H', Put H H' l (.lst xs) → Q y H') : rPop (.ref l) [] H Q :=
  s_pop e (by rw [List.length_append]; simp) fun H' n => h H' (by rw [List.dropLast_concat] at n; exact n)
end Sx

open PySem L2 Sx
/-! steps, by the head of what is read -/
local macro_rules | `(tactic| walk_at "sz") => `(tactic| first
  | assumption
  | decide
  | (simp only [List.length_cons, List.length_nil, List.length_append, List.length_map, List.length_range, List.length_replicate, List.length_singleton, sizeLine_eq] at *; omega)
  | (simp [sizeLine_eq] at *; omega))
local macro_rules | `(tactic| walk_at "hl") => `(tactic| first
  | assumption
  | exact New.here (by assumption)
  | exact Put.here (by assumption)
  | (apply New.get; (focus assumption); walk_at "hl")
  | (apply Put.get; (focus assumption); (focus (walk_at "ne")); walk_at "hl")
  | (apply Same.get; (focus assumption); walk_at "hl")
  | (apply But.get; (focus assumption); (focus (walk_at "nin")); walk_at "hl"))
local macro_rules | `(tactic| walk_at "ne") => `(tactic| first
  | assumption
  | exact Ne.symm (by assumption)
  | exact New.ne (by assumption) (by walk_at "hl")
  | exact Ne.symm (New.ne (by assumption) (by walk_at "hl")))
local macro_rules | `(tactic| walk_at "nin") => `(tactic|
  (simp only [List.mem_cons, List.not_mem_nil, or_false, not_or]; (repeat' apply And.intro); (all_goals walk_at "ne")))
local macro_rules | `(tactic| walk_at "sq") => `(tactic| first
  | assumption
  | (apply SqL.of; walk_at "hl")
  | (apply SqT.of; walk_at "hl")
  | (refine' Scr.sq (by assumption) (fun o e => ?_); walk_at "hl"))
local macro_rules | `(tactic| walk_at "rg") => `(tactic| first | assumption | (unfold RgOk; omega) | (refine ⟨?_, ?_⟩ <;> omega))
local macro_rules | `(tactic| walk_at "same") => `(tactic| first
  | assumption
  | exact Same.refl _
  | exact New.same (by assumption)
  | (refine' Same.trans ?_ (New.same (by assumption)); walk_at "same")
  | (refine' Same.trans ?_ (show Same _ _ by assumption); walk_at "same"))
local macro_rules | `(tactic| walk_at "free") => `(tactic| first
  | assumption
  | exact New.free (by assumption)
  | (refine' And.left (New.none (by assumption) ?_); walk_at "free")
  | (refine' And.left (Put.none (by assumption) ?_); walk_at "free")
  | (refine' Same.free (by assumption) ?_; walk_at "free")
  | (refine' But.none (by assumption) ?_ ?_; (focus (walk_at "nin")); walk_at "free"))
local macro_rules | `(tactic| walk_at "but") => `(tactic| first
  | assumption
  | exact But.of (Same.refl _)
  | (refine' But.trans ?_ (But.new (by assumption)); walk_at "but")
  | (refine' But.trans ?_ (But.put (by assumption) (by simp)); walk_at "but")
  | (refine' But.trans ?_ (But.of (show Same _ _ by assumption)); walk_at "but")
  | (refine' But.trans ?_ (show But _ _ _ by assumption); walk_at "but"))
local macro_rules | `(tactic| walk_at "ll") => `(tactic| first
  | assumption
  | (apply LL.new (n := by assumption); walk_at "ll")
  | (apply LL.same; (focus assumption); walk_at "ll"))
local macro_rules | `(tactic| walk_at "num") => `(tactic| first | decide | omega | decide +kernel)
local macro_rules | `(tactic| walk_at "st1") => `(tactic| first
  | with_reducible refine s_seq ?_ | with_reducible refine s_asg ?_ | with_reducible refine s_var rfl ?_ | with_reducible refine s_c ?_ | with_reducible refine s_op ?_
  | with_reducible refine s_cb ?_ | with_reducible refine s_cons ?_ | with_reducible refine s_nil ?_ | with_reducible refine s_call ?_ | with_reducible refine s_ret ?_ | with_reducible refine s_drop ?_
  | ((with_reducible refine s_gname ?_); dsimp only [List.set_cons_succ, List.set_cons_zero])
  | with_reducible refine s_next ?_ | with_reducible refine s_if ?_ | with_reducible refine s_un ?_ | with_reducible refine s_neg ?_
  | with_reducible refine s_tb ?_ | with_reducible refine s_test ?_ | with_reducible refine s_bl ?_ | with_reducible refine s_and ?_ | with_reducible refine s_or ?_ | with_reducible refine s_not ?_
  | with_reducible refine s_andV ?_ | with_reducible refine s_orV ?_ | with_reducible refine s_notV ?_ | with_reducible refine s_ifE ?_
  | with_reducible refine s_tup ?_ | with_reducible refine s_lst ?_
  | with_reducible refine s_rI0 ?_ | with_reducible refine s_plusI ?_ | with_reducible refine s_int ?_ | with_reducible refine s_intb ?_ | with_reducible refine s_abs ?_
  | ((with_reducible refine s_madeL ?_ ?_); (focus (walk_at "sz")); intro p H' n) | ((with_reducible refine s_madeT ?_ ?_); (focus (walk_at "sz")); intro p H' n) | ((with_reducible refine s_madeR ?_ ?_); (focus (walk_at "rg")); intro p H' n)
  | ((with_reducible apply s_lenL); (focus (walk_at "sq"))) | ((with_reducible apply s_lenT); (focus (walk_at "sq")))
  | ((with_reducible apply s_listL); (focus (walk_at "sq")); intro p H' n) | ((with_reducible apply s_listT); (focus (walk_at "sq")); intro p H' n)
  | with_reducible refine s_gsub ?_ | with_reducible refine s_bm ?_ | with_reducible refine s_bm0 ?_ | ((with_reducible apply s_tyL); (focus (walk_at "sq")))
  | ((with_reducible apply s_append); (focus (walk_at "hl")); (focus (walk_at "sz")); intro H' n)
  | ((with_reducible apply s_plusL); (focus (walk_at "hl")); (focus (walk_at "hl")); (focus (walk_at "sz")); intro p H' n)
  | with_reducible refine s_isN ?_ | with_reducible refine s_notN ?_ | with_reducible refine s_chain ?_ | with_reducible refine s_lstRg ?_ | with_reducible refine s_rg1 ?_ | with_reducible refine s_rg2 ?_
  | with_reducible refine s_sl ?_ | with_reducible refine s_nopart ?_ | with_reducible refine s_part ?_ | with_reducible refine s_intI ?_
  | ((with_reducible apply s_slL); (focus (walk_at "sq")); intro p H' n)
  | ((with_reducible apply s_ixL); (focus (walk_at "sq")); (focus (first | exact rfl | exact atI_zero))) | ((with_reducible apply s_ixT); (focus (walk_at "sq")); (focus (exact rfl)))
  | ((with_reducible apply s_setL); (focus (walk_at "hl")); (focus (exact rfl)); intro H' n; (try simp only [Int.reduceToNat, List.set_cons_succ, List.set_cons_zero] at n))
  | ((with_reducible refine s_neRefl ?_ ?_); (focus (exact rfl))) | ((with_reducible refine s_eqRefl ?_ ?_); (focus (exact rfl)))
  | with_reducible refine s_eq rfl ?_ | with_reducible refine s_ne rfl ?_
  | ((with_reducible apply s_inL); (focus (walk_at "sq")); (focus rfl); (focus rfl)) | ((with_reducible apply s_inT); (focus (walk_at "sq")); (focus rfl); (focus rfl))
  | ((with_reducible apply s_ninL); (focus (walk_at "sq")); (focus rfl); (focus rfl)) | ((with_reducible apply s_ninT); (focus (walk_at "sq")); (focus rfl); (focus rfl))
  | ((with_reducible refine s_rI ?_ ?_); (focus (first | walk_at "num" | exact ⟨by walk_at "num", by walk_at "num"⟩ | exact ⟨by walk_at "num", by walk_at "num", by walk_at "num"⟩)))
  | ((with_reducible refine s_timesI ?_ ?_); (focus (first | exact Or.inl ⟨by omega, by omega⟩ | exact Or.inr ⟨by omega, by omega⟩)))
  | ((with_reducible refine s_timesW ?_ ?_); (focus (unfold CMulW; decide +kernel)))
  | ((with_reducible refine s_divI ?_ ?_); (focus (exact ⟨by omega, by omega⟩)))
  | ((with_reducible refine s_divW ?_ ?_); (focus (exact wide_div (b := 64) (by omega) (by omega) (by decide) (by decide))))
  | with_reducible refine s_vei ?_ | with_reducible refine s_ost ?_ | with_reducible refine s_err ?_ | with_reducible refine s_errK ?_ | with_reducible refine s_errF ?_
  | ((with_reducible refine s_small ?_ ?_); (focus (walk_at "sz")))
  | with_reducible refine s_for ?_ | with_reducible refine s_iList ?_ | with_reducible refine s_iRng1 ?_ | with_reducible refine s_iRng2 ?_ | with_reducible refine s_lc ?_ | with_reducible refine s_yes ?_
  | ((with_reducible refine s_itR1 ?_ ?_ ?_); (focus (walk_at "num")); (focus (walk_at "num")))
  | ((with_reducible apply s_itL); (focus (walk_at "sq")))
  | with_reducible refine s_truB ?_ | with_reducible refine iteNT ?_ | with_reducible refine iteNF ?_
  | with_reducible refine iteT ?_ | with_reducible refine iteF ?_)
local macro_rules | `(tactic| walk_at "begin") => `(tactic|
  (simp only [cxOf, L2.start, List.map, List.length, Nat.reduceAdd, Nat.reduceSub, List.replicate, List.cons_append, List.nil_append]))
local macro_rules | `(tactic| walk_at "st") => `(tactic| repeat (walk_at "st1"))
namespace K42
open PySem L2 Sx
def top (i : Nat) : Stmt := PySem.Challenge.pw_searchrules_k42_errors_made.main.body.getD i (.Pass ⟨0, 0, 0, 0⟩)
structure Tx (mg : Str → Option Value) : Prop where
  b_int : mg "int" = none
  b_len : mg "len" = none
  b_abs : mg "abs" = none
  b_list : mg "list" = none
  b_range : mg "range" = none
  b_repr : mg "repr" = none
  b_isinstance : mg "isinstance" = none
  b_ValueError : mg "ValueError" = none
theorem hu1 {n : Nat} (h : n + 64 < cLine) : n + 1 < cLine := by omega
section
variable {P : Program} {w : World} {K : PySem.W.Frag} {mg : Str → Option Value} {base : Heap}
def spMixed : Sp := fun vs H Q _ => ∃ (c k : Int), vs = [.int c, .int k] ∧ ∀ r, 0 ≤ r → r < 2147483648 → Q (.int r) H
abbrev s_law_mixed : Stmt := top 17
theorem sc_law_mixed : FnScope ["_law_cell", "_law_k", "_law_figure"] ["_law_cell", "_law_k"] (defScope s_law_mixed) := ⟨rfl, rfl, rfl, by decide +kernel, rfl, by decide +kernel, by decide +kernel⟩
theorem ok_mixed {f : Addr} {fd : FuncData} (F : Fun K "_law_mixed" "_law_mixed" s_law_mixed f fd) (T : Tx mg) : FnOk P w K mg base CX0 1 f fd ["_law_cell", "_law_k"] spMixed := by
  refine F.ok sc_law_mixed (fun vs H Q E h => ?_) (fun cdv A outer s H vs Q E hr h => ?_)
  · obtain ⟨c, k, rfl, _⟩ := h
    rfl
  · obtain ⟨c, k, rfl, h⟩ := h
    have hu := hr.units
    refine ⟨_, (pss_cons (ps_set (i := 2) sc_law_mixed.nd rfl (by first | exact Or.inl rfl | exact Or.inr rfl) (pe_op op_mod (pe_callTy call_int rfl T.b_int (by decide +kernel) (pa_cons (pe_op op_plus (pe_op op_plus (pe_op op_times (pe_op op_mod (pe_callTy call_int rfl T.b_int (by decide +kernel) (pa_cons (pv 0) pa_nil)) pe_int) pe_int) (pe_op op_times (pv 1) pe_int)) pe_int) pa_nil)) pe_int))
  (pss_cons (ps_set (i := 2) sc_law_mixed.nd rfl (by first | exact Or.inl rfl | exact Or.inr rfl) (pe_op op_mod (pe_callTy call_int rfl T.b_int (by decide +kernel) (pa_cons (pe_op op_times (pv 2) (pv 2)) pa_nil)) pe_int))
  (pss_one (ps_ret (pe_op op_div (pe_op op_mod (pe_callTy call_int rfl T.b_int (by decide +kernel) (pa_cons (pe_op op_times (pv 2) (pv 2)) pa_nil)) pe_int) pe_int))))), ?_⟩
    walk_at "begin"
    walk_at "st"
    refine h _ ?_ ?_ <;> omega
def Pile (H : Hp) (p : Addr) : Prop := ∃ a b c : Int, H p = some (.lst [.int a, .int b, .int c])
def spPile (K : PySem.W.Frag) : Sp := fun vs H Q _ => ∃ (a : Addr) (ns : List Int) (k : Nat), vs = [.ref a, .int k] ∧ Scr K H a (ns.map V.int) ∧ ∀ p H', Same H H' → H p = none → Pile H' p → Q (.ref p) H'
abbrev s_law_pile : Stmt := top 18
theorem sc_law_pile : FnScope ["_law_script", "_law_k", "_law_cell", "_law_digits"] ["_law_script", "_law_k"] (defScope s_law_pile) := ⟨rfl, rfl, rfl, by decide +kernel, rfl, by decide +kernel, by decide +kernel⟩
theorem ok_pile {f : Addr} {fd : FuncData} (F : Fun K "_law_pile" "_law_pile" s_law_pile f fd) (T : Tx mg) : FnOk P w K mg base CX0 1 f fd ["_law_script", "_law_k"] (spPile K) := by
  refine F.ok sc_law_pile (fun vs H Q E h => ?_) (fun cdv A outer s H vs Q E hr h => ?_)
  · obtain ⟨c, ns, k, rfl, _⟩ := h
    rfl
  · obtain ⟨a, ns, k, rfl, hS, h⟩ := h
    have hu := hr.units
    refine ⟨_, (pss_cons (ps_set (i := 2) sc_law_pile.nd rfl (by first | exact Or.inl rfl | exact Or.inr rfl) pe_int)
  (pss_mid (ps_if (pt_cmpR op_lt (pv 1) (pe_callB call_lenQ rfl T.b_len (by decide +kernel) (pa_cons (pv 0) pa_nil)) rfl) (pss_one (ps_set (i := 2) sc_law_pile.nd rfl (by first | exact Or.inl rfl | exact Or.inr rfl) (pe_ix ix_seq (pv 0) (pv 1) (fun _ _ => rfl)))) pss_nil)
  (pss_cons (ps_set (i := 3) sc_law_pile.nd rfl (by first | exact Or.inl rfl | exact Or.inr rfl) (pe_ix ix_seq (pe_lst (pa_cons pe_int (pa_cons (pe_op op_mod (pe_callTy call_int rfl T.b_int (by decide +kernel) (pa_cons (pv 2) pa_nil)) (pe_op op_times (pe_op op_times (pe_op op_pow pe_int pe_int) (pe_op op_pow pe_int pe_int)) (pe_op op_pow pe_int pe_int))) pa_nil))) (pe_callTy call_int rfl T.b_int (by decide +kernel) (pa_cons (pe_cmpR op_ge (pe_callB call_absI rfl T.b_abs (by decide +kernel) (pa_cons (pv 2) pa_nil)) (pe_op op_pow pe_int pe_int) rfl) pa_nil)) (fun _ _ => rfl)))
  (pss_one (ps_ret (pe_lst (pa_cons (pv 3) (pa_cons (pe_op op_mod (pe_callTy call_int rfl T.b_int (by decide +kernel) (pa_cons (pv 2) pa_nil)) pe_int) (pa_cons (pe_op op_times pe_int (pv 1)) pa_nil))))))))), ?_⟩
    walk_at "begin"
    walk_at "st"
    refine s_mid (fun σ' H' => H' = H ∧ ∃ z : Int, σ' = [some (.ref a), some (.int k), some (.int z), none]) ?_ ?_
    · walk_at "st"
      refine ite2 (fun hk => ?_) (fun _ => ?_)
      · walk_at "st"
        have hk' : k < ns.length := by simpa using hk
        refine s_ixL (v := .int ns[k]) (by walk_at "sq") (atI_nat (by simp [hk'])) ?_
        walk_at "st"
        exact ⟨rfl, _, rfl⟩
      · walk_at "st"
        exact ⟨rfl, _, rfl⟩
    · rintro σ' H' ⟨rfl, z, rfl⟩
      walk_at "st"
      rcases Bool.eq_false_or_eq_true (decide (10 ^ Int.toNat 18 ≤ if z < 0 then -z else z)) with hd | hd <;> rw [hd]
      · rw [if_pos rfl]
        walk_at "st"
        exact h _ _ (by walk_at "same") (by walk_at "free") ⟨_, _, _, by walk_at "hl"⟩
      · rw [if_neg Bool.false_ne_true]
        walk_at "st"
        exact h _ _ (by walk_at "same") (by walk_at "free") ⟨_, _, _, by walk_at "hl"⟩
abbrev s_law_take : Stmt := top 19
theorem sc_law_take : FnScope ["_law_pile_here", "_law_many", "_law_digit"] ["_law_pile_here", "_law_many"] (defScope s_law_take) := ⟨rfl, rfl, rfl, by decide +kernel, rfl, by decide +kernel, by decide +kernel⟩
def spTake : Sp := fun vs H Q _ => ∃ (p : Addr) (many : Int), vs = [.ref p, .int many] ∧ Pile H p ∧ 0 < many ∧ many < 2 ^ 64 ∧ ∀ r H', 0 ≤ r → r < many → But [p] H H' → Pile H' p → Q (.int r) H'
theorem ok_take {f : Addr} {fd : FuncData} (F : Fun K "_law_take" "_law_take" s_law_take f fd) (T : Tx mg) (h_law_mixed : Ok P w K mg base CX0 1 "_law_mixed" ["_law_cell", "_law_k"] spMixed) : FnOk P w K mg base CX0 2 f fd ["_law_pile_here", "_law_many"] spTake := by
  refine F.ok sc_law_take (fun vs H Q E h => ?_) (fun cdv A outer s H vs Q E hr h => ?_)
  · obtain ⟨p, m, rfl, _⟩ := h
    rfl
  · obtain ⟨p, m, rfl, ⟨a, b, c, hp⟩, m0, m1, h⟩ := h
    have hu := hr.units
    refine ⟨_, (pss_cons (ps_if (pt_cmpR op_in_seq (pe_ix ix_seq (pv 0) pe_int (fun _ _ => rfl)) (pe_lst (pa_cons pe_int (pa_cons (pe_un un_neg pe_int) pa_nil))) rfl) (pss_cons (ps_asg (pe_op op_plus (pe_ix ix_seq (pv 0) pe_int (fun _ _ => rfl)) pe_int) (pg_sub (pv 0) pe_int set_list))
  (pss_one (ps_ret (pe_op op_mod (pe_callTy call_int rfl T.b_int (by decide +kernel) (pa_cons (pe_own h_law_mixed (hr.mono (by decide)) rfl pass0 (pa_cons (pe_ix ix_seq (pv 0) pe_int (fun _ _ => rfl)) (pa_cons (pe_ix ix_seq (pv 0) pe_int (fun _ _ => rfl)) pa_nil))) pa_nil)) (pv 1))))) pss_nil)
  (pss_cons (ps_set (i := 2) sc_law_take.nd rfl (by first | exact Or.inl rfl | exact Or.inr rfl) (pe_op op_mod (pe_callTy call_int rfl T.b_int (by decide +kernel) (pa_cons (pe_ix ix_seq (pv 0) pe_int (fun _ _ => rfl)) pa_nil)) (pv 1)))
  (pss_cons (ps_asg (pe_op op_div (pe_ix ix_seq (pv 0) pe_int (fun _ _ => rfl)) (pv 1)) (pg_sub (pv 0) pe_int set_list))
  (pss_one (ps_ret (pv 2)))))), ?_⟩
    walk_at "begin"
    walk_at "st"
    generalize inV _ _ = d
    cases d
    · walk_at "st"
      exact h _ _ (Int.emod_nonneg _ (by omega)) (Int.emod_lt_of_pos _ m0) (by walk_at "but") ⟨_, _, _, by walk_at "hl"⟩
    · walk_at "st"
      refine ⟨_, _, rfl, fun r r0 r1 => ?_⟩
      walk_at "st"
      exact h _ _ (Int.emod_nonneg _ (by omega)) (Int.emod_lt_of_pos _ m0) (by walk_at "but") ⟨_, _, _, by walk_at "hl"⟩
end
end K42

open PySem L2 Sx
namespace K42
section
variable {P : Program} {w : World} {K : PySem.W.Frag} {mg : Str → Option Value} {base : Heap} {C : Nat → Addr} {S : Addr}
def flds : List Str := ["place", "index", "moment", "sets", "thing", "number", "name", "column", "node", "step", "limit"]
/-- what the text says of the error classes -/
structure Tc (K : PySem.W.Frag) (mg : Str → Option Value) (C : Nat → Addr) (S : Addr) : Prop extends Tx mg where
  er : ∀ i, i < 14 → ErrC K (C i)
  nf : ∀ i, i < 14 → ∀ f ∈ flds, PySem.W.findIn K (.ref (C i)) f = some none
  kk : ∀ i, i < 14 → ∀ j, j < 14 → PySem.W.kitOne K (.ref (C i)) (.ref (C j)) = some (decide (i = j))
  kS : ∀ i, i < 14 → PySem.W.kitOne K (.ref (C i)) (.ref S) = some true
  kV : ∀ i, i < 14 → PySem.W.kitOne K (.ref (C i)) (.type "ValueError") = some true
  sup : SupC K S
  m_SearchError : mg "SearchError" = some (.ref S)
  m_InvalidGraph : mg "InvalidGraph" = some (.ref (C 0))
  m_InvalidOrder : mg "InvalidOrder" = some (.ref (C 1))
  m_InvalidMachine : mg "InvalidMachine" = some (.ref (C 2))
  m_NotARule : mg "NotARule" = some (.ref (C 3))
  m_NotLayered : mg "NotLayered" = some (.ref (C 4))
  m_InvalidSet : mg "InvalidSet" = some (.ref (C 5))
  m_InvalidNumber : mg "InvalidNumber" = some (.ref (C 6))
  m_UnknownName : mg "UnknownName" = some (.ref (C 7))
  m_InvalidText : mg "InvalidText" = some (.ref (C 8))
  m_InvalidTree : mg "InvalidTree" = some (.ref (C 9))
  m_NotInClass : mg "NotInClass" = some (.ref (C 10))
  m_NotGrowing : mg "NotGrowing" = some (.ref (C 11))
  m_TooMany : mg "TooMany" = some (.ref (C 12))
  m_Contradiction : mg "Contradiction" = some (.ref (C 13))
abbrev s_InvalidGraph : Stmt := inClass (top 2) 0
theorem sc_InvalidGraph : FnScope ["self", "place"] ["self", "place"] (defScope s_InvalidGraph) := ⟨rfl, rfl, rfl, by decide +kernel, rfl, by decide +kernel, by decide +kernel⟩
theorem ok_InvalidGraph {f : Addr} {fd : FuncData} (F : Fun K "__init__" "InvalidGraph.__init__" s_InvalidGraph f fd) (T : Tc K mg C S) : FnOk P w K mg base CX0 1 f fd ["self", "place"] (spErr1 (C 0) "place") := by
  refine F.ok sc_InvalidGraph (fun vs H Q E h => ?_) (fun cdv A outer s H vs Q E hr h => ?_)
  · obtain ⟨c, k, rfl, _⟩ := h
    rfl
  · obtain ⟨a, v, rfl, ha, h⟩ := h
    have hu := hr.units
    have er := T.er 0 (by decide)
    refine ⟨_, (pss_cons (ps_expr (pe_supinit rfl T.m_SearchError T.sup (pa_cons (pv 0) (pa_cons pe_str pa_nil))))
  (pss_one (ps_ost (pv 0) (pv 1)))), ?_⟩
    walk_at "begin"
    walk_at "st"
    refine s_veq ?_ er.o ha ?_
    · decide
    walk_at "st"
    refine s_ost1 er.o (T.nf _ (by decide) _ (by decide)) ha fun d H' hd hda e => h d H' hd hda e
abbrev s_InvalidOrder : Stmt := inClass (top 3) 0
theorem sc_InvalidOrder : FnScope ["self", "index"] ["self", "index"] (defScope s_InvalidOrder) := ⟨rfl, rfl, rfl, by decide +kernel, rfl, by decide +kernel, by decide +kernel⟩
theorem ok_InvalidOrder {f : Addr} {fd : FuncData} (F : Fun K "__init__" "InvalidOrder.__init__" s_InvalidOrder f fd) (T : Tc K mg C S) : FnOk P w K mg base CX0 1 f fd ["self", "index"] (spErr1 (C 1) "index") := by
  refine F.ok sc_InvalidOrder (fun vs H Q E h => ?_) (fun cdv A outer s H vs Q E hr h => ?_)
  · obtain ⟨c, k, rfl, _⟩ := h
    rfl
  · obtain ⟨a, v, rfl, ha, h⟩ := h
    have hu := hr.units
    have er := T.er 1 (by decide)
    refine ⟨_, (pss_cons (ps_expr (pe_supinit rfl T.m_SearchError T.sup (pa_cons (pv 0) (pa_cons pe_str pa_nil))))
  (pss_one (ps_ost (pv 0) (pv 1)))), ?_⟩
    walk_at "begin"
    walk_at "st"
    refine s_veq ?_ er.o ha ?_
    · decide
    walk_at "st"
    refine s_ost1 er.o (T.nf _ (by decide) _ (by decide)) ha fun d H' hd hda e => h d H' hd hda e
abbrev s_InvalidMachine : Stmt := inClass (top 4) 0
theorem sc_InvalidMachine : FnScope ["self", "place"] ["self", "place"] (defScope s_InvalidMachine) := ⟨rfl, rfl, rfl, by decide +kernel, rfl, by decide +kernel, by decide +kernel⟩
theorem ok_InvalidMachine {f : Addr} {fd : FuncData} (F : Fun K "__init__" "InvalidMachine.__init__" s_InvalidMachine f fd) (T : Tc K mg C S) : FnOk P w K mg base CX0 1 f fd ["self", "place"] (spErr1 (C 2) "place") := by
  refine F.ok sc_InvalidMachine (fun vs H Q E h => ?_) (fun cdv A outer s H vs Q E hr h => ?_)
  · obtain ⟨c, k, rfl, _⟩ := h
    rfl
  · obtain ⟨a, v, rfl, ha, h⟩ := h
    have hu := hr.units
    have er := T.er 2 (by decide)
    refine ⟨_, (pss_cons (ps_expr (pe_supinit rfl T.m_SearchError T.sup (pa_cons (pv 0) (pa_cons pe_str pa_nil))))
  (pss_one (ps_ost (pv 0) (pv 1)))), ?_⟩
    walk_at "begin"
    walk_at "st"
    refine s_veq ?_ er.o ha ?_
    · decide
    walk_at "st"
    refine s_ost1 er.o (T.nf _ (by decide) _ (by decide)) ha fun d H' hd hda e => h d H' hd hda e
abbrev s_InvalidSet : Stmt := inClass (top 7) 0
theorem sc_InvalidSet : FnScope ["self", "thing"] ["self", "thing"] (defScope s_InvalidSet) := ⟨rfl, rfl, rfl, by decide +kernel, rfl, by decide +kernel, by decide +kernel⟩
theorem ok_InvalidSet {f : Addr} {fd : FuncData} (F : Fun K "__init__" "InvalidSet.__init__" s_InvalidSet f fd) (T : Tc K mg C S) : FnOk P w K mg base CX0 1 f fd ["self", "thing"] (spErr1 (C 5) "thing") := by
  refine F.ok sc_InvalidSet (fun vs H Q E h => ?_) (fun cdv A outer s H vs Q E hr h => ?_)
  · obtain ⟨c, k, rfl, _⟩ := h
    rfl
  · obtain ⟨a, v, rfl, ha, h⟩ := h
    have hu := hr.units
    have er := T.er 5 (by decide)
    refine ⟨_, (pss_cons (ps_expr (pe_supinit rfl T.m_SearchError T.sup (pa_cons (pv 0) (pa_cons pe_str pa_nil))))
  (pss_one (ps_ost (pv 0) (pv 1)))), ?_⟩
    walk_at "begin"
    walk_at "st"
    refine s_veq ?_ er.o ha ?_
    · decide
    walk_at "st"
    refine s_ost1 er.o (T.nf _ (by decide) _ (by decide)) ha fun d H' hd hda e => h d H' hd hda e
abbrev s_InvalidNumber : Stmt := inClass (top 8) 0
theorem sc_InvalidNumber : FnScope ["self", "number"] ["self", "number"] (defScope s_InvalidNumber) := ⟨rfl, rfl, rfl, by decide +kernel, rfl, by decide +kernel, by decide +kernel⟩
theorem ok_InvalidNumber {f : Addr} {fd : FuncData} (F : Fun K "__init__" "InvalidNumber.__init__" s_InvalidNumber f fd) (T : Tc K mg C S) : FnOk P w K mg base CX0 1 f fd ["self", "number"] (spErr1 (C 6) "number") := by
  refine F.ok sc_InvalidNumber (fun vs H Q E h => ?_) (fun cdv A outer s H vs Q E hr h => ?_)
  · obtain ⟨c, k, rfl, _⟩ := h
    rfl
  · obtain ⟨a, v, rfl, ha, h⟩ := h
    have hu := hr.units
    have er := T.er 6 (by decide)
    refine ⟨_, (pss_cons (ps_expr (pe_supinit rfl T.m_SearchError T.sup (pa_cons (pv 0) (pa_cons pe_str pa_nil))))
  (pss_one (ps_ost (pv 0) (pv 1)))), ?_⟩
    walk_at "begin"
    walk_at "st"
    refine s_veq ?_ er.o ha ?_
    · decide
    walk_at "st"
    refine s_ost1 er.o (T.nf _ (by decide) _ (by decide)) ha fun d H' hd hda e => h d H' hd hda e
abbrev s_UnknownName : Stmt := inClass (top 9) 0
theorem sc_UnknownName : FnScope ["self", "name"] ["self", "name"] (defScope s_UnknownName) := ⟨rfl, rfl, rfl, by decide +kernel, rfl, by decide +kernel, by decide +kernel⟩
theorem ok_UnknownName {f : Addr} {fd : FuncData} (F : Fun K "__init__" "UnknownName.__init__" s_UnknownName f fd) (T : Tc K mg C S) : FnOk P w K mg base CX0 1 f fd ["self", "name"] (spErr1 (C 7) "name") := by
  refine F.ok sc_UnknownName (fun vs H Q E h => ?_) (fun cdv A outer s H vs Q E hr h => ?_)
  · obtain ⟨c, k, rfl, _⟩ := h
    rfl
  · obtain ⟨a, v, rfl, ha, h⟩ := h
    have hu := hr.units
    have er := T.er 7 (by decide)
    refine ⟨_, (pss_cons (ps_expr (pe_supinit rfl T.m_SearchError T.sup (pa_cons (pv 0) (pa_cons pe_str pa_nil))))
  (pss_one (ps_ost (pv 0) (pv 1)))), ?_⟩
    walk_at "begin"
    walk_at "st"
    refine s_veq ?_ er.o ha ?_
    · decide
    walk_at "st"
    refine s_ost1 er.o (T.nf _ (by decide) _ (by decide)) ha fun d H' hd hda e => h d H' hd hda e
abbrev s_InvalidText : Stmt := inClass (top 10) 0
theorem sc_InvalidText : FnScope ["self", "column"] ["self", "column"] (defScope s_InvalidText) := ⟨rfl, rfl, rfl, by decide +kernel, rfl, by decide +kernel, by decide +kernel⟩
theorem ok_InvalidText {f : Addr} {fd : FuncData} (F : Fun K "__init__" "InvalidText.__init__" s_InvalidText f fd) (T : Tc K mg C S) : FnOk P w K mg base CX0 1 f fd ["self", "column"] (spErr1 (C 8) "column") := by
  refine F.ok sc_InvalidText (fun vs H Q E h => ?_) (fun cdv A outer s H vs Q E hr h => ?_)
  · obtain ⟨c, k, rfl, _⟩ := h
    rfl
  · obtain ⟨a, v, rfl, ha, h⟩ := h
    have hu := hr.units
    have er := T.er 8 (by decide)
    refine ⟨_, (pss_cons (ps_expr (pe_supinit rfl T.m_SearchError T.sup (pa_cons (pv 0) (pa_cons pe_str pa_nil))))
  (pss_one (ps_ost (pv 0) (pv 1)))), ?_⟩
    walk_at "begin"
    walk_at "st"
    refine s_veq ?_ er.o ha ?_
    · decide
    walk_at "st"
    refine s_ost1 er.o (T.nf _ (by decide) _ (by decide)) ha fun d H' hd hda e => h d H' hd hda e
abbrev s_InvalidTree : Stmt := inClass (top 11) 0
theorem sc_InvalidTree : FnScope ["self", "node"] ["self", "node"] (defScope s_InvalidTree) := ⟨rfl, rfl, rfl, by decide +kernel, rfl, by decide +kernel, by decide +kernel⟩
theorem ok_InvalidTree {f : Addr} {fd : FuncData} (F : Fun K "__init__" "InvalidTree.__init__" s_InvalidTree f fd) (T : Tc K mg C S) : FnOk P w K mg base CX0 1 f fd ["self", "node"] (spErr1 (C 9) "node") := by
  refine F.ok sc_InvalidTree (fun vs H Q E h => ?_) (fun cdv A outer s H vs Q E hr h => ?_)
  · obtain ⟨c, k, rfl, _⟩ := h
    rfl
  · obtain ⟨a, v, rfl, ha, h⟩ := h
    have hu := hr.units
    have er := T.er 9 (by decide)
    refine ⟨_, (pss_cons (ps_expr (pe_supinit rfl T.m_SearchError T.sup (pa_cons (pv 0) (pa_cons pe_str pa_nil))))
  (pss_one (ps_ost (pv 0) (pv 1)))), ?_⟩
    walk_at "begin"
    walk_at "st"
    refine s_veq ?_ er.o ha ?_
    · decide
    walk_at "st"
    refine s_ost1 er.o (T.nf _ (by decide) _ (by decide)) ha fun d H' hd hda e => h d H' hd hda e
abbrev s_NotInClass : Stmt := inClass (top 12) 0
theorem sc_NotInClass : FnScope ["self", "name"] ["self", "name"] (defScope s_NotInClass) := ⟨rfl, rfl, rfl, by decide +kernel, rfl, by decide +kernel, by decide +kernel⟩
theorem ok_NotInClass {f : Addr} {fd : FuncData} (F : Fun K "__init__" "NotInClass.__init__" s_NotInClass f fd) (T : Tc K mg C S) : FnOk P w K mg base CX0 1 f fd ["self", "name"] (spErr1 (C 10) "name") := by
  refine F.ok sc_NotInClass (fun vs H Q E h => ?_) (fun cdv A outer s H vs Q E hr h => ?_)
  · obtain ⟨c, k, rfl, _⟩ := h
    rfl
  · obtain ⟨a, v, rfl, ha, h⟩ := h
    have hu := hr.units
    have er := T.er 10 (by decide)
    refine ⟨_, (pss_cons (ps_expr (pe_supinit rfl T.m_SearchError T.sup (pa_cons (pv 0) (pa_cons pe_str pa_nil))))
  (pss_one (ps_ost (pv 0) (pv 1)))), ?_⟩
    walk_at "begin"
    walk_at "st"
    refine s_veq ?_ er.o ha ?_
    · decide
    walk_at "st"
    refine s_ost1 er.o (T.nf _ (by decide) _ (by decide)) ha fun d H' hd hda e => h d H' hd hda e
abbrev s_TooMany : Stmt := inClass (top 14) 0
theorem sc_TooMany : FnScope ["self", "limit"] ["self", "limit"] (defScope s_TooMany) := ⟨rfl, rfl, rfl, by decide +kernel, rfl, by decide +kernel, by decide +kernel⟩
theorem ok_TooMany {f : Addr} {fd : FuncData} (F : Fun K "__init__" "TooMany.__init__" s_TooMany f fd) (T : Tc K mg C S) : FnOk P w K mg base CX0 1 f fd ["self", "limit"] (spErr1 (C 12) "limit") := by
  refine F.ok sc_TooMany (fun vs H Q E h => ?_) (fun cdv A outer s H vs Q E hr h => ?_)
  · obtain ⟨c, k, rfl, _⟩ := h
    rfl
  · obtain ⟨a, v, rfl, ha, h⟩ := h
    have hu := hr.units
    have er := T.er 12 (by decide)
    refine ⟨_, (pss_cons (ps_expr (pe_supinit rfl T.m_SearchError T.sup (pa_cons (pv 0) (pa_cons pe_str pa_nil))))
  (pss_one (ps_ost (pv 0) (pv 1)))), ?_⟩
    walk_at "begin"
    walk_at "st"
    refine s_veq ?_ er.o ha ?_
    · decide
    walk_at "st"
    refine s_ost1 er.o (T.nf _ (by decide) _ (by decide)) ha fun d H' hd hda e => h d H' hd hda e
abbrev s_NotARule : Stmt := inClass (top 5) 0
theorem sc_NotARule : FnScope ["self", "moment", "sets", "one"] ["self", "moment", "sets"] (defScope s_NotARule) := ⟨rfl, rfl, rfl, by decide +kernel, rfl, by decide +kernel, by decide +kernel⟩
theorem ok_NotARule {f : Addr} {fd : FuncData} (F : Fun K "__init__" "NotARule.__init__" s_NotARule f fd) (T : Tc K mg C S) : FnOk P w K mg base CX0 1 f fd ["self", "moment", "sets"] (spErrL (C 3)) := by
  refine F.ok sc_NotARule (fun vs H Q E h => ?_) (fun cdv A outer s H vs Q E hr h => ?_)
  · obtain ⟨c, k, _, _, _, rfl, _⟩ := h
    rfl
  · obtain ⟨a, l, m, ps, xss, rfl, ha, el, z, h⟩ := h
    have hu := hr.units
    have er := T.er 3 (by decide)
    refine ⟨_, (pss_cons (ps_expr (pe_supinit rfl T.m_SearchError T.sup (pa_cons (pv 0) (pa_cons pe_str pa_nil))))
  (pss_cons (ps_ost (pv 0) (pv 1))
  (pss_one (ps_ost (pv 0) (pe_lc (own := [("one", 3)]) (g := gName 3) rfl sc_NotARule.nd (pi_list (pv 2)) (blkOk_by (N := ["self", "moment", "sets", "one"]) (sc := defScope s_NotARule) (by decide +kernel)) (fun _ _ _ _ _ => (pg_name (i := 3) sc_NotARule.nd rfl (by first | exact Or.inl rfl | exact Or.inr rfl))) (fun _ _ _ _ _ => pts_nil) (fun _ _ _ _ _ => (pe_callTy (show CallR _ _ (rListQ K) from call_listQ) rfl T.b_list (by decide +kernel) (pa_cons (pv 3) pa_nil)))))))), ?_⟩
    walk_at "begin"
    walk_at "st"
    refine s_veq ?_ er.o ha ?_
    · decide
    walk_at "st"
    refine s_ost1 er.o (T.nf _ (by decide) _ (by decide)) ha fun d H1 hd hda e1 => ?_
    walk_at "st"
    have kp : ∀ b o, b ≠ a → H b = some o → H1 b = some o := fun b o hb q => by
      rw [e1, upd_ne hb, upd_ne (ne_of_none q hd)]; exact q
    have bk : ∀ b, H1 b = none → H b = none := fun b q => by
      rw [e1] at q
      by_cases h1 : b = a
      · subst h1; rw [upd_same] at q; cases q
      · rw [upd_ne h1] at q
        by_cases h2 : b = d
        · subst h2; exact hd
        · rw [upd_ne h2] at q; exact q
    have ea : H1 a = some (exo a (C 3) (some d)) := by rw [e1, upd_same]
    have ed : H1 d = some (exd d [("moment", m)]) := by rw [e1, upd_ne hda, upd_same]
    have el1 : LL H1 l ps xss := el.mono fun b hb o q => kp b o (fun z => by
      subst z
      rcases hb with rfl | hb
      · rw [el.top] at ha; exact absurd (Option.some.inj ha) (fun z => nomatch z)
      · obtain ⟨k, hk⟩ := List.getElem?_of_mem hb
        obtain ⟨_, _, hq⟩ := Paired.at el.all hk
        rw [hq] at ha; exact absurd (Option.some.inj ha) (fun z => nomatch z)) q
    refine s_itL (SqL.of el1.top) ?_
    refine lc_copy el1 z (fun p xs H2 R Z hp hR => ?_) fun L qs H2 sm hL fr nd eL => ?_
    · dsimp only [wipe, List.foldl, List.set_cons_succ, List.set_cons_zero]
      walk_at "st"
      refine s_wipe rfl ?_
      walk_at "st"
      exact hR _ _ (by assumption)
    · walk_at "st"
      refine s_ost2 er.o (T.nf _ (by decide) _ (by decide)) (sm _ _ ea) (sm _ _ ed) (by simp) fun H3 n3 => ?_
      have nd3 : ∀ b o, b ≠ d → H1 b = some o → H3 b = some o := fun b o hb q => n3.get hb (sm _ _ q)
      refine h d L qs H3 hd hda (bk _ hL) (ne_of_none ea hL).symm (ne_of_none ed hL).symm (fun q hq => ⟨bk _ (fr q hq).1, (ne_of_none ea (fr q hq).1).symm, (ne_of_none ed (fr q hq).1).symm, (fr q hq).2⟩) nd ?_ n3.here ?_ ?_
      · exact n3.get (Ne.symm hda) (sm _ _ ea)
      · refine eL.put n3 (ne_of_none ed hL).symm fun hq => (ne_of_none ed (fr d hq).1) rfl
      · intro b o hb q
        exact nd3 b o (ne_of_none q hd) (kp b o (by simpa using hb) q)
abbrev s_NotLayered : Stmt := inClass (top 6) 0
theorem sc_NotLayered : FnScope ["self", "moment", "sets", "one"] ["self", "moment", "sets"] (defScope s_NotLayered) := ⟨rfl, rfl, rfl, by decide +kernel, rfl, by decide +kernel, by decide +kernel⟩
theorem ok_NotLayered {f : Addr} {fd : FuncData} (F : Fun K "__init__" "NotLayered.__init__" s_NotLayered f fd) (T : Tc K mg C S) : FnOk P w K mg base CX0 1 f fd ["self", "moment", "sets"] (spErrL (C 4)) := by
  refine F.ok sc_NotLayered (fun vs H Q E h => ?_) (fun cdv A outer s H vs Q E hr h => ?_)
  · obtain ⟨c, k, _, _, _, rfl, _⟩ := h
    rfl
  · obtain ⟨a, l, m, ps, xss, rfl, ha, el, z, h⟩ := h
    have hu := hr.units
    have er := T.er 4 (by decide)
    refine ⟨_, (pss_cons (ps_expr (pe_supinit rfl T.m_SearchError T.sup (pa_cons (pv 0) (pa_cons pe_str pa_nil))))
  (pss_cons (ps_ost (pv 0) (pv 1))
  (pss_one (ps_ost (pv 0) (pe_lc (own := [("one", 3)]) (g := gName 3) rfl sc_NotLayered.nd (pi_list (pv 2)) (blkOk_by (N := ["self", "moment", "sets", "one"]) (sc := defScope s_NotLayered) (by decide +kernel)) (fun _ _ _ _ _ => (pg_name (i := 3) sc_NotLayered.nd rfl (by first | exact Or.inl rfl | exact Or.inr rfl))) (fun _ _ _ _ _ => pts_nil) (fun _ _ _ _ _ => (pe_callTy (show CallR _ _ (rListQ K) from call_listQ) rfl T.b_list (by decide +kernel) (pa_cons (pv 3) pa_nil)))))))), ?_⟩
    walk_at "begin"
    walk_at "st"
    refine s_veq ?_ er.o ha ?_
    · decide
    walk_at "st"
    refine s_ost1 er.o (T.nf _ (by decide) _ (by decide)) ha fun d H1 hd hda e1 => ?_
    walk_at "st"
    have kp : ∀ b o, b ≠ a → H b = some o → H1 b = some o := fun b o hb q => by
      rw [e1, upd_ne hb, upd_ne (ne_of_none q hd)]; exact q
    have bk : ∀ b, H1 b = none → H b = none := fun b q => by
      rw [e1] at q
      by_cases h1 : b = a
      · subst h1; rw [upd_same] at q; cases q
      · rw [upd_ne h1] at q
        by_cases h2 : b = d
        · subst h2; exact hd
        · rw [upd_ne h2] at q; exact q
    have ea : H1 a = some (exo a (C 4) (some d)) := by rw [e1, upd_same]
    have ed : H1 d = some (exd d [("moment", m)]) := by rw [e1, upd_ne hda, upd_same]
    have el1 : LL H1 l ps xss := el.mono fun b hb o q => kp b o (fun z => by
      subst z
      rcases hb with rfl | hb
      · rw [el.top] at ha; exact absurd (Option.some.inj ha) (fun z => nomatch z)
      · obtain ⟨k, hk⟩ := List.getElem?_of_mem hb
        obtain ⟨_, _, hq⟩ := Paired.at el.all hk
        rw [hq] at ha; exact absurd (Option.some.inj ha) (fun z => nomatch z)) q
    refine s_itL (SqL.of el1.top) ?_
    refine lc_copy el1 z (fun p xs H2 R Z hp hR => ?_) fun L qs H2 sm hL fr nd eL => ?_
    · dsimp only [wipe, List.foldl, List.set_cons_succ, List.set_cons_zero]
      walk_at "st"
      refine s_wipe rfl ?_
      walk_at "st"
      exact hR _ _ (by assumption)
    · walk_at "st"
      refine s_ost2 er.o (T.nf _ (by decide) _ (by decide)) (sm _ _ ea) (sm _ _ ed) (by simp) fun H3 n3 => ?_
      have nd3 : ∀ b o, b ≠ d → H1 b = some o → H3 b = some o := fun b o hb q => n3.get hb (sm _ _ q)
      refine h d L qs H3 hd hda (bk _ hL) (ne_of_none ea hL).symm (ne_of_none ed hL).symm (fun q hq => ⟨bk _ (fr q hq).1, (ne_of_none ea (fr q hq).1).symm, (ne_of_none ed (fr q hq).1).symm, (fr q hq).2⟩) nd ?_ n3.here ?_ ?_
      · exact n3.get (Ne.symm hda) (sm _ _ ea)
      · refine eL.put n3 (ne_of_none ed hL).symm fun hq => (ne_of_none ed (fr d hq).1) rfl
      · intro b o hb q
        exact nd3 b o (ne_of_none q hd) (kp b o (by simpa using hb) q)
abbrev s_NotGrowing : Stmt := inClass (top 13) 0
theorem sc_NotGrowing : FnScope ["self", "moment", "step"] ["self", "moment", "step"] (defScope s_NotGrowing) := ⟨rfl, rfl, rfl, by decide +kernel, rfl, by decide +kernel, by decide +kernel⟩
theorem ok_NotGrowing {f : Addr} {fd : FuncData} (F : Fun K "__init__" "NotGrowing.__init__" s_NotGrowing f fd) (T : Tc K mg C S) : FnOk P w K mg base CX0 1 f fd ["self", "moment", "step"] (spErr2 (C 11) "moment" "step") := by
  refine F.ok sc_NotGrowing (fun vs H Q E h => ?_) (fun cdv A outer s H vs Q E hr h => ?_)
  · obtain ⟨c, k, _, rfl, _⟩ := h
    rfl
  · obtain ⟨a, v, u, rfl, ha, h⟩ := h
    have hu := hr.units
    have er := T.er 11 (by decide)
    refine ⟨_, (pss_cons (ps_expr (pe_supinit rfl T.m_SearchError T.sup (pa_cons (pv 0) (pa_cons pe_str pa_nil))))
  (pss_cons (ps_ost (pv 0) (pv 1))
  (pss_one (ps_ost (pv 0) (pv 2))))), ?_⟩
    walk_at "begin"
    walk_at "st"
    refine s_veq ?_ er.o ha ?_
    · decide
    walk_at "st"
    refine s_ost1 er.o (T.nf _ (by decide) _ (by decide)) ha fun d H1 hd hda e1 => ?_
    walk_at "st"
    refine s_ost2 er.o (T.nf _ (by decide) _ (by decide)) (by rw [e1, upd_same]) (by rw [e1, upd_ne hda, upd_same]) (by simp) fun H2 n => ?_
    exact h d H2 hd hda (upd2 hda e1 n)
abbrev s_Contradiction : Stmt := inClass (top 15) 0
theorem sc_Contradiction : FnScope ["self"] ["self"] (defScope s_Contradiction) := ⟨rfl, rfl, rfl, by decide +kernel, rfl, by decide +kernel, by decide +kernel⟩
theorem ok_Contradiction {f : Addr} {fd : FuncData} (F : Fun K "__init__" "Contradiction.__init__" s_Contradiction f fd) (T : Tc K mg C S) : FnOk P w K mg base CX0 1 f fd ["self"] (spErr0 (C 13)) := by
  refine F.ok sc_Contradiction (fun vs H Q E h => ?_) (fun cdv A outer s H vs Q E hr h => ?_)
  · obtain ⟨c, rfl, _⟩ := h
    rfl
  · obtain ⟨a, rfl, ha, h⟩ := h
    have hu := hr.units
    have er := T.er 13 (by decide)
    refine ⟨_, (pss_one (ps_expr (pe_supinit rfl T.m_SearchError T.sup (pa_cons (pv 0) (pa_cons pe_str pa_nil))))), ?_⟩
    walk_at "begin"
    walk_at "st"
    refine s_veq ?_ er.o ha ?_
    · decide
    walk_at "st"
    exact h
end
end K42

open PySem L2 Sx
namespace K42
section
variable {P : Program} {w : World} {K : PySem.W.Frag} {mg : Str → Option Value} {base : Heap} {C : Nat → Addr} {S : Addr}
def sw2 : {α : Type} → List α → List α
  | _, [a, b] => [b, a]
  | _, l => l
/-- the error classes, each with its __init__ -/
structure Ec (P : Program) (w : World) (K : PySem.W.Frag) (mg : Str → Option Value) (base : Heap) (C : Nat → Addr) : Prop where
  e_InvalidGraph : OkE P w K mg base 1 "InvalidGraph" (C 0) ["self", "place"] (spErr1 (C 0) "place") (fun fd => KwB fd ["self", "place"] ["place"] (fun {_} l => l))
  e_InvalidOrder : OkE P w K mg base 1 "InvalidOrder" (C 1) ["self", "index"] (spErr1 (C 1) "index") (fun fd => KwB fd ["self", "index"] ["index"] (fun {_} l => l))
  e_InvalidMachine : OkE P w K mg base 1 "InvalidMachine" (C 2) ["self", "place"] (spErr1 (C 2) "place") (fun fd => KwB fd ["self", "place"] ["place"] (fun {_} l => l))
  e_InvalidSet : OkE P w K mg base 1 "InvalidSet" (C 5) ["self", "thing"] (spErr1 (C 5) "thing") (fun fd => KwB fd ["self", "thing"] ["thing"] (fun {_} l => l))
  e_InvalidNumber : OkE P w K mg base 1 "InvalidNumber" (C 6) ["self", "number"] (spErr1 (C 6) "number") (fun fd => KwB fd ["self", "number"] ["number"] (fun {_} l => l))
  e_UnknownName : OkE P w K mg base 1 "UnknownName" (C 7) ["self", "name"] (spErr1 (C 7) "name") (fun fd => KwB fd ["self", "name"] ["name"] (fun {_} l => l))
  e_InvalidText : OkE P w K mg base 1 "InvalidText" (C 8) ["self", "column"] (spErr1 (C 8) "column") (fun fd => KwB fd ["self", "column"] ["column"] (fun {_} l => l))
  e_InvalidTree : OkE P w K mg base 1 "InvalidTree" (C 9) ["self", "node"] (spErr1 (C 9) "node") (fun fd => KwB fd ["self", "node"] ["node"] (fun {_} l => l))
  e_NotInClass : OkE P w K mg base 1 "NotInClass" (C 10) ["self", "name"] (spErr1 (C 10) "name") (fun fd => KwB fd ["self", "name"] ["name"] (fun {_} l => l))
  e_TooMany : OkE P w K mg base 1 "TooMany" (C 12) ["self", "limit"] (spErr1 (C 12) "limit") (fun fd => KwB fd ["self", "limit"] ["limit"] (fun {_} l => l))
  e_NotARule : OkE P w K mg base 1 "NotARule" (C 3) ["self", "moment", "sets"] (spErrL (C 3)) (fun fd => KwB fd ["self", "moment", "sets"] ["sets", "moment"] sw2)
  e_NotLayered : OkE P w K mg base 1 "NotLayered" (C 4) ["self", "moment", "sets"] (spErrL (C 4)) (fun fd => KwB fd ["self", "moment", "sets"] ["moment", "sets"] (fun {_} l => l))
  e_NotGrowing : OkE P w K mg base 1 "NotGrowing" (C 11) ["self", "moment", "step"] (spErr2 (C 11) "moment" "step") (fun fd => KwB fd ["self", "moment", "step"] ["step", "moment"] sw2)
  e_Contradiction : OkE P w K mg base 1 "Contradiction" (C 13) ["self"] (spErr0 (C 13)) (fun _ => True)
def fsOf (fig v : V) (L3 L4 : Addr) : Nat → List (Str × V)
  | 0 => [("place", fig)] | 1 => [("index", .non)] | 2 => [("place", fig)] | 3 => [("sets", .ref L3), ("moment", fig)] | 4 => [("sets", .ref L4), ("moment", fig)]
  | 5 => [("thing", v)] | 6 => [("number", v)] | 7 => [("name", v)] | 8 => [("column", fig)] | 9 => [("node", .non)] | 10 => [("name", .str "late")]
  | 11 => [("step", .int 3), ("moment", fig)] | 12 => [("limit", fig)] | _ => []
structure Made (C : Nat → Addr) (H : Hp) (r : Addr) (fig v : V) (xss : List (List V)) (a : Nat → Addr) (L3 : Addr) (q3 : List Addr) (L4 : Addr) (q4 : List Addr) : Prop where
  top : H r = some (.lst [.ref (a 0), .ref (a 1), .ref (a 2), .ref (a 3), .ref (a 4), .ref (a 5), .ref (a 6), .ref (a 7), .ref (a 8), .ref (a 9), .ref (a 10), .ref (a 11), .ref (a 12), .ref (a 13)])
  er : ∀ i, i < 13 → ∃ d, Err H (a i) (C i) d (fsOf fig v L3 L4 i)
  e0 : Err0 H (a 13) (C 13)
  l3 : LL H L3 q3 xss
  l4 : LL H L4 q4 xss
structure Apart (H : Hp) (r L3 : Addr) (q3 : List Addr) (L4 : Addr) (q4 : List Addr) : Prop where
  ne : L3 ≠ L4
  r3 : r ≠ L3
  r4 : r ≠ L4
  n3 : ∀ q ∈ q3, H q = none ∧ q ≠ r ∧ q ≠ L3 ∧ q ≠ L4
  n4 : ∀ q ∈ q4, H q = none ∧ q ≠ r ∧ q ≠ L3 ∧ q ≠ L4 ∧ q ∉ q3
  f3 : H L3 = none
  f4 : H L4 = none
def spMade (C : Nat → Addr) : Sp := fun vs H Q _ => ∃ (fig v : V) (l : Addr) (ps : List Addr) (xss : List (List V)), vs = [fig, v, .ref l] ∧ LL H l ps xss ∧ ps.length ≤ 1000 ∧
  ∀ r a L3 q3 L4 q4 H', Same H H' → H r = none → Apart H r L3 q3 L4 q4 → Held (fun b => H b = none) H' (fun H'' => Made C H'' r fig v xss a L3 q3 L4 q4) → Q (.ref r) H'
theorem errGo {H H1 H' H'' : Hp} {a C d : Addr} {fs : List (Str × V)} (k : ∀ b o, H b = none → H' b = some o → H'' b = some o) (s0 : Same H H1) (s : Same H1 H') (e : Err H1 a C d fs) (ha : H a = none) (hd : H d = none) : ∃ d, Err H'' a C d fs := ⟨d, k _ _ ha (s _ _ e.ob), k _ _ hd (s _ _ e.dc)⟩
theorem isErr_same {H H' : Hp} {a C : Addr} (s : Same H H') (e : IsErr H a C) : IsErr H' a C := by
  rcases e with e | ⟨d, fs, e⟩
  · exact .inl ⟨s _ _ e.ob⟩
  · exact .inr ⟨d, fs, e.same s⟩
abbrev s_law_made : Stmt := top 21
theorem sc_law_made : FnScope ["_law_figure", "_law_value", "_law_lists", "_law_found"] ["_law_figure", "_law_value", "_law_lists"] (defScope s_law_made) := ⟨rfl, rfl, rfl, by decide +kernel, rfl, by decide +kernel, by decide +kernel⟩
theorem ok_made {f : Addr} {fd : FuncData} (F : Fun K "_law_made" "_law_made" s_law_made f fd) (T : Tc K mg C S) (Er : Ec P w K mg base C) : FnOk P w K mg base CX0 3 f fd ["_law_figure", "_law_value", "_law_lists"] (spMade C) := by
  refine F.ok sc_law_made (fun vs H Q E h => ?_) (fun cdv A outer s H vs Q E hr h => ?_)
  · obtain ⟨_, _, _, _, _, rfl, _⟩ := h
    rfl
  · obtain ⟨fig, v, l, ps, xss, rfl, el, hz, h⟩ := h
    have hu := hr.units
    refine ⟨_, (pss_cons (ps_set (i := 3) sc_law_made.nd rfl (by first | exact Or.inl rfl | exact Or.inr rfl) (pe_lst (pa_cons (pe_errE Er.e_InvalidGraph (hr.mono (by decide)) rfl (pa_cons (pv 0) pa_nil)) (pa_cons (pe_errE Er.e_InvalidOrder (hr.mono (by decide)) rfl (pa_cons pe_non pa_nil)) (pa_cons (pe_errE Er.e_InvalidMachine (hr.mono (by decide)) rfl (pa_cons (pv 0) pa_nil)) (pa_cons (pe_errE Er.e_NotARule (hr.mono (by decide)) rfl (pa_cons (pv 0) (pa_cons (pv 2) pa_nil))) pa_nil))))))
  (pss_cons (ps_set (i := 3) sc_law_made.nd rfl (by first | exact Or.inl rfl | exact Or.inr rfl) (pe_op op_plus (pv 3) (pe_lst (pa_cons (pe_errE Er.e_NotLayered (hr.mono (by decide)) rfl (pa_cons (pv 0) (pa_cons (pv 2) pa_nil))) (pa_cons (pe_errE Er.e_InvalidSet (hr.mono (by decide)) rfl (pa_cons (pv 1) pa_nil)) (pa_cons (pe_errE Er.e_InvalidNumber (hr.mono (by decide)) rfl (pa_cons (pv 1) pa_nil)) (pa_cons (pe_errE Er.e_UnknownName (hr.mono (by decide)) rfl (pa_cons (pv 1) pa_nil)) pa_nil)))))))
  (pss_cons (ps_set (i := 3) sc_law_made.nd rfl (by first | exact Or.inl rfl | exact Or.inr rfl) (pe_op op_plus (pv 3) (pe_lst (pa_cons (pe_errE Er.e_InvalidText (hr.mono (by decide)) rfl (pa_cons (pv 0) pa_nil)) (pa_cons (pe_errE Er.e_InvalidTree (hr.mono (by decide)) rfl (pa_cons pe_non pa_nil)) (pa_cons (pe_errE Er.e_NotInClass (hr.mono (by decide)) rfl (pa_cons pe_str pa_nil)) (pa_cons (pe_errE Er.e_NotGrowing (hr.mono (by decide)) rfl (pa_cons (pv 0) (pa_cons pe_int pa_nil))) (pa_cons (pe_errE Er.e_TooMany (hr.mono (by decide)) rfl (pa_cons (pv 0) pa_nil)) pa_nil))))))))
  (pss_one (ps_ret (pe_op op_plus (pv 3) (pe_lst (pa_cons (pe_errE0 Er.e_Contradiction (hr.mono (by decide)) rfl) pa_nil)))))))), ?_⟩
    walk_at "begin"
    walk_at "st"
    refine made1 fun a0 d0 H0 s0 ha0 hd0 e0 => ?_
    walk_at "st"
    refine made1 fun a1 d1 H1 s1 ha1 hd1 e1 => ?_
    walk_at "st"
    refine made1 fun a2 d2 H2 s2 ha2 hd2 e2 => ?_
    walk_at "st"
    refine madeL (by walk_at "ll") hz fun a3 d3 L3 q3 H3 s3 ha3 hd3 hL3 hq3 nd3 e3 eL3 => ?_
    walk_at "st"
    refine madeL (by walk_at "ll") hz fun a4 d4 L4 q4 H4 s4 ha4 hd4 hL4 hq4 nd4 e4 eL4 => ?_
    walk_at "st"
    refine made1 fun a5 d5 H5 s5 ha5 hd5 e5 => ?_
    walk_at "st"
    refine made1 fun a6 d6 H6 s6 ha6 hd6 e6 => ?_
    walk_at "st"
    refine made1 fun a7 d7 H7 s7 ha7 hd7 e7 => ?_
    walk_at "st"
    refine made1 fun a8 d8 H8 s8 ha8 hd8 e8 => ?_
    walk_at "st"
    refine made1 fun a9 d9 H9 s9 ha9 hd9 e9 => ?_
    walk_at "st"
    refine made1 fun a10 d10 H10 s10 ha10 hd10 e10 => ?_
    walk_at "st"
    refine made2 fun a11 d11 H11 s11 ha11 hd11 e11 => ?_
    walk_at "st"
    refine made1 fun a12 d12 H12 s12 ha12 hd12 e12 => ?_
    walk_at "st"
    refine made0 fun a13 H13 s13 ha13 e13 => ?_
    walk_at "st"
    have L3i : ∀ {H'}, Same H3 H' → H' L3 = some _ := fun s => s _ _ eL3.top
    have q3i : ∀ q ∈ q3, H3 q ≠ none := fun q hq => by
      obtain ⟨k, hk⟩ := List.getElem?_of_mem hq
      obtain ⟨_, _, z⟩ := Paired.at eL3.all hk
      rw [z]; simp
    have q4i : ∀ q ∈ q4, H4 q ≠ none := fun q hq => by
      obtain ⟨k, hk⟩ := List.getElem?_of_mem hq
      obtain ⟨_, _, z⟩ := Paired.at eL4.all hk
      rw [z]; simp
    have s34 : Same H3 H4 := by walk_at "same"
    refine h _ (fun i => [a0, a1, a2, a3, a4, a5, a6, a7, a8, a9, a10, a11, a12, a13].getD i a0) L3 q3 L4 q4 _ (by walk_at "same") (by walk_at "free") ⟨?_, ?_, ?_, ?_, ?_, ?_, ?_⟩ ?_
    · exact ne_of_none (L3i (show Same H3 _ by walk_at "same")) (hL4)
    · refine (ne_of_none (H := H13) (L3i (by walk_at "same")) ?_).symm
      walk_at "free"
    · refine (ne_of_none (H := H13) ((show Same H4 H13 by walk_at "same") _ _ eL4.top) ?_).symm
      walk_at "free"
    · intro q hq
      have hn := (hq3 q hq).1
      have hs : ∀ {b : Addr} {Hb : Hp}, Same H3 Hb → Hb b = none → q ≠ b := fun s hb z => by
        subst z
        exact q3i q hq (Same.free s hb)
      refine ⟨by walk_at "free", hs (show Same H3 H13 by walk_at "same") (by walk_at "free"), (hq3 q hq).2, hs (by walk_at "same") hL4⟩
    · intro q hq
      have hn := (hq4 q hq).1
      refine ⟨by walk_at "free", fun z => ?_, fun z => ?_, (hq4 q hq).2, fun z => ?_⟩
      · subst z
        exact q4i q hq (Same.free (show Same H4 H13 by walk_at "same") (by walk_at "free"))
      · subst z
        exact absurd (Same.free (show Same H3 _ by walk_at "same") hn) (by rw [eL3.top]; simp)
      · exact q3i q z (Same.free (show Same H3 _ by walk_at "same") hn)
    · walk_at "free"
    · walk_at "free"
    · intro H'' k
      refine ⟨k _ _ (by walk_at "free") (by walk_at "hl"), fun i hi => ?_, ⟨k _ _ (by walk_at "free") ((show Same H13 _ by walk_at "same") _ _ e13.ob)⟩, ?_, ?_⟩
      · match i, hi with
        | 0, _ => exact errGo k (show Same H H0 by walk_at "same") (by walk_at "same") e0 (by walk_at "free") (by walk_at "free")
        | 1, _ => exact errGo k (show Same H H1 by walk_at "same") (by walk_at "same") e1 (by walk_at "free") (by walk_at "free")
        | 2, _ => exact errGo k (show Same H H2 by walk_at "same") (by walk_at "same") e2 (by walk_at "free") (by walk_at "free")
        | 3, _ => exact errGo k (show Same H H3 by walk_at "same") (by walk_at "same") e3 (by walk_at "free") (by walk_at "free")
        | 4, _ => exact errGo k (show Same H H4 by walk_at "same") (by walk_at "same") e4 (by walk_at "free") (by walk_at "free")
        | 5, _ => exact errGo k (show Same H H5 by walk_at "same") (by walk_at "same") e5 (by walk_at "free") (by walk_at "free")
        | 6, _ => exact errGo k (show Same H H6 by walk_at "same") (by walk_at "same") e6 (by walk_at "free") (by walk_at "free")
        | 7, _ => exact errGo k (show Same H H7 by walk_at "same") (by walk_at "same") e7 (by walk_at "free") (by walk_at "free")
        | 8, _ => exact errGo k (show Same H H8 by walk_at "same") (by walk_at "same") e8 (by walk_at "free") (by walk_at "free")
        | 9, _ => exact errGo k (show Same H H9 by walk_at "same") (by walk_at "same") e9 (by walk_at "free") (by walk_at "free")
        | 10, _ => exact errGo k (show Same H H10 by walk_at "same") (by walk_at "same") e10 (by walk_at "free") (by walk_at "free")
        | 11, _ => exact errGo k (show Same H H11 by walk_at "same") (by walk_at "same") e11 (by walk_at "free") (by walk_at "free")
        | 12, _ => exact errGo k (show Same H H12 by walk_at "same") (by walk_at "same") e12 (by walk_at "free") (by walk_at "free")
      · refine eL3.mono fun b hb o q => k b o ?_ ((show Same H3 _ by walk_at "same") _ _ q)
        rcases hb with rfl | hb
        · walk_at "free"
        · have hn := (hq3 b hb).1
          walk_at "free"
      · refine eL4.mono fun b hb o q => k b o ?_ ((show Same H4 _ by walk_at "same") _ _ q)
        rcases hb with rfl | hb
        · walk_at "free"
        · have hn := (hq4 b hb).1
          walk_at "free"
abbrev s_law_by_names : Stmt := top 22
theorem sc_law_by_names : FnScope ["_law_figure", "_law_value", "_law_lists", "_law_found"] ["_law_figure", "_law_value", "_law_lists"] (defScope s_law_by_names) := ⟨rfl, rfl, rfl, by decide +kernel, rfl, by decide +kernel, by decide +kernel⟩
theorem ok_by_names {f : Addr} {fd : FuncData} (F : Fun K "_law_by_names" "_law_by_names" s_law_by_names f fd) (T : Tc K mg C S) (Er : Ec P w K mg base C) : FnOk P w K mg base CX0 3 f fd ["_law_figure", "_law_value", "_law_lists"] (spMade C) := by
  refine F.ok sc_law_by_names (fun vs H Q E h => ?_) (fun cdv A outer s H vs Q E hr h => ?_)
  · obtain ⟨_, _, _, _, _, rfl, _⟩ := h
    rfl
  · obtain ⟨fig, v, l, ps, xss, rfl, el, hz, h⟩ := h
    have hu := hr.units
    refine ⟨_, (pss_cons (ps_set (i := 3) sc_law_by_names.nd rfl (by first | exact Or.inl rfl | exact Or.inr rfl) (pe_lst (pa_cons (pe_errKE Er.e_InvalidGraph (hr.mono (by decide)) rfl (pk_cons (pv 0) pk_nil)) (pa_cons (pe_errKE Er.e_InvalidOrder (hr.mono (by decide)) rfl (pk_cons pe_non pk_nil)) (pa_cons (pe_errKE Er.e_InvalidMachine (hr.mono (by decide)) rfl (pk_cons (pv 0) pk_nil)) pa_nil)))))
  (pss_cons (ps_set (i := 3) sc_law_by_names.nd rfl (by first | exact Or.inl rfl | exact Or.inr rfl) (pe_op op_plus (pv 3) (pe_lst (pa_cons (pe_errKE Er.e_NotARule (hr.mono (by decide)) rfl (pk_cons (pv 2) (pk_cons (pv 0) pk_nil))) (pa_cons (pe_errKE Er.e_NotLayered (hr.mono (by decide)) rfl (pk_cons (pv 0) (pk_cons (pv 2) pk_nil))) pa_nil)))))
  (pss_cons (ps_set (i := 3) sc_law_by_names.nd rfl (by first | exact Or.inl rfl | exact Or.inr rfl) (pe_op op_plus (pv 3) (pe_lst (pa_cons (pe_errKE Er.e_InvalidSet (hr.mono (by decide)) rfl (pk_cons (pv 1) pk_nil)) (pa_cons (pe_errKE Er.e_InvalidNumber (hr.mono (by decide)) rfl (pk_cons (pv 1) pk_nil)) (pa_cons (pe_errKE Er.e_UnknownName (hr.mono (by decide)) rfl (pk_cons (pv 1) pk_nil)) pa_nil))))))
  (pss_cons (ps_set (i := 3) sc_law_by_names.nd rfl (by first | exact Or.inl rfl | exact Or.inr rfl) (pe_op op_plus (pv 3) (pe_lst (pa_cons (pe_errKE Er.e_InvalidText (hr.mono (by decide)) rfl (pk_cons (pv 0) pk_nil)) (pa_cons (pe_errKE Er.e_InvalidTree (hr.mono (by decide)) rfl (pk_cons pe_non pk_nil)) (pa_cons (pe_errKE Er.e_NotInClass (hr.mono (by decide)) rfl (pk_cons pe_str pk_nil)) pa_nil))))))
  (pss_one (ps_ret (pe_op op_plus (pv 3) (pe_lst (pa_cons (pe_errKE Er.e_NotGrowing (hr.mono (by decide)) rfl (pk_cons pe_int (pk_cons (pv 0) pk_nil))) (pa_cons (pe_errKE Er.e_TooMany (hr.mono (by decide)) rfl (pk_cons (pv 0) pk_nil)) (pa_cons (pe_errE0 Er.e_Contradiction (hr.mono (by decide)) rfl) pa_nil))))))))))), ?_⟩
    walk_at "begin"
    walk_at "st"
    refine made1 fun a0 d0 H0 s0 ha0 hd0 e0 => ?_
    walk_at "st"
    refine made1 fun a1 d1 H1 s1 ha1 hd1 e1 => ?_
    walk_at "st"
    refine made1 fun a2 d2 H2 s2 ha2 hd2 e2 => ?_
    walk_at "st"
    refine madeL (by walk_at "ll") hz fun a3 d3 L3 q3 H3 s3 ha3 hd3 hL3 hq3 nd3 e3 eL3 => ?_
    walk_at "st"
    refine madeL (by walk_at "ll") hz fun a4 d4 L4 q4 H4 s4 ha4 hd4 hL4 hq4 nd4 e4 eL4 => ?_
    walk_at "st"
    refine made1 fun a5 d5 H5 s5 ha5 hd5 e5 => ?_
    walk_at "st"
    refine made1 fun a6 d6 H6 s6 ha6 hd6 e6 => ?_
    walk_at "st"
    refine made1 fun a7 d7 H7 s7 ha7 hd7 e7 => ?_
    walk_at "st"
    refine made1 fun a8 d8 H8 s8 ha8 hd8 e8 => ?_
    walk_at "st"
    refine made1 fun a9 d9 H9 s9 ha9 hd9 e9 => ?_
    walk_at "st"
    refine made1 fun a10 d10 H10 s10 ha10 hd10 e10 => ?_
    walk_at "st"
    refine made2 fun a11 d11 H11 s11 ha11 hd11 e11 => ?_
    walk_at "st"
    refine made1 fun a12 d12 H12 s12 ha12 hd12 e12 => ?_
    walk_at "st"
    refine made0 fun a13 H13 s13 ha13 e13 => ?_
    walk_at "st"
    have L3i : ∀ {H'}, Same H3 H' → H' L3 = some _ := fun s => s _ _ eL3.top
    have q3i : ∀ q ∈ q3, H3 q ≠ none := fun q hq => by
      obtain ⟨k, hk⟩ := List.getElem?_of_mem hq
      obtain ⟨_, _, z⟩ := Paired.at eL3.all hk
      rw [z]; simp
    have q4i : ∀ q ∈ q4, H4 q ≠ none := fun q hq => by
      obtain ⟨k, hk⟩ := List.getElem?_of_mem hq
      obtain ⟨_, _, z⟩ := Paired.at eL4.all hk
      rw [z]; simp
    have s34 : Same H3 H4 := by walk_at "same"
    refine h _ (fun i => [a0, a1, a2, a3, a4, a5, a6, a7, a8, a9, a10, a11, a12, a13].getD i a0) L3 q3 L4 q4 _ (by walk_at "same") (by walk_at "free") ⟨?_, ?_, ?_, ?_, ?_, ?_, ?_⟩ ?_
    · exact ne_of_none (L3i (show Same H3 _ by walk_at "same")) (hL4)
    · refine (ne_of_none (H := H13) (L3i (by walk_at "same")) ?_).symm
      walk_at "free"
    · refine (ne_of_none (H := H13) ((show Same H4 H13 by walk_at "same") _ _ eL4.top) ?_).symm
      walk_at "free"
    · intro q hq
      have hn := (hq3 q hq).1
      have hs : ∀ {b : Addr} {Hb : Hp}, Same H3 Hb → Hb b = none → q ≠ b := fun s hb z => by
        subst z
        exact q3i q hq (Same.free s hb)
      refine ⟨by walk_at "free", hs (show Same H3 H13 by walk_at "same") (by walk_at "free"), (hq3 q hq).2, hs (by walk_at "same") hL4⟩
    · intro q hq
      have hn := (hq4 q hq).1
      refine ⟨by walk_at "free", fun z => ?_, fun z => ?_, (hq4 q hq).2, fun z => ?_⟩
      · subst z
        exact q4i q hq (Same.free (show Same H4 H13 by walk_at "same") (by walk_at "free"))
      · subst z
        exact absurd (Same.free (show Same H3 _ by walk_at "same") hn) (by rw [eL3.top]; simp)
      · exact q3i q z (Same.free (show Same H3 _ by walk_at "same") hn)
    · walk_at "free"
    · walk_at "free"
    · intro H'' k
      refine ⟨k _ _ (by walk_at "free") (by walk_at "hl"), fun i hi => ?_, ⟨k _ _ (by walk_at "free") ((show Same H13 _ by walk_at "same") _ _ e13.ob)⟩, ?_, ?_⟩
      · match i, hi with
        | 0, _ => exact errGo k (show Same H H0 by walk_at "same") (by walk_at "same") e0 (by walk_at "free") (by walk_at "free")
        | 1, _ => exact errGo k (show Same H H1 by walk_at "same") (by walk_at "same") e1 (by walk_at "free") (by walk_at "free")
        | 2, _ => exact errGo k (show Same H H2 by walk_at "same") (by walk_at "same") e2 (by walk_at "free") (by walk_at "free")
        | 3, _ => exact errGo k (show Same H H3 by walk_at "same") (by walk_at "same") e3 (by walk_at "free") (by walk_at "free")
        | 4, _ => exact errGo k (show Same H H4 by walk_at "same") (by walk_at "same") e4 (by walk_at "free") (by walk_at "free")
        | 5, _ => exact errGo k (show Same H H5 by walk_at "same") (by walk_at "same") e5 (by walk_at "free") (by walk_at "free")
        | 6, _ => exact errGo k (show Same H H6 by walk_at "same") (by walk_at "same") e6 (by walk_at "free") (by walk_at "free")
        | 7, _ => exact errGo k (show Same H H7 by walk_at "same") (by walk_at "same") e7 (by walk_at "free") (by walk_at "free")
        | 8, _ => exact errGo k (show Same H H8 by walk_at "same") (by walk_at "same") e8 (by walk_at "free") (by walk_at "free")
        | 9, _ => exact errGo k (show Same H H9 by walk_at "same") (by walk_at "same") e9 (by walk_at "free") (by walk_at "free")
        | 10, _ => exact errGo k (show Same H H10 by walk_at "same") (by walk_at "same") e10 (by walk_at "free") (by walk_at "free")
        | 11, _ => exact errGo k (show Same H H11 by walk_at "same") (by walk_at "same") e11 (by walk_at "free") (by walk_at "free")
        | 12, _ => exact errGo k (show Same H H12 by walk_at "same") (by walk_at "same") e12 (by walk_at "free") (by walk_at "free")
      · refine eL3.mono fun b hb o q => k b o ?_ ((show Same H3 _ by walk_at "same") _ _ q)
        rcases hb with rfl | hb
        · walk_at "free"
        · have hn := (hq3 b hb).1
          walk_at "free"
      · refine eL4.mono fun b hb o q => k b o ?_ ((show Same H4 _ by walk_at "same") _ _ q)
        rcases hb with rfl | hb
        · walk_at "free"
        · have hn := (hq4 b hb).1
          walk_at "free"
end
end K42

open PySem L2 Sx
namespace K42
section
variable {P : Program} {w : World} {K : PySem.W.Frag} {mg : Str → Option Value} {base : Heap} {C : Nat → Addr} {S : Addr}
def spClasses (C : Nat → Addr) : Sp := fun vs H Q _ => ∃ (a : Addr) (i : Nat), vs = [.ref a] ∧ i < 14 ∧ IsErr H a (C i) ∧
  ∀ r s H', Same H H' → H r = none → H' r = some (.lst [.ref s, .bl true, .bl true]) → H' s = some (.lst ([0, 1, 2, 3, 4, 5, 6, 7, 8, 9, 10, 11, 12, 13].map fun j => .bl (decide (i = j)))) → Q (.ref r) H'
abbrev s_law_classes : Stmt := top 20
theorem sc_law_classes : FnScope ["_law_error", "_law_some"] ["_law_error"] (defScope s_law_classes) := ⟨rfl, rfl, rfl, by decide +kernel, rfl, by decide +kernel, by decide +kernel⟩
theorem ok_classes {f : Addr} {fd : FuncData} (F : Fun K "_law_classes" "_law_classes" s_law_classes f fd) (T : Tc K mg C S) : FnOk P w K mg base CX0 1 f fd ["_law_error"] (spClasses C) := by
  refine F.ok sc_law_classes (fun vs H Q E h => ?_) (fun cdv A outer s H vs Q E hr h => ?_)
  · obtain ⟨_, _, rfl, _⟩ := h
    rfl
  · obtain ⟨a, i, rfl, hi, he, h⟩ := h
    have hu := hr.units
    have te := (T.er i hi).e
    have kk := T.kk i hi
    refine ⟨_, (pss_cons (ps_set (i := 1) sc_law_classes.nd rfl (by first | exact Or.inl rfl | exact Or.inr rfl) (pe_lst (pa_cons (pe_callB call_is rfl T.b_isinstance (by decide +kernel) (pa_cons (pv 0) (pa_cons (pe_cls rfl T.m_InvalidGraph) pa_nil))) (pa_cons (pe_callB call_is rfl T.b_isinstance (by decide +kernel) (pa_cons (pv 0) (pa_cons (pe_cls rfl T.m_InvalidOrder) pa_nil))) (pa_cons (pe_callB call_is rfl T.b_isinstance (by decide +kernel) (pa_cons (pv 0) (pa_cons (pe_cls rfl T.m_InvalidMachine) pa_nil))) pa_nil)))))
  (pss_cons (ps_set (i := 1) sc_law_classes.nd rfl (by first | exact Or.inl rfl | exact Or.inr rfl) (pe_op op_plus (pv 1) (pe_lst (pa_cons (pe_callB call_is rfl T.b_isinstance (by decide +kernel) (pa_cons (pv 0) (pa_cons (pe_cls rfl T.m_NotARule) pa_nil))) (pa_cons (pe_callB call_is rfl T.b_isinstance (by decide +kernel) (pa_cons (pv 0) (pa_cons (pe_cls rfl T.m_NotLayered) pa_nil))) (pa_cons (pe_callB call_is rfl T.b_isinstance (by decide +kernel) (pa_cons (pv 0) (pa_cons (pe_cls rfl T.m_InvalidSet) pa_nil))) pa_nil))))))
  (pss_cons (ps_set (i := 1) sc_law_classes.nd rfl (by first | exact Or.inl rfl | exact Or.inr rfl) (pe_op op_plus (pv 1) (pe_lst (pa_cons (pe_callB call_is rfl T.b_isinstance (by decide +kernel) (pa_cons (pv 0) (pa_cons (pe_cls rfl T.m_InvalidNumber) pa_nil))) (pa_cons (pe_callB call_is rfl T.b_isinstance (by decide +kernel) (pa_cons (pv 0) (pa_cons (pe_cls rfl T.m_UnknownName) pa_nil))) (pa_cons (pe_callB call_is rfl T.b_isinstance (by decide +kernel) (pa_cons (pv 0) (pa_cons (pe_cls rfl T.m_InvalidText) pa_nil))) pa_nil))))))
  (pss_cons (ps_set (i := 1) sc_law_classes.nd rfl (by first | exact Or.inl rfl | exact Or.inr rfl) (pe_op op_plus (pv 1) (pe_lst (pa_cons (pe_callB call_is rfl T.b_isinstance (by decide +kernel) (pa_cons (pv 0) (pa_cons (pe_cls rfl T.m_InvalidTree) pa_nil))) (pa_cons (pe_callB call_is rfl T.b_isinstance (by decide +kernel) (pa_cons (pv 0) (pa_cons (pe_cls rfl T.m_NotInClass) pa_nil))) (pa_cons (pe_callB call_is rfl T.b_isinstance (by decide +kernel) (pa_cons (pv 0) (pa_cons (pe_cls rfl T.m_NotGrowing) pa_nil))) pa_nil))))))
  (pss_cons (ps_set (i := 1) sc_law_classes.nd rfl (by first | exact Or.inl rfl | exact Or.inr rfl) (pe_op op_plus (pv 1) (pe_lst (pa_cons (pe_callB call_is rfl T.b_isinstance (by decide +kernel) (pa_cons (pv 0) (pa_cons (pe_cls rfl T.m_TooMany) pa_nil))) (pa_cons (pe_callB call_is rfl T.b_isinstance (by decide +kernel) (pa_cons (pv 0) (pa_cons (pe_cls rfl T.m_Contradiction) pa_nil))) pa_nil)))))
  (pss_one (ps_ret (pe_lst (pa_cons (pv 1) (pa_cons (pe_callB call_is rfl T.b_isinstance (by decide +kernel) (pa_cons (pv 0) (pa_cons (pe_cls rfl T.m_SearchError) pa_nil))) (pa_cons (pe_callB call_is rfl T.b_isinstance (by decide +kernel) (pa_cons (pv 0) (pa_cons (pe_bltn (v := .ty "ValueError") rfl T.b_ValueError (by decide +kernel) rfl) pa_nil))) pa_nil))))))))))), ?_⟩
    walk_at "begin"
    walk_at "st"
    iterate 14 (refine s_isErr (isErr_same (by walk_at "same") he) te (.own _) (kk _ (by decide)) ?_; walk_at "st")
    refine s_isErr (isErr_same (by walk_at "same") he) te (.own _) (T.kS i hi) ?_
    walk_at "st"
    refine s_isErr (isErr_same (by walk_at "same") he) te (.ty _) (T.kV i hi) ?_
    walk_at "st"
    exact h _ _ _ (by walk_at "same") (by walk_at "free") (by walk_at "hl") (by walk_at "hl")
/-- the sixteen fields -/
abbrev flV (fig v : V) (L3 L4 : Addr) : List V := [fig, .non, fig, fig, .ref L3, fig, .ref L4, v, v, v, fig, .non, .str "late", fig, .int 3, fig]
def spFields (C : Nat → Addr) : Sp := fun vs H Q _ => ∃ (r : Addr) (fig v : V) (xss : List (List V)) (a : Nat → Addr) (L3 : Addr) (q3 : List Addr) (L4 : Addr) (q4 : List Addr), vs = [.ref r] ∧ Made C H r fig v xss a L3 q3 L4 q4 ∧
  ∀ p H', Same H H' → H p = none → H' p = some (.lst (flV fig v L3 L4)) → Q (.ref p) H'
abbrev s_law_fields : Stmt := top 23
theorem sc_law_fields : FnScope ["_law_some", "_law_found"] ["_law_some"] (defScope s_law_fields) := ⟨rfl, rfl, rfl, by decide +kernel, rfl, by decide +kernel, by decide +kernel⟩
theorem ok_fields {f : Addr} {fd : FuncData} (F : Fun K "_law_fields" "_law_fields" s_law_fields f fd) (T : Tc K mg C S) : FnOk P w K mg base CX0 1 f fd ["_law_some"] (spFields C) := by
  refine F.ok sc_law_fields (fun vs H Q E h => ?_) (fun cdv A outer s H vs Q E hr h => ?_)
  · obtain ⟨_, _, _, _, _, _, _, _, _, rfl, _⟩ := h
    rfl
  · obtain ⟨r, fig, v, xss, a, L3, q3, L4, q4, rfl, M, h⟩ := h
    have hu := hr.units
    have top := M.top
    refine ⟨_, (pss_cons (ps_set (i := 1) sc_law_fields.nd rfl (by first | exact Or.inl rfl | exact Or.inr rfl) (pe_lst (pa_cons (pe_errF (pe_ix ix_seq (pv 0) pe_int (fun _ _ => rfl))) (pa_cons (pe_errF (pe_ix ix_seq (pv 0) pe_int (fun _ _ => rfl))) (pa_cons (pe_errF (pe_ix ix_seq (pv 0) pe_int (fun _ _ => rfl))) (pa_cons (pe_errF (pe_ix ix_seq (pv 0) pe_int (fun _ _ => rfl))) (pa_cons (pe_errF (pe_ix ix_seq (pv 0) pe_int (fun _ _ => rfl))) (pa_cons (pe_errF (pe_ix ix_seq (pv 0) pe_int (fun _ _ => rfl))) (pa_cons (pe_errF (pe_ix ix_seq (pv 0) pe_int (fun _ _ => rfl))) pa_nil)))))))))
  (pss_cons (ps_set (i := 1) sc_law_fields.nd rfl (by first | exact Or.inl rfl | exact Or.inr rfl) (pe_op op_plus (pv 1) (pe_lst (pa_cons (pe_errF (pe_ix ix_seq (pv 0) pe_int (fun _ _ => rfl))) (pa_cons (pe_errF (pe_ix ix_seq (pv 0) pe_int (fun _ _ => rfl))) (pa_cons (pe_errF (pe_ix ix_seq (pv 0) pe_int (fun _ _ => rfl))) (pa_cons (pe_errF (pe_ix ix_seq (pv 0) pe_int (fun _ _ => rfl))) (pa_cons (pe_errF (pe_ix ix_seq (pv 0) pe_int (fun _ _ => rfl))) (pa_cons (pe_errF (pe_ix ix_seq (pv 0) pe_int (fun _ _ => rfl))) pa_nil)))))))))
  (pss_one (ps_ret (pe_op op_plus (pv 1) (pe_lst (pa_cons (pe_errF (pe_ix ix_seq (pv 0) pe_int (fun _ _ => rfl))) (pa_cons (pe_errF (pe_ix ix_seq (pv 0) pe_int (fun _ _ => rfl))) (pa_cons (pe_errF (pe_ix ix_seq (pv 0) pe_int (fun _ _ => rfl))) pa_nil))))))))), ?_⟩
    walk_at "begin"
    walk_at "st"
    obtain ⟨d0, e0⟩ := M.er 0 (by decide)
    refine ⟨_, _, _, _, _, rfl, e0.same (by walk_at "same"), (T.er 0 (by decide)).e, T.nf 0 (by decide) _ (by decide), rfl, ?_⟩
    walk_at "st"
    obtain ⟨d1, e1⟩ := M.er 1 (by decide)
    refine ⟨_, _, _, _, _, rfl, e1.same (by walk_at "same"), (T.er 1 (by decide)).e, T.nf 1 (by decide) _ (by decide), rfl, ?_⟩
    walk_at "st"
    obtain ⟨d2, e2⟩ := M.er 2 (by decide)
    refine ⟨_, _, _, _, _, rfl, e2.same (by walk_at "same"), (T.er 2 (by decide)).e, T.nf 2 (by decide) _ (by decide), rfl, ?_⟩
    walk_at "st"
    obtain ⟨d3, e3⟩ := M.er 3 (by decide)
    refine ⟨_, _, _, _, _, rfl, e3.same (by walk_at "same"), (T.er 3 (by decide)).e, T.nf 3 (by decide) _ (by decide), rfl, ?_⟩
    walk_at "st"
    obtain ⟨d4, e4⟩ := M.er 3 (by decide)
    refine ⟨_, _, _, _, _, rfl, e4.same (by walk_at "same"), (T.er 3 (by decide)).e, T.nf 3 (by decide) _ (by decide), rfl, ?_⟩
    walk_at "st"
    obtain ⟨d5, e5⟩ := M.er 4 (by decide)
    refine ⟨_, _, _, _, _, rfl, e5.same (by walk_at "same"), (T.er 4 (by decide)).e, T.nf 4 (by decide) _ (by decide), rfl, ?_⟩
    walk_at "st"
    obtain ⟨d6, e6⟩ := M.er 4 (by decide)
    refine ⟨_, _, _, _, _, rfl, e6.same (by walk_at "same"), (T.er 4 (by decide)).e, T.nf 4 (by decide) _ (by decide), rfl, ?_⟩
    walk_at "st"
    obtain ⟨d7, e7⟩ := M.er 5 (by decide)
    refine ⟨_, _, _, _, _, rfl, e7.same (by walk_at "same"), (T.er 5 (by decide)).e, T.nf 5 (by decide) _ (by decide), rfl, ?_⟩
    walk_at "st"
    obtain ⟨d8, e8⟩ := M.er 6 (by decide)
    refine ⟨_, _, _, _, _, rfl, e8.same (by walk_at "same"), (T.er 6 (by decide)).e, T.nf 6 (by decide) _ (by decide), rfl, ?_⟩
    walk_at "st"
    obtain ⟨d9, e9⟩ := M.er 7 (by decide)
    refine ⟨_, _, _, _, _, rfl, e9.same (by walk_at "same"), (T.er 7 (by decide)).e, T.nf 7 (by decide) _ (by decide), rfl, ?_⟩
    walk_at "st"
    obtain ⟨d10, e10⟩ := M.er 8 (by decide)
    refine ⟨_, _, _, _, _, rfl, e10.same (by walk_at "same"), (T.er 8 (by decide)).e, T.nf 8 (by decide) _ (by decide), rfl, ?_⟩
    walk_at "st"
    obtain ⟨d11, e11⟩ := M.er 9 (by decide)
    refine ⟨_, _, _, _, _, rfl, e11.same (by walk_at "same"), (T.er 9 (by decide)).e, T.nf 9 (by decide) _ (by decide), rfl, ?_⟩
    walk_at "st"
    obtain ⟨d12, e12⟩ := M.er 10 (by decide)
    refine ⟨_, _, _, _, _, rfl, e12.same (by walk_at "same"), (T.er 10 (by decide)).e, T.nf 10 (by decide) _ (by decide), rfl, ?_⟩
    walk_at "st"
    obtain ⟨d13, e13⟩ := M.er 11 (by decide)
    refine ⟨_, _, _, _, _, rfl, e13.same (by walk_at "same"), (T.er 11 (by decide)).e, T.nf 11 (by decide) _ (by decide), rfl, ?_⟩
    walk_at "st"
    obtain ⟨d14, e14⟩ := M.er 11 (by decide)
    refine ⟨_, _, _, _, _, rfl, e14.same (by walk_at "same"), (T.er 11 (by decide)).e, T.nf 11 (by decide) _ (by decide), rfl, ?_⟩
    walk_at "st"
    obtain ⟨d15, e15⟩ := M.er 12 (by decide)
    refine ⟨_, _, _, _, _, rfl, e15.same (by walk_at "same"), (T.er 12 (by decide)).e, T.nf 12 (by decide) _ (by decide), rfl, ?_⟩
    walk_at "st"
    exact h _ _ (by walk_at "same") (by walk_at "free") (by walk_at "hl")
def spCopied (K : PySem.W.Frag) : Sp := fun vs H Q _ => ∃ (e l kl D d L q : Addr) (fs : List (Str × V)) (rest ys : List V) (ps ks : List Addr) (nss : List (List Int)), vs = [.ref e, .ref l, .ref kl] ∧
  Err H e D d fs ∧ ExcC K D ∧ PySem.W.findIn K (.ref D) "sets" = some none ∧ fs.lookup ("sets" : Str) = some (.ref L) ∧ H L = some (.lst (.ref q :: rest)) ∧ H q = some (.lst ys) ∧ q ≠ L ∧ rest.length < 1000 ∧ ys.length < 1000 ∧
  LL H l ps (vII nss) ∧ LL H kl ks (vII nss) ∧ Good 20110 2 (dII nss) ∧ l ∉ [L, q] ∧ kl ∉ [L, q] ∧ (∀ p ∈ ps, p ∉ [L, q]) ∧ (∀ p ∈ ks, p ∉ [L, q]) ∧ ∀ H', But [L, q] H H' → Q (.bl true) H'
abbrev s_law_copied : Stmt := top 24
theorem sc_law_copied : FnScope ["_law_error", "_law_lists", "_law_kept_here"] ["_law_error", "_law_lists", "_law_kept_here"] (defScope s_law_copied) := ⟨rfl, rfl, rfl, by decide +kernel, rfl, by decide +kernel, by decide +kernel⟩
theorem ok_copied {f : Addr} {fd : FuncData} (F : Fun K "_law_copied" "_law_copied" s_law_copied f fd) : FnOk P w K mg base CX0 1 f fd ["_law_error", "_law_lists", "_law_kept_here"] (spCopied K) := by
  refine F.ok sc_law_copied (fun vs H Q E h => ?_) (fun cdv A outer s H vs Q E hr h => ?_)
  · obtain ⟨_, _, _, _, _, _, _, _, _, _, _, _, _, rfl, _⟩ := h
    rfl
  · obtain ⟨e, l, kl, D, d, L, q, fs, rest, ys, ps, ks, nss, rfl, er, te, nf, lk, eL, eq, nqL, z1, z2, el, ek, gd, n1, n2, n3, n4, h⟩ := h
    have hu := hr.units
    refine ⟨_, (pss_cons (ps_expr (pe_bm PySem.F.plainAttrs_list PySem.F.slot_list_append PySem.F.type_list_append mt_append (pe_ix ix_seq (pe_errF (pv 0)) pe_int (fun _ _ => rfl)) (pa_cons pe_int pa_nil)))
  (pss_cons (ps_expr (pe_bm PySem.F.plainAttrs_list PySem.F.slot_list_append PySem.F.type_list_append mt_append (pe_errF (pv 0)) (pa_cons (pe_lst (pa_cons pe_int pa_nil)) pa_nil)))
  (pss_one (ps_ret (pe_cmpR (op_same hu) (pv 1) (pv 2) rfl))))), ?_⟩
    walk_at "begin"
    walk_at "st"
    refine s_field er te nf lk ?_
    walk_at "st"
    rename_i H1 m1
    have b1 : But [L, q] H H1 := But.put m1 (by simp)
    have eL1 : H1 L = some (.lst (.ref q :: rest)) := m1.get (Ne.symm nqL) eL
    have er1 : Err H1 e D d fs := ⟨b1.get (by simp only [List.mem_cons, List.not_mem_nil, or_false, not_or]; exact ⟨apart er.ob eL (fun z => nomatch z), apart er.ob eq (fun z => nomatch z)⟩) er.ob,
      b1.get (by simp only [List.mem_cons, List.not_mem_nil, or_false, not_or]; exact ⟨apart er.dc eL (fun z => nomatch z), apart er.dc eq (fun z => nomatch z)⟩) er.dc⟩
    refine s_field er1 te nf lk ?_
    walk_at "st"
    refine s_eqSame (LL.dp (el.but (show But [L, q] H _ by walk_at "but") n1 n3)) (LL.dp (ek.but (show But [L, q] H _ by walk_at "but") n2 n4)) gd (by decide) ?_
    walk_at "st"
    exact h _ (by walk_at "but")
def spKept : Sp := fun vs H Q _ => ∃ n : Int, vs = [.int n] ∧ n.natAbs < 10 ^ 38 ∧ ∀ H', Same H H' → Q (.bl true) H'
abbrev s_law_kept : Stmt := top 25
theorem sc_law_kept : FnScope ["_law_figure", "_law_value", "_law_made_here"] ["_law_figure"] (defScope s_law_kept) := ⟨rfl, rfl, rfl, by decide +kernel, rfl, by decide +kernel, by decide +kernel⟩
theorem ok_kept {f : Addr} {fd : FuncData} (F : Fun K "_law_kept" "_law_kept" s_law_kept f fd) (T : Tc K mg C S) (Er : Ec P w K mg base C) : FnOk P w K mg base CX0 3 f fd ["_law_figure"] spKept := by
  refine F.ok sc_law_kept (fun vs H Q E h => ?_) (fun cdv A outer s H vs Q E hr h => ?_)
  · obtain ⟨_, rfl, _⟩ := h
    rfl
  · obtain ⟨n, rfl, hn, h⟩ := h
    have hu := hr.units
    refine ⟨_, (pss_cons (ps_set (i := 1) sc_law_kept.nd rfl (by first | exact Or.inl rfl | exact Or.inr rfl) (pe_lst (pa_cons (pv 0) pa_nil)))
  (pss_cons (ps_set (i := 2) sc_law_kept.nd rfl (by first | exact Or.inl rfl | exact Or.inr rfl) (pe_lst (pa_cons (pe_errE Er.e_InvalidSet (hr.mono (by decide)) rfl (pa_cons (pv 1) pa_nil)) (pa_cons (pe_errE Er.e_InvalidNumber (hr.mono (by decide)) rfl (pa_cons (pv 1) pa_nil)) (pa_cons (pe_errE Er.e_UnknownName (hr.mono (by decide)) rfl (pa_cons (pv 1) pa_nil)) pa_nil)))))
  (pss_cons (ps_expr (pe_bm PySem.F.plainAttrs_list PySem.F.slot_list_append PySem.F.type_list_append mt_append (pv 1) (pa_cons pe_int pa_nil)))
  (pss_one (ps_ret (pe_cmpR (op_same hu) (pe_lst (pa_cons (pe_errF (pe_ix ix_seq (pv 2) pe_int (fun _ _ => rfl))) (pa_cons (pe_errF (pe_ix ix_seq (pv 2) pe_int (fun _ _ => rfl))) (pa_cons (pe_errF (pe_ix ix_seq (pv 2) pe_int (fun _ _ => rfl))) pa_nil)))) (pe_op op_times (pe_lst (pa_cons (pe_lst (pa_cons (pv 0) (pa_cons pe_int pa_nil))) pa_nil)) pe_int) rfl)))))), ?_⟩
    walk_at "begin"
    walk_at "st"
    refine made1 fun a0 d0 H0 s0 ha0 hd0 e0 => ?_
    walk_at "st"
    refine made1 fun a1 d1 H1 s1 ha1 hd1 e1 => ?_
    walk_at "st"
    refine made1 fun a2 d2 H2 s2 ha2 hd2 e2 => ?_
    walk_at "st"
    rename_i p H3 n3 pm H4 n4 H5 n5
    have hp : H5 p = some (.lst [.int n, .int 7]) := n5.here
    have hl : H4 p = some (.lst [.int n]) := by walk_at "hl"
    have f0 : Err H5 a0 (C 5) d0 [("thing", .ref p)] := (e0.same (by walk_at "same")).put n5 hl
    have f1 : Err H5 a1 (C 6) d1 [("number", .ref p)] := (e1.same (by walk_at "same")).put n5 hl
    have f2 : Err H5 a2 (C 7) d2 [("name", .ref p)] := (e2.same (by walk_at "same")).put n5 hl
    refine s_field f0 (T.er 5 (by decide)).e (T.nf 5 (by decide) _ (by decide)) rfl ?_
    walk_at "st"
    refine s_field f1 (T.er 6 (by decide)).e (T.nf 6 (by decide) _ (by decide)) rfl ?_
    walk_at "st"
    refine s_field f2 (T.er 7 (by decide)).e (T.nf 7 (by decide) _ (by decide)) rfl ?_
    walk_at "st"
    refine s_timesL (by walk_at "hl") (by decide) (by decide) (by rw [sizeLine_eq]; exact (by decide : 1 * 3 ≤ 16777216)) fun pr H9 n9 => ?_
    have dn : ∀ {Hx : Hp} {b : Addr}, Hx b = some (.lst [.int n, .int 7]) → Dp K Hx (.ref b) (.list ([n, 7].map PyData.int)) := fun e => Dp.lstH e (DpAll.ints [n, 7])
    have gd : Good 20110 2 (dII [[n, 7], [n, 7], [n, 7]]) := goodII (by simp) fun ns hm => by
      simp at hm; subst hm
      refine ⟨by simp, fun i hi => ?_⟩
      simp at hi
      rcases hi with rfl | rfl
      · exact hn
      · decide
    refine s_eqSame (d := dII [[n, 7], [n, 7], [n, 7]]) (Dp.lstH (by walk_at "hl") (.cons (dn (by walk_at "hl")) (.cons (dn (by walk_at "hl")) (.cons (dn (by walk_at "hl")) .nil))))
      (Dp.lstH n9.here (.cons (dn (by walk_at "hl")) (.cons (dn (by walk_at "hl")) (.cons (dn (by walk_at "hl")) .nil)))) gd (by decide) ?_
    walk_at "st"
    refine h _ ?_
    have s5 : Same H H5 := by
      refine Same.put (show Same H H4 by walk_at "same") n5 n3.free
    walk_at "same"
end
end K42

open PySem L2 Sx
namespace K42
section
variable {P : Program} {w : World} {K : PySem.W.Frag} {mg : Str → Option Value} {base : Heap} {C : Nat → Addr} {S : Addr}
theorem Made.same {H H' : Hp} {r : Addr} {fig v : V} {xss : List (List V)} {a : Nat → Addr} {L3 L4 : Addr} {q3 q4 : List Addr} (s : Same H H') (M : Made C H r fig v xss a L3 q3 L4 q4) : Made C H' r fig v xss a L3 q3 L4 q4 :=
  ⟨s _ _ M.top, fun i hi => let ⟨d, e⟩ := M.er i hi; ⟨d, e.same s⟩, ⟨s _ _ M.e0.ob⟩, M.l3.same s, M.l4.same s⟩
theorem Made.isErr {H : Hp} {r : Addr} {fig v : V} {xss : List (List V)} {a : Nat → Addr} {L3 L4 : Addr} {q3 q4 : List Addr} (M : Made C H r fig v xss a L3 q3 L4 q4) {i : Nat} (hi : i < 14) : IsErr H (a i) (C i) := by
  by_cases h : i < 13
  · obtain ⟨d, e⟩ := M.er i h
    exact .inr ⟨d, _, e⟩
  · obtain rfl : i = 13 := by omega
    exact .inl M.e0
theorem at14 (a : Nat → Addr) {i : Nat} (hi : i < 14) : ([.ref (a 0), .ref (a 1), .ref (a 2), .ref (a 3), .ref (a 4), .ref (a 5), .ref (a 6), .ref (a 7), .ref (a 8), .ref (a 9), .ref (a 10), .ref (a 11), .ref (a 12), .ref (a 13)] : List V)[i]? = some (.ref (a i)) := by
  show ((List.range 14).map fun i => V.ref (a i))[i]? = _
  rw [List.getElem?_map, List.getElem?_range hi]
  rfl
/-- data of 14 bools, and two more -/
def dCls (i : Nat) : PyData := .list [.list ((List.range 14).map fun j => .bool (decide (i = j))), .bool true, .bool true]
theorem good_cls (i : Nat) : Good 17 2 (dCls i) := by
  have a : GoodAll (14 * (0 + 1)) 0 ((List.range 14).map fun j => PyData.bool (decide (i = j))) := GoodAll.map (xs := List.range 14) fun j _ => Good.bool (decide (i = j))
  exact (Good.list (GoodAll.cons (k := 1) (Good.list a) (GoodAll.cons (k := 1) (Good.bool true) (GoodAll.cons (k := 1) (Good.bool true) (GoodAll.nil (k := 0))))))
/-- the fields as data -/
def dFl (n : Int) (d e : PyData) : PyData := .list [.int n, .none, .int n, .int n, e, .int n, e, d, d, d, .int n, .none, .str "late", .int n, .int 3, .int n]
theorem good_fl {n : Int} {d e : PyData} (hn : n.natAbs < 10 ^ 38) (gd : Good 300 1 d) (ge : Good 20110 2 e) : Good 100000 3 (dFl n d e) := by
  have i := Good.int hn
  have s : Good 10 0 (.str "late") := (Good.str (x := "late") (by decide +kernel) (by decide +kernel)).mono (by decide +kernel) (by decide)
  have t : Good 200 0 (.int 3) := Good.int (by decide)
  refine (Good.list (GoodAll.cons (k := 2) i (GoodAll.cons (k := 2) Good.none (GoodAll.cons (k := 2) i (GoodAll.cons (k := 2) i (GoodAll.cons (k := 2) ge (GoodAll.cons (k := 2) i (GoodAll.cons (k := 2) ge (GoodAll.cons (k := 2) gd (GoodAll.cons (k := 2) gd (GoodAll.cons (k := 2) gd
    (GoodAll.cons (k := 2) i (GoodAll.cons (k := 2) Good.none (GoodAll.cons (k := 2) s (GoodAll.cons (k := 2) i (GoodAll.cons (k := 2) t (GoodAll.cons (k := 2) i (GoodAll.nil (k := 0))))))))))))))))))).mono ?_ (by decide)
  decide
def forBody : Stmt → List Stmt
  | .For _ _ b _ _ => b
  | _ => []
abbrev s_law : Stmt := top 26
theorem sc_law : FnScope ["_law_script", "_law_k", "_law_pile_here", "_law_figure", "_law_value", "_law_lists", "_law_turn", "_law_kept_here", "_law_one", "_law_due", "_law_some", "_law_at", "_law_other", "_law_again"] ["_law_script"] (defScope s_law) := ⟨rfl, rfl, rfl, by decide +kernel, rfl, by decide +kernel, by decide +kernel⟩
abbrev Nl : List Str := ["_law_script", "_law_k", "_law_pile_here", "_law_figure", "_law_value", "_law_lists", "_law_turn", "_law_kept_here", "_law_one", "_law_due", "_law_some", "_law_at", "_law_other", "_law_again"]
abbrev body2 : List Stmt := forBody ((forBody ((defBody s_law).getD 0 (.Pass ⟨0, 0, 0, 0⟩))).getD 7 (.Pass ⟨0, 0, 0, 0⟩))
abbrev XL (P : Program) (w : World) (K : PySem.W.Frag) (mg : Str → Option Value) (base : Heap) (f : Addr) (cdv : Value) (outer : List Env) (s : Shared) (H0 : Hp) (E : XK) : Cx := (cxOf CX0 P w K mg base Nl "law" (defScope s_law) f cdv callerA outer s H0 E).nox
/-- the state's fixed part -/
abbrev sg (sa kk pi : V) (n : Int) (v : V) (l : Addr) (x6 : Option V) (kl : Addr) (x8 : Option V) (du : Addr) (x10 x11 x12 x13 : Option V) : St := [some sa, some kk, some pi, some (.int n), some v, some (.ref l), x6, some (.ref kl), x8, some (.ref du), x10, x11, x12, x13]
abbrev dueV (n : Int) (v : V) (kl : Addr) : List V := [.int n, .non, .int n, .int n, .ref kl, .int n, .ref kl, v, v, v, .int n, .non, .str "late", .int n, .int 3]
/-- what stands before the inner loop -/
structure Bef (K : PySem.W.Frag) (Hb : Hp) (n : Int) (v : V) (d : PyData) (l : Addr) (ps : List Addr) (kl : Addr) (ks : List Addr) (du : Addr) (ns : List Int) (nt : List (List Int)) : Prop where
  hn : n.natAbs < 10 ^ 38
  el : LL Hb l ps (vII (ns :: nt))
  ek : LL Hb kl ks (vII (ns :: nt))
  ed : Hb du = some (.lst (dueV n v kl))
  hv : ∀ H', Same Hb H' → Dp K H' v d
  gd : Good 300 1 d
  z1 : (ns :: nt).length ≤ 3
  z2 : ∀ xs ∈ ns :: nt, xs.length ≤ 3 ∧ ∀ i ∈ xs, i.natAbs < 10 ^ 38
  nl : l ∉ ps
  nd : ps.Nodup
set_option maxHeartbeats 8000000 in
theorem inner {f : Addr} {cdv : Value} {outer : List Env} {s : Shared} {H0 : Hp} {E : XK} (hr : Room 4 (XL P w K mg base f cdv outer s H0 E).A) (T : Tc K mg C S) (Er : Ec P w K mg base C)
    (h_law_classes : Ok P w K mg base CX0 1 "_law_classes" ["_law_error"] (spClasses C)) (h_law_fields : Ok P w K mg base CX0 1 "_law_fields" ["_law_some"] (spFields C))
    (h_law_copied : Ok P w K mg base CX0 1 "_law_copied" ["_law_error", "_law_lists", "_law_kept_here"] (spCopied K)) :
    ∃ t, PSs (XL P w K mg base f cdv outer s H0 E) body2 t ∧ ∀ (D : Ends) (Hb Hc : Hp) (sa kk pi v : V) (n : Int) (d : PyData) (l : Addr) (ps : List Addr) (kl : Addr) (ks : List Addr) (du : Addr) (ns : List Int) (nt : List (List Int)) (r : Addr) (a : Nat → Addr) (L3 : Addr) (q3 : List Addr) (L4 : Addr) (q4 : List Addr) (x6 x8 x11 x12 x13 : Option V),
      Bef K Hb n v d l ps kl ks du ns nt → Same Hb Hc → Made C Hc r (.int n) v (vII (ns :: nt)) a L3 q3 L4 q4 → Apart Hb r L3 q3 L4 q4 →
      (∀ H' x11 x12 x13, Same Hb H' → But (L3 :: L4 :: (q3 ++ q4)) Hc H' → D.nx (sg sa kk pi n v l x6 kl x8 du (some (.ref r)) x11 x12 x13) H') →
      t D (sg sa kk pi n v l x6 kl x8 du (some (.ref r)) x11 x12 x13) Hc := by
  have hu := hr.units
  have hg : (XL P w K mg base f cdv outer s H0 E).A.guards = some [] := rfl
  refine ⟨_, (pss_cons (ps_for PassesOwn.never rfl (pi_range1 rfl T.b_range (pa_cons pe_int pa_nil)) (pg_name (i := 11) sc_law.nd rfl (by first | exact Or.inl rfl | exact Or.inr rfl)) (pss_one (ps_if (pt_cmpR (op_differ hu) (pe_own h_law_classes (hr.mono (by decide)) rfl pass0 (pa_cons (pe_ix ix_seq (pv 10) (pv 11) (fun _ _ => rfl)) pa_nil)) (pe_lst (pa_cons (pe_lc (own := [("_law_other", 12)]) (g := gName 12) rfl sc_law.nd (pi_range1 rfl T.b_range (pa_cons pe_int pa_nil)) (blkOk_by (N := ["_law_script", "_law_k", "_law_pile_here", "_law_figure", "_law_value", "_law_lists", "_law_turn", "_law_kept_here", "_law_one", "_law_due", "_law_some", "_law_at", "_law_other", "_law_again"]) (sc := defScope s_law) (by decide +kernel)) (fun _ _ _ _ _ => (pg_name (i := 12) sc_law.nd rfl (by first | exact Or.inl rfl | exact Or.inr rfl))) (fun _ _ _ _ _ => pts_nil) (fun _ _ _ _ _ => (pe_cmpR op_eq (pv 11) (pv 12) rfl))) (pa_cons pe_bl (pa_cons pe_bl pa_nil)))) rfl) (pss_one (ps_ret pe_bl)) pss_nil)))
  (pss_cons (ps_if (pt_cmpR (op_differ hu) (pe_callB (call_repr hg hu) rfl T.b_repr (by decide +kernel) (pa_cons (pe_own h_law_fields (hr.mono (by decide)) rfl pass0 (pa_cons (pv 10) pa_nil)) pa_nil)) (pe_callB (call_repr hg hu) rfl T.b_repr (by decide +kernel) (pa_cons (pe_op op_plus (pv 9) (pe_lst (pa_cons (pv 3) pa_nil))) pa_nil)) rfl) (pss_one (ps_ret pe_bl)) pss_nil)
  (pss_cons (ps_if (PW.pt (pw_or (pt_not (pt_truth (pe_own h_law_copied (hr.mono (by decide)) rfl pass0 (pa_cons (pe_ix ix_seq (pv 10) pe_int (fun _ _ => rfl)) (pa_cons (pv 5) (pa_cons (pv 7) pa_nil)))) (by intro _; rfl))) (pw_or1 (pt_not (pt_truth (pe_own h_law_copied (hr.mono (by decide)) rfl pass0 (pa_cons (pe_ix ix_seq (pv 10) pe_int (fun _ _ => rfl)) (pa_cons (pv 5) (pa_cons (pv 7) pa_nil)))) (by intro _; rfl)))))) (pss_one (ps_ret pe_bl)) pss_nil)
  (pss_cons (ps_expr (pe_bm PySem.F.plainAttrs_list PySem.F.slot_list_append PySem.F.type_list_append mt_append (pe_ix ix_seq (pv 5) pe_int (fun _ _ => rfl)) (pa_cons pe_int pa_nil)))
  (pss_cons (ps_expr (pe_bm PySem.F.plainAttrs_list PySem.F.slot_list_append PySem.F.type_list_append mt_append (pv 5) (pa_cons (pe_lst pa_nil) pa_nil)))
  (pss_cons (ps_set (i := 13) sc_law.nd rfl (by first | exact Or.inl rfl | exact Or.inr rfl) (pe_errE Er.e_NotARule (hr.mono (by decide)) rfl (pa_cons (pv 3) (pa_cons (pv 5) pa_nil))))
  (pss_cons (ps_expr (pe_bm0 PySem.F.plainAttrs_list PySem.F.slot_list_pop PySem.F.type_list_pop mt_pop (pe_ix ix_seq (pv 5) pe_int (fun _ _ => rfl))))
  (pss_cons (ps_expr (pe_bm0 PySem.F.plainAttrs_list PySem.F.slot_list_pop PySem.F.type_list_pop mt_pop (pv 5)))
  (pss_one (ps_if (PW.pt (pw_or (pt_cmpR (op_differ hu) (pv 5) (pv 7) rfl) (pw_or1 (pt_cmpR (op_differ hu) (pe_errF (pv 13)) (pe_op op_plus (pe_op op_plus (pe_lst (pa_cons (pe_op op_plus (pe_ix ix_seq (pv 7) pe_int (fun _ _ => rfl)) (pe_lst (pa_cons pe_int pa_nil))) pa_nil)) (pe_slice sl_list (pv 7) (po_some pe_int) po_none)) (pe_lst (pa_cons (pe_lst pa_nil) pa_nil))) rfl)))) (pss_one (ps_ret pe_bl)) pss_nil)))))))))), ?_⟩
  rintro D Hb Hc sa kk pi v n d l ps kl ks du ns nt r a L3 q3 L4 q4 x6 x8 x11 x12 x13 B sb M ap h
  obtain ⟨p0, pt, rfl, hp0, hpt⟩ := B.el.split
  obtain ⟨k0, kt, rfl, hk0, hkt⟩ := B.ek.split
  obtain ⟨q30, qt3, rfl, hq3, hqt3⟩ := M.l3.split
  obtain ⟨q40, qt4, rfl, hq4, hqt4⟩ := M.l4.split
  simp only [XL, cxOf, Cx.nox, sg]
  walk_at "st"
  refine for_r0 (fun _ σ' H' => Same Hc H' ∧ ∃ x11 x12, σ' = sg sa kk pi n v l x6 kl x8 du (some (.ref r)) x11 x12 x13) ⟨Same.refl _, _, _, rfl⟩ ?_ ?_
  · rintro i σ' H' hi ⟨s1, y11, y12, rfl⟩
    have hi' : i < 14 := hi
    have top := s1 _ _ M.top
    simp only [sg]
    walk_at "st"
    refine s_ixL (SqL.of top) (atI_nat (at14 a hi')) ?_
    walk_at "st"
    refine ⟨a i, i, rfl, hi', (M.same s1).isErr hi', fun r' s' H1 s2 f1 e1 e2 => ?_⟩
    walk_at "st"
    dsimp only [List.map]
    have dc : ∀ {Hx : Hp} {b : Addr} {m : Nat}, Hx b = some (.lst ((List.range m).map fun j => V.bl (decide (i = j)))) → Dp K Hx (.ref b) (.list ((List.range m).map fun j => .bool (decide (i = j)))) := fun e => Dp.lstH e (DpAll.map (fun _ => .bl _) _)
    refine lc_r0 (fun D j H' => Same H1 H' ∧ H' D = some (.lst ((List.range j).map fun j => V.bl (decide (i = j))))) (fun D H' nw => ⟨nw.same, nw.here⟩) (fun D j H2 hj hD ⟨s3, e3⟩ => ?_) (fun D H2 hD ⟨s3, e3⟩ => ?_)
    · dsimp only [wipe, List.foldl, List.set_cons_succ, List.set_cons_zero]
      walk_at "st"
      refine s_wipe rfl ?_
      walk_at "st"
      refine s_rEq rfl ?_
      have hj' : j < 14 := hj
      refine s_kApp e3 (by rw [List.length_map, List.length_range, sizeLine_eq]; omega) fun H3 n3 => ⟨Same.put s3 n3 hD, ?_⟩
      have ei : decide (V.int (i : Int) = V.int (j : Int)) = decide (i = j) := by rw [dec_int]; by_cases h : i = j <;> simp [h]; omega
      rw [n3.here, List.range_succ, List.map_append, ei]
      rfl
    · walk_at "st"
      refine s_neSame (d := dCls i) (Dp.lstH (show _ = some (HO.lst [.ref s', .bl true, .bl true]) by walk_at "hl") (.cons (dc (m := 14) (show _ = some _ by walk_at "hl")) (.cons (.bl true) (.cons (.bl true) .nil))))
        (Dp.lstH (show _ = some (HO.lst [.ref D, .bl true, .bl true]) by walk_at "hl") (.cons (dc (m := 14) (show _ = some _ by walk_at "hl")) (.cons (.bl true) (.cons (.bl true) .nil)))) (good_cls i) (by decide) ?_
      walk_at "st"
      exact ⟨by walk_at "same", _, _, rfl⟩
  · rintro σ' H1 ⟨s1, y11, y12, rfl⟩
    simp only [sg]
    walk_at "st"
    refine ⟨r, .int n, v, vII (ns :: nt), a, L3, q30 :: qt3, L4, q40 :: qt4, rfl, M.same s1, fun pf H2 s2 f2 e2 => ?_⟩
    walk_at "st"
    have sB2 : Same Hb H2 := by walk_at "same"
    have gII : Good 20110 2 (dII (ns :: nt)) := goodII (Nat.le_trans B.z1 (by decide)) fun xs hx => ⟨Nat.le_trans (B.z2 xs hx).1 (by decide), (B.z2 xs hx).2⟩
    have gfl := good_fl B.hn B.gd gII
    have dI : ∀ {Hx : Hp}, Dp K Hx (.int n) (.int n) := .int n
    have d1 : Dp K H2 (.ref pf) (dFl n d (dII (ns :: nt))) := by
      have hv := B.hv H2 sB2
      have l3 := LL.dp (K := K) ((M.same s1).l3.same s2)
      have l4 := LL.dp (K := K) ((M.same s1).l4.same s2)
      exact Dp.lstH e2 (.cons dI (.cons .non (.cons dI (.cons dI (.cons l3 (.cons dI (.cons l4 (.cons hv (.cons hv (.cons hv (.cons dI (.cons .non (.cons (.str _) (.cons dI (.cons (.int 3) (.cons dI .nil))))))))))))))))
    refine s_reprG d1 gfl (by decide) (by decide) ?_
    have ed := B.ed
    walk_at "st"
    rename_i p3 H3 n3 p4 H4 n4
    have sC4 : Same Hc H4 := by
      clear sB2
      walk_at "same"
    have sB4 : Same Hb H4 := sb.trans sC4
    have d2 : Dp K H4 (.ref p4) (dFl n d (dII (ns :: nt))) := by
      have hv := B.hv H4 sB4
      have lk := LL.dp (K := K) (B.ek.same sB4)
      exact Dp.lstH n4.here (.cons dI (.cons .non (.cons dI (.cons dI (.cons lk (.cons dI (.cons lk (.cons hv (.cons hv (.cons hv (.cons dI (.cons .non (.cons (.str _) (.cons dI (.cons (.int 3) (.cons dI .nil))))))))))))))))
    refine s_reprG d2 gfl (by decide) (by decide) ?_
    walk_at "st"
    have M4 := M.same sC4
    have top4 := M4.top
    walk_at "st"
    have lt := M4.l3.lens
    have lt4 := M4.l4.lens
    rw [List.length_map] at lt lt4
    have z1 := B.z1
    have zn := (B.z2 ns List.mem_cons_self).1
    have f3 := ap.n3 q30 List.mem_cons_self
    have f4 := ap.n4 q40 List.mem_cons_self
    have old3 : ∀ {b : Addr} {o : HO}, Hb b = some o → b ∉ [L3, q30] := fun e => by
      simp only [List.mem_cons, List.not_mem_nil, or_false, not_or]
      exact ⟨ne_of_none e ap.f3, ne_of_none e f3.1⟩
    have old4 : ∀ {b : Addr} {o : HO}, Hb b = some o → b ∉ [L4, q40] := fun e => by
      simp only [List.mem_cons, List.not_mem_nil, or_false, not_or]
      exact ⟨ne_of_none e ap.f4, ne_of_none e f4.1⟩
    obtain ⟨d3, e3⟩ := M4.er 3 (by decide)
    obtain ⟨d4, e4⟩ := M4.er 4 (by decide)
    refine ⟨a 3, l, kl, C 3, d3, L3, q30, _, _, _, p0 :: pt, k0 :: kt, ns :: nt, rfl, e3, (T.er 3 (by decide)).e, T.nf 3 (by decide) _ (by decide), rfl, M4.l3.top, M4.l3.cons.1, f3.2.2.1, by rw [List.length_map]; omega, by rw [List.length_map]; omega,
      B.el.same sB4, B.ek.same sB4, gII, old3 B.el.top, old3 B.ek.top, fun p hp => let ⟨_, q⟩ := B.el.mem hp; old3 q, fun p hp => let ⟨_, q⟩ := B.ek.mem hp; old3 q, fun H5 b5 => ?_⟩
    have r5 := b5.get (by simp only [List.mem_cons, List.not_mem_nil, or_false, not_or]; exact ⟨ap.r3, Ne.symm f3.2.1⟩) top4
    have sB5 : Same Hb H5 := Same.but sB4 b5 (by simp; exact ⟨ap.f3, f3.1⟩)
    have ls3 : ∀ s ∈ [L3, q30], ∃ xs, H4 s = some (.lst xs) := by
      simp only [List.mem_cons, List.not_mem_nil, or_false, forall_eq_or_imp, forall_eq]
      exact ⟨⟨_, M4.l3.top⟩, ⟨_, M4.l3.cons.1⟩⟩
    have e5 := e4.but b5 ls3
    have L5 : H5 L4 = some (.lst (.ref q40 :: qt4.map V.ref)) := b5.get (by simp only [List.mem_cons, List.not_mem_nil, or_false, not_or]; exact ⟨Ne.symm ap.ne, Ne.symm f3.2.2.2⟩) M4.l4.top
    have q5 := b5.get (by simp only [List.mem_cons, List.not_mem_nil, or_false, not_or]; exact ⟨f4.2.2.1, fun z => f4.2.2.2.2 (z ▸ List.mem_cons_self)⟩) M4.l4.cons.1
    walk_at "st"
    refine ⟨a 4, l, kl, C 4, d4, L4, q40, _, _, _, p0 :: pt, k0 :: kt, ns :: nt, rfl, e5, (T.er 4 (by decide)).e, T.nf 4 (by decide) _ (by decide), rfl, L5, q5, f4.2.2.2.1, by rw [List.length_map]; omega, by rw [List.length_map]; omega,
      B.el.same sB5, B.ek.same sB5, gII, old4 B.el.top, old4 B.ek.top, fun p hp => let ⟨_, q⟩ := B.el.mem hp; old4 q, fun p hp => let ⟨_, q⟩ := B.ek.mem hp; old4 q, fun H6 b6 => ?_⟩
    have sB6 : Same Hb H6 := Same.but sB5 b6 (by simp; exact ⟨ap.f4, f4.1⟩)
    have bt : But (L3 :: L4 :: ((q30 :: qt3) ++ (q40 :: qt4))) Hc H6 := by
      refine But.trans (But.of sC4) (But.trans (b5.mono ?_) (b6.mono ?_)) <;> simp
    clear b5 b6 r5 e5 L5 q5 e3 e4 d2 d1
    have el6 : H6 l = some (.lst (.ref p0 :: pt.map V.ref)) := sB6 _ _ B.el.top
    have hp6 : H6 p0 = some (.lst (ns.map V.int)) := sB6 _ _ hp0
    have ek6 : H6 kl = some (.lst (.ref k0 :: kt.map V.ref)) := sB6 _ _ B.ek.top
    have hk6 : H6 k0 = some (.lst (ns.map V.int)) := sB6 _ _ hk0
    have ne0 : p0 ≠ l := fun z => B.nl (z ▸ List.mem_cons_self)
    have lp := B.el.lens
    have lk := B.ek.lens
    rw [List.length_map] at lp lk
    walk_at "st"
    rename_i H7 n7 e8 H8 n8 H9 n9
    have pt9 : Paired (fun p xs => H9 p = some (.lst xs)) pt (vII nt) := Paired.mono hpt fun b ys hb q => n9.get (fun z => B.nl (z ▸ List.mem_cons_of_mem _ hb)) (n8.get (n7.get (fun z => (List.nodup_cons.mp B.nd).1 (z ▸ hb)) (sB6 _ _ q)))
    have p9 : H9 p0 = some (.lst (ns.map V.int ++ [.int 99])) := by walk_at "hl"
    have e9 : H9 e8 = some (.lst []) := by walk_at "hl"
    have L9 : LL H9 l (p0 :: (pt ++ [e8])) (vII ((ns ++ [99]) :: (nt ++ [[]]))) := by
      refine ⟨by simpa using n9.here, .cons (by simpa using p9) ?_⟩
      have := PySem.Paired.snoc pt9 (show H9 e8 = some (.lst []) from e9)
      simpa using this
    refine madeL L9 (by simp; omega) fun a10 d10 L10 q10 H10 s10 f1 f2 f3' f4' nd10 er10 eL10 => ?_
    have l10 : H10 l = some (.lst (.ref p0 :: pt.map V.ref ++ [.ref e8])) := s10 _ _ n9.here
    have p10 : H10 p0 = some (.lst (ns.map V.int ++ [.int 99])) := s10 _ _ p9
    walk_at "st"
    refine s_popL p10 fun H11 n11 => ?_
    have l11 : H11 l = some (.lst (.ref p0 :: pt.map V.ref ++ [.ref e8])) := by walk_at "hl"
    walk_at "st"
    refine s_popL l11 fun H12 n12 => ?_
    have s12 : Same H6 H12 := back2 hp6 el6 (fun b o h1 h2 q => n12.get h2 (n11.get h1 (s10 _ _ (n9.get h2 (n8.get (n7.get h1 q)))))) (n12.get ne0 n11.here) n12.here
    have sB12 : Same Hb H12 := sB6.trans s12
    have ek12 : H12 kl = some (.lst (.ref k0 :: kt.map V.ref)) := s12 _ _ ek6
    have hk12 : H12 k0 = some (.lst (ns.map V.int)) := s12 _ _ hk6
    have er12 := (er10.put n11 p10).put n12 l11
    have l9 : H9 l = some (.lst (.ref p0 :: pt.map V.ref ++ [.ref e8])) := n9.here
    have eL12 := (eL10.put n11 (ne_of_none p9 f3').symm (fun h => ne_of_none p9 (f4' _ h).1 rfl)).put n12 (ne_of_none l9 f3').symm (fun h => ne_of_none l9 (f4' _ h).1 rfl)
    have kt12 : Paired (fun p xs => H12 p = some (.lst xs)) kt (vII nt) := Paired.mono hkt fun b ys hb q => sB12 _ _ q
    walk_at "st"
    refine s_neSame (LL.dp (B.el.same sB12)) (LL.dp (B.ek.same sB12)) gII (by decide) ?_
    walk_at "st"
    refine s_field er12 (T.er 3 (by decide)).e (T.nf 3 (by decide) _ (by decide)) rfl ?_
    walk_at "st"
    rename_i pa Ha na pz Hz nz py Hy ny px Hx nx
    rw [cutV_one] at nx
    walk_at "st"
    rename_i pu Hu nu pe He ne pd Hd nd pw Hw nw
    have g2 : Good 20110 2 (dII ((ns ++ [99]) :: (nt ++ [[]]))) := goodII (by simp at z1 ⊢; omega) fun xs hx => by
      rcases List.mem_cons.mp hx with rfl | hx
      · refine ⟨by simp; omega, fun i hi => ?_⟩
        rcases List.mem_append.mp hi with hi | hi
        · exact (B.z2 ns List.mem_cons_self).2 i hi
        · simp at hi; subst hi; decide
      · rcases List.mem_append.mp hx with hx | hx
        · exact ⟨Nat.le_trans (B.z2 xs (List.mem_cons_of_mem _ hx)).1 (by decide), (B.z2 xs (List.mem_cons_of_mem _ hx)).2⟩
        · simp at hx; subst hx; exact ⟨by simp, by simp⟩
    have sF : Same H12 Hw := by walk_at "same"
    have LW : LL Hw pw (pz :: (kt ++ [pe])) (vII ((ns ++ [99]) :: (nt ++ [[]]))) := by
      have ez : Hw pz = some (.lst (ns.map V.int ++ [.int 99])) := by walk_at "hl"
      have ee : Hw pe = some (.lst []) := by walk_at "hl"
      have this := PySem.Paired.snoc (Paired.mono kt12 fun b ys hb q => sF _ _ q) (show (fun p xs => Hw p = some (HO.lst xs)) pe [] from ee)
      exact ⟨by simpa using nw.here, .cons (by simpa using ez) (by simpa using this)⟩
    refine s_neSame (LL.dp (eL12.same sF)) (LL.dp LW) g2 (by decide) ?_
    walk_at "st"
    exact h _ _ _ _ (sB12.trans sF) (bt.trans (But.of (s12.trans sF)))
end
end K42

open PySem L2 Sx
namespace K42
section
variable {P : Program} {w : World} {K : PySem.W.Frag} {mg : Str → Option Value} {base : Heap} {C : Nat → Addr} {S : Addr}
def spLaw (K : PySem.W.Frag) : Sp := fun vs H Q _ => ∃ (a : Addr) (ns : List Int), vs = [.ref a] ∧ SqL K H a (ns.map V.int) ∧ ∀ H', Q (.bl true) H'
/-- what is drawn as a value, as data -/
theorem drawn (K : PySem.W.Frag) {n : Int} (hn : n.natAbs < 10 ^ 38) {j : Int} (h0 : 0 ≤ j) (h7 : j < 7) {l t : Addr} :
    ∃ v d, atI [.str "late", .non, .ref l, .bl true, .ref t, .str "", .int 0] j = some v ∧ Good 300 1 d ∧ ∀ H : Hp, H l = some (.lst [.int n]) → H t = some (.tup [.int n]) → Dp K H v d := by
  obtain ⟨i, rfl⟩ := Int.eq_ofNat_of_zero_le h0
  have g : Good 201 0 (.int n) := (Good.int hn).mono (by decide) (by decide)
  match i, h7 with
  | 0, _ => exact ⟨_, _, rfl, (Good.str (x := "late") (by decide +kernel) (by decide +kernel)).mono (by decide +kernel) (by decide), fun _ _ _ => .str _⟩
  | 1, _ => exact ⟨_, _, rfl, Good.none.mono (by decide) (by decide), fun _ _ _ => .non⟩
  | 2, _ => exact ⟨_, _, rfl, (Good.list (GoodAll.cons (k := 0) g (GoodAll.nil (k := 0)))).mono (by decide) (by decide), fun _ e _ => Dp.lstH e (.cons (.int n) .nil)⟩
  | 3, _ => exact ⟨_, _, rfl, (Good.bool true).mono (by decide) (by decide), fun _ _ _ => .bl true⟩
  | 4, _ => exact ⟨_, _, rfl, (Good.tuple (GoodAll.cons (k := 0) g (GoodAll.nil (k := 0)))).mono (by decide) (by decide), fun _ _ e => Dp.tupH e (.cons (.int n) .nil)⟩
  | 5, _ => exact ⟨_, _, rfl, (Good.str (x := "") (by decide +kernel) (by decide +kernel)).mono (by decide +kernel) (by decide), fun _ _ _ => .str _⟩
  | 6, _ => exact ⟨_, _, rfl, (Good.int (i := 0) (by decide)).mono (by decide) (by decide), fun _ _ _ => .int 0⟩
  | i + 7, h => exact absurd h (by omega)
theorem Pile.same {H H' : Hp} {p : Addr} (h : Pile H p) (s : Same H H') : Pile H' p := let ⟨a, b, c, e⟩ := h; ⟨a, b, c, s _ _ e⟩
theorem Apart.of {H H' : Hp} {r L3 L4 : Addr} {q3 q4 : List Addr} (s : Same H H') (h : Apart H' r L3 q3 L4 q4) : Apart H r L3 q3 L4 q4 :=
  ⟨h.ne, h.r3, h.r4, fun q hq => ⟨s.free (h.n3 q hq).1, (h.n3 q hq).2⟩, fun q hq => ⟨s.free (h.n4 q hq).1, (h.n4 q hq).2⟩, s.free h.f3, s.free h.f4⟩
theorem Made.there {H : Hp} {r : Addr} {fig v : V} {xss : List (List V)} {a : Nat → Addr} {L3 L4 : Addr} {q3 q4 : List Addr} (M : Made C H r fig v xss a L3 q3 L4 q4) : ∀ s ∈ L3 :: L4 :: (q3 ++ q4), ∃ xs, H s = some (.lst xs) := by
  intro s hs
  simp only [List.mem_cons, List.mem_append] at hs
  rcases hs with rfl | rfl | hs | hs
  · exact ⟨_, M.l3.top⟩
  · exact ⟨_, M.l4.top⟩
  · exact M.l3.mem hs
  · exact M.l4.mem hs
set_option maxHeartbeats 8000000 in
theorem ok_law {f : Addr} {fd : FuncData} (F : Fun K "law" "law" s_law f fd) (T : Tc K mg C S) (Er : Ec P w K mg base C)
    (h_law_pile : Ok P w K mg base CX0 1 "_law_pile" ["_law_script", "_law_k"] (spPile K)) (h_law_take : Ok P w K mg base CX0 2 "_law_take" ["_law_pile_here", "_law_many"] spTake)
    (h_law_kept : Ok P w K mg base CX0 3 "_law_kept" ["_law_figure"] spKept) (h_law_made : Ok P w K mg base CX0 3 "_law_made" ["_law_figure", "_law_value", "_law_lists"] (spMade C)) (h_law_by_names : Ok P w K mg base CX0 3 "_law_by_names" ["_law_figure", "_law_value", "_law_lists"] (spMade C))
    (h_law_classes : Ok P w K mg base CX0 1 "_law_classes" ["_law_error"] (spClasses C)) (h_law_fields : Ok P w K mg base CX0 1 "_law_fields" ["_law_some"] (spFields C))
    (h_law_copied : Ok P w K mg base CX0 1 "_law_copied" ["_law_error", "_law_lists", "_law_kept_here"] (spCopied K)) : At P w K mg base callerA f fd ["_law_script"] (spLaw K) := by
  refine Sx.at_of (k := 4) (N := Nl) ⟨rfl, by decide, by decide⟩ F sc_law (fun vs H Q E h => ?_) (fun cdv outer s H vs Q E hr h => ?_)
  · obtain ⟨_, _, rfl, _⟩ := h
    rfl
  obtain ⟨a, ns, rfl, hS, h⟩ := h
  have hu := hr.units
  obtain ⟨tb, hb_inner, hq⟩ := inner (f := f) (cdv := cdv) (outer := outer) (s := s) (H0 := H) (E := E) hr T Er h_law_classes h_law_fields h_law_copied
  refine ⟨_, (pss_cons (ps_for PassesOwn.never rfl (pi_range1 rfl T.b_range (pa_cons pe_int pa_nil)) (pg_name (i := 1) sc_law.nd rfl (by first | exact Or.inl rfl | exact Or.inr rfl)) (pss_cons (ps_set (i := 2) sc_law.nd rfl (by first | exact Or.inl rfl | exact Or.inr rfl) (pe_own h_law_pile (hr.mono (by decide)) rfl pass0 (pa_cons (pv 0) (pa_cons (pv 1) pa_nil))))
  (pss_cons (ps_set (i := 3) sc_law.nd rfl (by first | exact Or.inl rfl | exact Or.inr rfl) (pe_own h_law_take (hr.mono (by decide)) rfl pass0 (pa_cons (pv 2) (pa_cons (pe_op op_pow pe_int pe_int) pa_nil))))
  (pss_cons (ps_set (i := 4) sc_law.nd rfl (by first | exact Or.inl rfl | exact Or.inr rfl) (pe_ix ix_seq (pe_lst (pa_cons pe_str (pa_cons pe_non (pa_cons (pe_lst (pa_cons (pv 3) pa_nil)) (pa_cons pe_bl (pa_cons (pe_tup (pa_cons (pv 3) pa_nil)) (pa_cons pe_str (pa_cons pe_int pa_nil)))))))) (pe_own h_law_take (hr.mono (by decide)) rfl pass0 (pa_cons (pv 2) (pa_cons pe_int pa_nil))) (fun _ _ => rfl)))
  (pss_cons (ps_setLc (i := 5) (own := [("_law_turn", 6)]) (g := gName 6) rfl sc_law.nd rfl rfl (sw_true rfl rfl rfl (by decide +kernel)) (pi_range1 rfl T.b_range (pa_cons (pe_op op_plus pe_int (pe_own h_law_take (hr.mono (by decide)) rfl pass0 (pa_cons (pv 2) (pa_cons pe_int pa_nil)))) pa_nil)) (blkOk_by (N := ["_law_script", "_law_k", "_law_pile_here", "_law_figure", "_law_value", "_law_lists", "_law_turn", "_law_kept_here", "_law_one", "_law_due", "_law_some", "_law_at", "_law_other", "_law_again"]) (sc := defScope s_law) (by decide +kernel)) (fun _ _ _ _ _ => (pg_name (i := 6) sc_law.nd rfl (by first | exact Or.inl rfl | exact Or.inr rfl))) (fun _ _ _ _ _ => pts_nil) (fun _ _ _ _ _ => (pe_listRg rfl rfl T.b_list (prg_1 rfl T.b_range (pe_own h_law_take (hr.mono (by decide)) rfl pass0 (pa_cons (pv 2) (pa_cons pe_int pa_nil)))))))
  (pss_cons (ps_if (pt_not (pt_truth (pe_own h_law_kept (hr.mono (by decide)) rfl pass0 (pa_cons (pv 3) pa_nil)) (by intro _; rfl))) (pss_one (ps_ret pe_bl)) pss_nil)
  (pss_cons (ps_setLc (i := 7) (own := [("_law_one", 8)]) (g := gName 8) rfl sc_law.nd rfl rfl (sw_true rfl rfl rfl (by decide +kernel)) (pi_list (pv 5)) (blkOk_by (N := ["_law_script", "_law_k", "_law_pile_here", "_law_figure", "_law_value", "_law_lists", "_law_turn", "_law_kept_here", "_law_one", "_law_due", "_law_some", "_law_at", "_law_other", "_law_again"]) (sc := defScope s_law) (by decide +kernel)) (fun _ _ _ _ _ => (pg_name (i := 8) sc_law.nd rfl (by first | exact Or.inl rfl | exact Or.inr rfl))) (fun _ _ _ _ _ => pts_nil) (fun _ _ _ _ _ => (pe_callTy (show CallR _ _ (rListQ K) from call_listQ) rfl T.b_list (by decide +kernel) (pa_cons (pv 8) pa_nil))))
  (pss_cons (ps_set (i := 9) sc_law.nd rfl (by first | exact Or.inl rfl | exact Or.inr rfl) (pe_lst (pa_cons (pv 3) (pa_cons pe_non (pa_cons (pv 3) (pa_cons (pv 3) (pa_cons (pv 7) (pa_cons (pv 3) (pa_cons (pv 7) (pa_cons (pv 4) (pa_cons (pv 4) (pa_cons (pv 4) (pa_cons (pv 3) (pa_cons pe_non (pa_cons pe_str (pa_cons (pv 3) (pa_cons pe_int pa_nil)))))))))))))))))
  (pss_one (ps_for PassesOwn.never rfl (pi_list (pe_lst (pa_cons (pe_own h_law_made (hr.mono (by decide)) rfl pass0 (pa_cons (pv 3) (pa_cons (pv 4) (pa_cons (pv 5) pa_nil)))) (pa_cons (pe_own h_law_by_names (hr.mono (by decide)) rfl pass0 (pa_cons (pv 3) (pa_cons (pv 4) (pa_cons (pv 5) pa_nil)))) pa_nil)))) (pg_name (i := 10) sc_law.nd rfl (by first | exact Or.inl rfl | exact Or.inr rfl)) hb_inner))))))))))
  (pss_one (ps_ret pe_bl))), ?_⟩
  walk_at "begin"
  walk_at "st"
  refine for_r0 (fun _ σ' H' => Same H H' ∧ ∃ x1 x2 x3 x4 x5 x6 x7 x8 x9 x10 x11 x12 x13, σ' = [some (.ref a), x1, x2, x3, x4, x5, x6, x7, x8, x9, x10, x11, x12, x13]) ⟨Same.refl _, _, _, _, _, _, _, _, _, _, _, _, _, _, rfl⟩ ?_ ?_
  · rintro k σ' Hs hk ⟨s0, x1, x2, x3, x4, x5, x6, x7, x8, x9, x10, x11, x12, x13, rfl⟩
    walk_at "st"
    refine ⟨a, ns, k, rfl, Scr.of (Scr.sq (Scr.of hS) fun o e => s0 _ _ e), fun p H1 s1 f1 pl1 => ?_⟩
    walk_at "st"
    refine ⟨p, _, rfl, pl1, by decide, by decide, fun n H2 n0 n1 b2 pl2 => ?_⟩
    walk_at "st"
    rename_i l1 Ha na t1 Hb nb p7 Hc nc
    have hn : n.natAbs < 10 ^ 38 := by
      have e : (10 : Int) ^ Int.toNat 9 = 1000000000 := by decide
      omega
    obtain ⟨pa, pb, pc, ep2⟩ := id pl2
    have l1p : l1 ≠ p := (na.ne ep2).symm
    have t1p : t1 ≠ p := (nb.ne (na.get ep2)).symm
    have p7p : p7 ≠ p := (nc.ne (nb.get (na.get ep2))).symm
    refine ⟨p, 7, rfl, pl2.same (show Same H2 Hc by walk_at "same"), by decide, by decide, fun j H3 j0 j7 b3 pl3 => ?_⟩
    obtain ⟨v, d, hv, gd, dv⟩ := drawn K hn j0 j7 (l := l1) (t := t1)
    walk_at "st"
    refine s_ixL (SqL.of (show H3 p7 = some _ by walk_at "hl")) hv ?_
    walk_at "st"
    refine ⟨p, 3, rfl, pl3, by decide, by decide, fun m H4 m0 m3 b4 pl4 => ?_⟩
    walk_at "st"
    refine lc_r0 (fun D i H' => ∃ (qs : List Addr) (nss : List (List Int)), But [p] H4 H' ∧ Pile H' p ∧ LL H' D qs (vII nss) ∧ nss.length = i ∧ D ≠ p ∧ D ∉ qs ∧ qs.Nodup ∧ (∀ q ∈ qs, q ≠ p) ∧ ∀ xs ∈ nss, xs.length ≤ 3 ∧ ∀ i ∈ xs, i.natAbs < 10 ^ 38) ?_ ?_ ?_
    · intro D H' nd
      obtain ⟨qa, qb, qc, eq⟩ := id pl4
      exact ⟨[], [], But.new nd, pl4.same nd.same, ⟨nd.here, .nil⟩, rfl, (nd.ne eq).symm, by simp, by simp, by simp, by simp⟩
    · rintro D i H5 hi hD ⟨qs, nss, b5, pl5, el, ln, Dp_, Dq, ndq, qp, hz⟩
      dsimp only [wipe, List.foldl, List.set_cons_succ, List.set_cons_zero]
      walk_at "st"
      refine s_wipe rfl ?_
      walk_at "st"
      refine ⟨p, 4, rfl, pl5, by decide, by decide, fun r H6 r0 r4 b6 pl6 => ?_⟩
      obtain ⟨rn, rfl⟩ := Int.eq_ofNat_of_zero_le r0
      walk_at "st"
      rename_i q H7 n7
      rw [rgV0] at n7
      obtain ⟨qa, qb, qc, eq6⟩ := id pl6
      have el6 : LL H6 D qs (vII nss) := el.but b6 (by simpa using Dp_) (fun q hq => by simpa using qp q hq)
      have qD : D ≠ q := n7.ne el6.top
      refine s_kApp (acc := qs.map V.ref) (n7.get el6.top) ?_ fun H8 n8 => ?_
      · have : qs.length = nss.length := by simpa using el.length
        rw [List.length_map, sizeLine_eq]
        have : i < (1 + m).toNat := hi
        omega
      · refine ⟨qs ++ [q], nss ++ [(List.range rn).map fun i : Nat => (i : Int)], ?_, ?_, ⟨by simpa using n8.here, ?_⟩, by simp [ln], Dp_, ?_, ?_, ?_, ?_⟩
        · intro b o hb e
          exact n8.get (ne_of_none e hD) (n7.get (b6.get hb (b5.get hb e)))
        · exact ⟨qa, qb, qc, n8.get (Ne.symm Dp_) (n7.get eq6)⟩
        · have h1 := PySem.Paired.snoc (Paired.mono el6.all fun b ys hb h => n8.get (fun z => Dq (z ▸ hb)) (n7.get h)) (show (fun p xs => H8 p = some (HO.lst xs)) q _ from n8.get (Ne.symm qD) n7.here)
          simpa using h1
        · simp only [List.mem_append, List.mem_singleton, not_or]
          exact ⟨Dq, qD⟩
        · refine List.nodup_append.mpr ⟨ndq, by simp, fun x hx y hy => ?_⟩
          simp at hy; subst hy
          obtain ⟨_, hx'⟩ := el6.mem hx
          exact n7.ne hx'
        · intro x hx
          rcases List.mem_append.mp hx with hx | hx
          · exact qp x hx
          · simp at hx; subst hx; exact (n7.ne eq6).symm
        · intro xs hx
          rcases List.mem_append.mp hx with hx | hx
          · exact hz xs hx
          · simp at hx; subst hx
            refine ⟨by simp; omega, fun i hi => ?_⟩
            simp at hi
            obtain ⟨y, hy, rfl⟩ := hi
            omega
    · rintro l H5 hD ⟨ps, nss, b5, pl5, el, ln, lp, lq, ndq, qp, hz⟩
      obtain ⟨xs0, nt, rfl⟩ : ∃ x y, nss = x :: y := by
        cases nss with
        | nil => simp at ln; omega
        | cons x y => exact ⟨x, y, rfl⟩
      walk_at "st"
      refine ⟨n, rfl, hn, fun H8 s8 => ?_⟩
      have etop := el.top
      have el8 := el.same s8
      have lps : ps.length ≤ 1000 := by
        have h1 := el.length
        rw [List.length_map] at h1
        omega
      walk_at "st"
      refine lc_copy el8 lps (fun q xs H2 R Z hp hR => ?_) fun kl ks H9 s9 hkl fr nd9 ek => ?_
      · dsimp only [wipe, List.foldl, List.set_cons_succ, List.set_cons_zero]
        walk_at "st"
        refine s_wipe rfl ?_
        walk_at "st"
        exact hR _ _ (by assumption)
      walk_at "st"
      rename_i du H10 n10
      have B : Bef K H10 n v d l ps kl ks du xs0 nt := by
        refine ⟨hn, (el8.same s9).new n10, ek.new n10, n10.here, fun H' s' => dv H' (s' _ _ (by walk_at "hl")) (s' _ _ (by walk_at "hl")), gd, ?_, hz, lq, ndq⟩
        omega
      refine ⟨.int n, v, l, ps, _, rfl, B.el, lps, fun r1 a1 L3 q3 L4 q4 H11 s11 f11 ap1 held1 => ?_⟩
      walk_at "st"
      refine ⟨.int n, v, l, ps, _, rfl, B.el.same s11, lps, fun r2 a2 L5 q5 L6 q6 H12 s12 f12 ap2 held2 => ?_⟩
      walk_at "st"
      rename_i W HW nW
      have fp : ∀ x ∈ [p], H x = none := by
        simp
        exact s0.free f1
      have sH : Same H H10 := by
        have h1 := Same.but (Same.but (Same.but (Same.but (s0.trans s1) b2 fp |>.trans (na.same.trans (nb.same.trans nc.same))) b3 fp) b4 fp) b5 fp
        exact ((h1.trans s8).trans s9).trans n10.same
      have M1 := held1.now
      have M2 := held2.now
      have held2' := held2.same nW.same
      have s1W : Same H11 HW := s12.trans nW.same
      have th1 : ∀ s ∈ L3 :: L4 :: (q3 ++ q4), ¬ H11 s = none := fun s hs z => by
        obtain ⟨xs, q⟩ := M1.there s hs
        rw [q] at z; cases z
      have w1 : W ∉ L3 :: L4 :: (q3 ++ q4) := fun hs => by
        obtain ⟨xs, q⟩ := M1.there W hs
        exact nW.ne (s12 _ _ q) rfl
      have w2 : W ∉ L5 :: L6 :: (q5 ++ q6) := fun hs => by
        obtain ⟨xs, q⟩ := M2.there W hs
        exact nW.ne q rfl
      have sBW : Same H10 HW := s11.trans s1W
      refine for_l (xs := [.ref r1, .ref r2]) (fun i σ' H' => Same H10 H' ∧ H' W = some (.lst [.ref r1, .ref r2]) ∧ (∃ x10 x11 x12 x13, σ' = sg (.ref a) (.int k) (.ref p) n v l x6 kl x8 du x10 x11 x12 x13) ∧ (i = 0 → H' = HW) ∧ (i = 1 → Made C H' r2 (.int n) v (vII (xs0 :: nt)) a2 L5 q5 L6 q6))
        ⟨sBW, nW.here, ⟨_, _, _, _, rfl⟩, fun _ => rfl, fun z => absurd z (by decide)⟩ (fun i σ' H' hI => SqL.of hI.2.1) ?_ ?_
      · rintro i x σ' H' hx ⟨sB, eW, ⟨y10, y11, y12, y13, rfl⟩, h0, h1⟩
        match i, hx with
        | 0, hx =>
          cases hx
          obtain rfl := h0 rfl
          walk_at "st"
          refine hq _ H10 H' _ _ _ v n d l ps kl ks du xs0 nt r1 a1 L3 q3 L4 q4 x6 x8 y11 y12 y13 B sBW ((held1.same s1W).now) ap1 fun H2 z1 z2 z3 sB2 bt => ?_
          refine ⟨sB2, bt.get w1 nW.here, ⟨_, _, _, _, rfl⟩, fun z => absurd z (by decide), fun _ => ?_⟩
          exact (held2'.but bt th1).now
        | 1, hx =>
          cases hx
          walk_at "st"
          refine hq _ H10 H' _ _ _ v n d l ps kl ks du xs0 nt r2 a2 L5 q5 L6 q6 x6 x8 y11 y12 y13 B sB (h1 rfl) (ap2.of s11) fun H2 z1 z2 z3 sB2 bt => ?_
          exact ⟨sB2, bt.get w2 eW, ⟨_, _, _, _, rfl⟩, fun z => absurd z (by decide), fun z => absurd z (by decide)⟩
      · rintro σ' H' ⟨sB, _, ⟨y10, y11, y12, y13, rfl⟩, _, _⟩
        exact ⟨sH.trans sB, _, _, _, _, _, _, _, _, _, _, _, _, _, rfl⟩
  · rintro σ' H' ⟨_, x1, x2, x3, x4, x5, x6, x7, x8, x9, x10, x11, x12, x13, rfl⟩
    walk_at "st"
    exact h _
end
end K42

open PySem L2 Sx
namespace K42
section
variable {P : Program} {w : World} {K : PySem.W.Frag} {mg : Str → Option Value} {base : Heap} {C : Nat → Addr} {S : Addr}
theorem kwb {x qual : Str} {st : Stmt} {f : Addr} {fd : FuncData} {ps ks : List Str} {re : {α : Type} → List α → List α} (F : Fun K x qual st f fd)
    (h : ∀ (kV doc pm : Value) (an : Option Addr) (cdv ct : Value) (a : Addr) (ws : List Value), (Value.ref a :: re ws).length = ps.length → bindArgs (PySem.W.fnOf x qual (defArgs st) (defBody st) (defScope st) .none kV doc pm an cdv ct) ⟨[.ref a], ks.zip ws⟩ = pure (ps.zip (.ref a :: re ws)))
    (hr : ∀ {zs : List V} {ws : List Value}, Vals zs ws → Vals (re zs) (re ws)) : KwB fd ps ks re := by
  obtain ⟨oc, od, kV, doc, pm, an, cdv, ct, osl, rfl, lk, hcd⟩ := F.ex
  exact ⟨fun s a ws hl => .of_eq (h kV doc pm an cdv ct a ws hl), hr⟩
theorem sw2_rel : ∀ {zs : List V} {ws : List Value}, Vals zs ws → Vals (sw2 zs) (sw2 ws)
  | _, _, .nil => .nil
  | _, _, .cons a .nil => .cons a .nil
  | _, _, .cons a (.cons b .nil) => .cons b (.cons a .nil)
  | _, _, .cons a (.cons b (.cons c r)) => .cons a (.cons b (.cons c r))
/-- what the text says of an error class of its own, by itself -/
structure CF (K : PySem.W.Frag) (x : Str) (C fI : Addr) (qual : Str) (st : Stmt) : Prop where
  a : PySem.W.nsIn K mainGlobals x = some (some (.ref C))
  o : OexC K C
  iC : PySem.W.findIn K (.ref C) "__init__" = some (some (.ref fI))
  tI : PySem.W.typeIn K (.ref fI) = some (.type "function")
  fn : ∃ fd, Fun K "__init__" qual st fI fd
theorem cf_mk {x qual : Str} {st : Stmt} {C fI : Addr} {nm q : Str} {N : Addr} {bs bm : List Value} {sn : List Str} {sub : List Value} {ab : Bool} {col : Option Bool} {dd : Option Addr} {m0 m1 m2 m3 m5 : Option Value} {od an : Option Addr} {sl : Array (Option Value)} {oc kV dc pm cd ct : Value}
    (a : PySem.W.nsIn K mainGlobals x = some (some (.ref C)))
    (xl : K.lookup C = some (excClassObj nm q C N bs bm true sn sub ab col dd m0 m1 m2 m3 m5 "ValueError.__new__")) (r : PySem.HandSPX.refsVE bm = true)
    (sa : PySem.W.findIn K (.ref C) "__setattr__" = some (some (.builtin "object.__setattr__"))) (eC : PySem.W.subIn K (.ref C) (.type "BaseException") = some true) (tC : PySem.W.typeIn K (.ref C) = some (.type "type")) (kC : PySem.W.keepIn K (.ref C) = true)
    (iC : PySem.W.findIn K (.ref C) "__init__" = some (some (.ref fI))) (tI : PySem.W.typeIn K (.ref fI) = some (.type "function"))
    (l : K.lookup fI = some ⟨oc, od, .func (PySem.W.fnOf "__init__" qual (defArgs st) (defBody st) (defScope st) .none kV dc pm an cd ct), sl⟩) (c : PySem.W.codeIn K cd qual = true) (k : PySem.W.keepIn K (.ref fI) = true) : CF K x C fI qual st :=
  ⟨a, ⟨⟨nm, q, N, bs, bm, sn, sub, ab, col, dd, m0, m1, m2, m3, m5, xl, r⟩, sa, eC, tC, kC⟩, iC, tI, _, fun_mk l c k⟩
/-- a def of the text -/
structure FF (K : PySem.W.Frag) (x : Str) (f : Addr) (st : Stmt) : Prop where
  a : PySem.W.nsIn K mainGlobals x = some (some (.ref f))
  fn : ∃ fd, Fun K x x st f fd
theorem ff_mk {x : Str} {st : Stmt} {f : Addr} {od an : Option Addr} {sl : Array (Option Value)} {oc kV dc pm cd ct : Value} (a : PySem.W.nsIn K mainGlobals x = some (some (.ref f)))
    (l : K.lookup f = some ⟨oc, od, .func (PySem.W.fnOf x x (defArgs st) (defBody st) (defScope st) .none kV dc pm an cd ct), sl⟩) (c : PySem.W.codeIn K cd x = true) (k : PySem.W.keepIn K (.ref f) = true) : FF K x f st := ⟨a, _, fun_mk l c k⟩
/-- the rest of what is asked of the classes: one Bool -/
def chk1 (K : PySem.W.Frag) (C : Addr) : Bool :=
  PySem.W.findIn K (.ref C) "__getattribute__" == some (some (.builtin "BaseException.__getattribute__")) && PySem.W.findIn K (.ref C) "__getattr__" == some none && PySem.W.hasDictIn K C
    && PySem.W.findIn K (.ref C) "__class__" == some (some (.builtin "object.__class__")) && PySem.W.mroIn K C (.type "object") == some true
def chkF (K : PySem.W.Frag) (C : Addr) : Bool := flds.all fun f => PySem.W.findIn K (.ref C) f == some none
def chkS (K : PySem.W.Frag) (C S : Addr) : Bool := PySem.W.kitOne K (.ref C) (.ref S) == some true && PySem.W.kitOne K (.ref C) (.type "ValueError") == some true
def chkK (K : PySem.W.Frag) (cs : List Addr) : Bool := cs.all fun C => cs.all fun D => PySem.W.kitOne K (.ref C) (.ref D) == some (decide (C = D))
theorem all_at {cs : List Addr} {p : Addr → Bool} (h : cs.all p = true) {i : Nat} (hi : i < cs.length) : p (cs.getD i 0) = true := by
  rw [List.all_eq_true] at h
  refine h _ ?_
  rw [List.getD_eq_getElem?_getD, List.getElem?_eq_getElem hi]
  exact List.getElem_mem hi
theorem err_of {C : Addr} (h : chk1 K C = true) (o : OexC K C) (n1 : PySem.W.specialIn K (.builtin "object.__class__") "__get__" = some (some (.builtin "getset_descriptor.__get__"))) (n2 : PySem.W.takesIn K (.builtin "object.__class__") = some true) : ErrC K C := by
  simp only [chk1, Bool.and_eq_true, beq_iff_eq] at h
  exact ⟨o, ⟨h.1.1.1.1, h.1.1.1.2, o.exC, h.1.1.2, h.1.2, n1, n2, h.2⟩⟩
theorem all_mk {l : PySem.W.OpenLaw} {w : World} {K : PySem.W.Frag} {h : Heap} {mg : Str → Option Value} {fa S f_law c0 c1 c2 c3 c4 c5 c6 c7 c8 c9 c10 c11 c12 c13 i0 i1 i2 i3 i4 i5 i6 i7 i8 i9 i10 i11 i12 i13 f_law_mixed f_law_pile f_law_take f_law_classes f_law_made f_law_by_names f_law_fields f_law_copied f_law_kept : Addr} (X : K.In h) (G : h.Ns mainGlobals mg) (hfa : mg "law" = some (.ref fa))
    (k0 : CF K "InvalidGraph" c0 i0 "InvalidGraph.__init__" s_InvalidGraph)
    (k1 : CF K "InvalidOrder" c1 i1 "InvalidOrder.__init__" s_InvalidOrder)
    (k2 : CF K "InvalidMachine" c2 i2 "InvalidMachine.__init__" s_InvalidMachine)
    (k3 : CF K "NotARule" c3 i3 "NotARule.__init__" s_NotARule)
    (k4 : CF K "NotLayered" c4 i4 "NotLayered.__init__" s_NotLayered)
    (k5 : CF K "InvalidSet" c5 i5 "InvalidSet.__init__" s_InvalidSet)
    (k6 : CF K "InvalidNumber" c6 i6 "InvalidNumber.__init__" s_InvalidNumber)
    (k7 : CF K "UnknownName" c7 i7 "UnknownName.__init__" s_UnknownName)
    (k8 : CF K "InvalidText" c8 i8 "InvalidText.__init__" s_InvalidText)
    (k9 : CF K "InvalidTree" c9 i9 "InvalidTree.__init__" s_InvalidTree)
    (k10 : CF K "NotInClass" c10 i10 "NotInClass.__init__" s_NotInClass)
    (k11 : CF K "NotGrowing" c11 i11 "NotGrowing.__init__" s_NotGrowing)
    (k12 : CF K "TooMany" c12 i12 "TooMany.__init__" s_TooMany)
    (k13 : CF K "Contradiction" c13 i13 "Contradiction.__init__" s_Contradiction)
    (g_law_mixed : FF K "_law_mixed" f_law_mixed s_law_mixed)
    (g_law_pile : FF K "_law_pile" f_law_pile s_law_pile)
    (g_law_take : FF K "_law_take" f_law_take s_law_take)
    (g_law_classes : FF K "_law_classes" f_law_classes s_law_classes)
    (g_law_made : FF K "_law_made" f_law_made s_law_made)
    (g_law_by_names : FF K "_law_by_names" f_law_by_names s_law_by_names)
    (g_law_fields : FF K "_law_fields" f_law_fields s_law_fields)
    (g_law_copied : FF K "_law_copied" f_law_copied s_law_copied)
    (g_law_kept : FF K "_law_kept" f_law_kept s_law_kept)
    (g_law : FF K "law" f_law s_law)
    (z_int : PySem.W.nsIn K mainGlobals "int" = some none)
    (z_len : PySem.W.nsIn K mainGlobals "len" = some none)
    (z_abs : PySem.W.nsIn K mainGlobals "abs" = some none)
    (z_list : PySem.W.nsIn K mainGlobals "list" = some none)
    (z_range : PySem.W.nsIn K mainGlobals "range" = some none)
    (z_repr : PySem.W.nsIn K mainGlobals "repr" = some none)
    (z_isinstance : PySem.W.nsIn K mainGlobals "isinstance" = some none)
    (z_ValueError : PySem.W.nsIn K mainGlobals "ValueError" = some none)
    (aS : PySem.W.nsIn K mainGlobals "SearchError" = some (some (.ref S))) (rS : PySem.W.readsIn K S (.type "type") = true) (gS : PySem.W.specialIn K (.ref S) "__getattribute__" = some (some (.builtin "type.__getattribute__"))) (tS : PySem.W.findCls K (.ref S) (.type "type") "__init__" = some (.val (.builtin "ValueError.__init__")))
    (n1 : PySem.W.specialIn K (.builtin "object.__class__") "__get__" = some (some (.builtin "getset_descriptor.__get__"))) (n2 : PySem.W.takesIn K (.builtin "object.__class__") = some true)
    (d0 : ([c0, c1, c2, c3, c4, c5, c6, c7, c8, c9, c10, c11, c12, c13]).Nodup) (d1 : ([c0, c1, c2, c3, c4, c5, c6, c7, c8, c9, c10, c11, c12, c13]).all (chk1 K) = true) (d2 : ([c0, c1, c2, c3, c4, c5, c6, c7, c8, c9, c10, c11, c12, c13]).all (chkF K) = true) (d3 : (([c0, c1, c2, c3, c4, c5, c6, c7, c8, c9, c10, c11, c12, c13]).all fun C => chkS K C S) = true) (d4 : chkK K [c0, c1, c2, c3, c4, c5, c6, c7, c8, c9, c10, c11, c12, c13] = true) :
    ∃ fd : FuncData, (∀ (s : Shared) (u : Value), BindsTo s fd ⟨[u], []⟩ [("_law_script", u)]) ∧ ∀ base : Heap, K.In base → base.Ns mainGlobals mg → At l.prog w K mg base callerA fa fd ["_law_script"] (spLaw K) := by
  have e := hfa.symm.trans (PySem.W.mg_of X G g_law.a)
  cases e
  let C : Nat → Addr := fun i => ([c0, c1, c2, c3, c4, c5, c6, c7, c8, c9, c10, c11, c12, c13]).getD i 0
  have oe : ∀ i, i < 14 → OexC K (C i) := fun i hi => match i, hi with
    | 0, _ => k0.o
    | 1, _ => k1.o
    | 2, _ => k2.o
    | 3, _ => k3.o
    | 4, _ => k4.o
    | 5, _ => k5.o
    | 6, _ => k6.o
    | 7, _ => k7.o
    | 8, _ => k8.o
    | 9, _ => k9.o
    | 10, _ => k10.o
    | 11, _ => k11.o
    | 12, _ => k12.o
    | 13, _ => k13.o
  have T : Tc K mg C S := {
    b_int := PySem.W.mg_none_of X G z_int, b_len := PySem.W.mg_none_of X G z_len, b_abs := PySem.W.mg_none_of X G z_abs, b_list := PySem.W.mg_none_of X G z_list, b_range := PySem.W.mg_none_of X G z_range, b_repr := PySem.W.mg_none_of X G z_repr, b_isinstance := PySem.W.mg_none_of X G z_isinstance, b_ValueError := PySem.W.mg_none_of X G z_ValueError
    er := fun i hi => err_of (all_at d1 hi) (oe i hi) n1 n2
    nf := fun i hi f hf => by
      have := all_at d2 (i := i) hi
      unfold chkF at this
      rw [List.all_eq_true] at this
      exact beq_iff_eq.mp (this f hf)
    kk := fun i hi j hj => by
      have h1 := d4
      unfold chkK at h1
      have h2 := all_at (all_at h1 (i := i) hi) (i := j) hj
      have h3 := beq_iff_eq.mp h2
      rw [h3]
      congr 1
      refine decide_eq_decide.mpr ⟨fun h => ?_, fun h => by rw [h]⟩
      rw [List.getD_eq_getElem?_getD, List.getElem?_eq_getElem (by exact hi), List.getD_eq_getElem?_getD, List.getElem?_eq_getElem (by exact hj)] at h
      exact (List.getElem_inj d0).mp h
    kS := fun i hi => by
      have := all_at d3 (i := i) hi
      simp only [chkS, Bool.and_eq_true, beq_iff_eq] at this
      exact this.1
    kV := fun i hi => by
      have := all_at d3 (i := i) hi
      simp only [chkS, Bool.and_eq_true, beq_iff_eq] at this
      exact this.2
    sup := ⟨rS, gS, tS⟩
    m_SearchError := PySem.W.mg_of X G aS
    m_InvalidGraph := PySem.W.mg_of X G k0.a
    m_InvalidOrder := PySem.W.mg_of X G k1.a
    m_InvalidMachine := PySem.W.mg_of X G k2.a
    m_NotARule := PySem.W.mg_of X G k3.a
    m_NotLayered := PySem.W.mg_of X G k4.a
    m_InvalidSet := PySem.W.mg_of X G k5.a
    m_InvalidNumber := PySem.W.mg_of X G k6.a
    m_UnknownName := PySem.W.mg_of X G k7.a
    m_InvalidText := PySem.W.mg_of X G k8.a
    m_InvalidTree := PySem.W.mg_of X G k9.a
    m_NotInClass := PySem.W.mg_of X G k10.a
    m_NotGrowing := PySem.W.mg_of X G k11.a
    m_TooMany := PySem.W.mg_of X G k12.a
    m_Contradiction := PySem.W.mg_of X G k13.a }
  obtain ⟨fd0, F0⟩ := k0.fn
  obtain ⟨fd1, F1⟩ := k1.fn
  obtain ⟨fd2, F2⟩ := k2.fn
  obtain ⟨fd3, F3⟩ := k3.fn
  obtain ⟨fd4, F4⟩ := k4.fn
  obtain ⟨fd5, F5⟩ := k5.fn
  obtain ⟨fd6, F6⟩ := k6.fn
  obtain ⟨fd7, F7⟩ := k7.fn
  obtain ⟨fd8, F8⟩ := k8.fn
  obtain ⟨fd9, F9⟩ := k9.fn
  obtain ⟨fd10, F10⟩ := k10.fn
  obtain ⟨fd11, F11⟩ := k11.fn
  obtain ⟨fd12, F12⟩ := k12.fn
  obtain ⟨fd13, F13⟩ := k13.fn
  obtain ⟨fd_law_mixed, F_law_mixed⟩ := g_law_mixed.fn
  obtain ⟨fd_law_pile, F_law_pile⟩ := g_law_pile.fn
  obtain ⟨fd_law_take, F_law_take⟩ := g_law_take.fn
  obtain ⟨fd_law_classes, F_law_classes⟩ := g_law_classes.fn
  obtain ⟨fd_law_made, F_law_made⟩ := g_law_made.fn
  obtain ⟨fd_law_by_names, F_law_by_names⟩ := g_law_by_names.fn
  obtain ⟨fd_law_fields, F_law_fields⟩ := g_law_fields.fn
  obtain ⟨fd_law_copied, F_law_copied⟩ := g_law_copied.fn
  obtain ⟨fd_law_kept, F_law_kept⟩ := g_law_kept.fn
  obtain ⟨fd_law, F_law⟩ := g_law.fn
  refine ⟨fd_law, fun s u => ?_, fun base KX2 G2 => ?_⟩
  · obtain ⟨oc, od, kV, doc, pm, an, cdv, ct, osl, rfl, lk, hcd⟩ := F_law.ex
    exact .of_eq rfl
  have Er : Ec l.prog w K mg base C := {
    e_InvalidGraph := ⟨i0, fd0, ⟨⟨k0.o, PySem.W.mg_of X G k0.a, k0.iC, k0.tI⟩, ok_InvalidGraph F0 T, F0.binds (ps := ["self", "place"]) fun _ _ _ _ _ _ us hl => match us, hl with | [_, _], _ => rfl⟩, kwb F0 (fun _ _ _ _ _ _ a ws hl => match ws, hl with | [_], _ => rfl) (fun h => h)⟩
    e_InvalidOrder := ⟨i1, fd1, ⟨⟨k1.o, PySem.W.mg_of X G k1.a, k1.iC, k1.tI⟩, ok_InvalidOrder F1 T, F1.binds (ps := ["self", "index"]) fun _ _ _ _ _ _ us hl => match us, hl with | [_, _], _ => rfl⟩, kwb F1 (fun _ _ _ _ _ _ a ws hl => match ws, hl with | [_], _ => rfl) (fun h => h)⟩
    e_InvalidMachine := ⟨i2, fd2, ⟨⟨k2.o, PySem.W.mg_of X G k2.a, k2.iC, k2.tI⟩, ok_InvalidMachine F2 T, F2.binds (ps := ["self", "place"]) fun _ _ _ _ _ _ us hl => match us, hl with | [_, _], _ => rfl⟩, kwb F2 (fun _ _ _ _ _ _ a ws hl => match ws, hl with | [_], _ => rfl) (fun h => h)⟩
    e_NotARule := ⟨i3, fd3, ⟨⟨k3.o, PySem.W.mg_of X G k3.a, k3.iC, k3.tI⟩, ok_NotARule F3 T, F3.binds (ps := ["self", "moment", "sets"]) fun _ _ _ _ _ _ us hl => match us, hl with | [_, _, _], _ => rfl⟩, kwb F3 (fun _ _ _ _ _ _ a ws hl => match ws, hl with | [_, _], _ => rfl | _ :: _ :: _ :: _, hl => absurd hl (by simp [sw2])) sw2_rel⟩
    e_NotLayered := ⟨i4, fd4, ⟨⟨k4.o, PySem.W.mg_of X G k4.a, k4.iC, k4.tI⟩, ok_NotLayered F4 T, F4.binds (ps := ["self", "moment", "sets"]) fun _ _ _ _ _ _ us hl => match us, hl with | [_, _, _], _ => rfl⟩, kwb F4 (fun _ _ _ _ _ _ a ws hl => match ws, hl with | [_, _], _ => rfl) (fun h => h)⟩
    e_InvalidSet := ⟨i5, fd5, ⟨⟨k5.o, PySem.W.mg_of X G k5.a, k5.iC, k5.tI⟩, ok_InvalidSet F5 T, F5.binds (ps := ["self", "thing"]) fun _ _ _ _ _ _ us hl => match us, hl with | [_, _], _ => rfl⟩, kwb F5 (fun _ _ _ _ _ _ a ws hl => match ws, hl with | [_], _ => rfl) (fun h => h)⟩
    e_InvalidNumber := ⟨i6, fd6, ⟨⟨k6.o, PySem.W.mg_of X G k6.a, k6.iC, k6.tI⟩, ok_InvalidNumber F6 T, F6.binds (ps := ["self", "number"]) fun _ _ _ _ _ _ us hl => match us, hl with | [_, _], _ => rfl⟩, kwb F6 (fun _ _ _ _ _ _ a ws hl => match ws, hl with | [_], _ => rfl) (fun h => h)⟩
    e_UnknownName := ⟨i7, fd7, ⟨⟨k7.o, PySem.W.mg_of X G k7.a, k7.iC, k7.tI⟩, ok_UnknownName F7 T, F7.binds (ps := ["self", "name"]) fun _ _ _ _ _ _ us hl => match us, hl with | [_, _], _ => rfl⟩, kwb F7 (fun _ _ _ _ _ _ a ws hl => match ws, hl with | [_], _ => rfl) (fun h => h)⟩
    e_InvalidText := ⟨i8, fd8, ⟨⟨k8.o, PySem.W.mg_of X G k8.a, k8.iC, k8.tI⟩, ok_InvalidText F8 T, F8.binds (ps := ["self", "column"]) fun _ _ _ _ _ _ us hl => match us, hl with | [_, _], _ => rfl⟩, kwb F8 (fun _ _ _ _ _ _ a ws hl => match ws, hl with | [_], _ => rfl) (fun h => h)⟩
    e_InvalidTree := ⟨i9, fd9, ⟨⟨k9.o, PySem.W.mg_of X G k9.a, k9.iC, k9.tI⟩, ok_InvalidTree F9 T, F9.binds (ps := ["self", "node"]) fun _ _ _ _ _ _ us hl => match us, hl with | [_, _], _ => rfl⟩, kwb F9 (fun _ _ _ _ _ _ a ws hl => match ws, hl with | [_], _ => rfl) (fun h => h)⟩
    e_NotInClass := ⟨i10, fd10, ⟨⟨k10.o, PySem.W.mg_of X G k10.a, k10.iC, k10.tI⟩, ok_NotInClass F10 T, F10.binds (ps := ["self", "name"]) fun _ _ _ _ _ _ us hl => match us, hl with | [_, _], _ => rfl⟩, kwb F10 (fun _ _ _ _ _ _ a ws hl => match ws, hl with | [_], _ => rfl) (fun h => h)⟩
    e_NotGrowing := ⟨i11, fd11, ⟨⟨k11.o, PySem.W.mg_of X G k11.a, k11.iC, k11.tI⟩, ok_NotGrowing F11 T, F11.binds (ps := ["self", "moment", "step"]) fun _ _ _ _ _ _ us hl => match us, hl with | [_, _, _], _ => rfl⟩, kwb F11 (fun _ _ _ _ _ _ a ws hl => match ws, hl with | [_, _], _ => rfl | _ :: _ :: _ :: _, hl => absurd hl (by simp [sw2])) sw2_rel⟩
    e_TooMany := ⟨i12, fd12, ⟨⟨k12.o, PySem.W.mg_of X G k12.a, k12.iC, k12.tI⟩, ok_TooMany F12 T, F12.binds (ps := ["self", "limit"]) fun _ _ _ _ _ _ us hl => match us, hl with | [_, _], _ => rfl⟩, kwb F12 (fun _ _ _ _ _ _ a ws hl => match ws, hl with | [_], _ => rfl) (fun h => h)⟩
    e_Contradiction := ⟨i13, fd13, ⟨⟨k13.o, PySem.W.mg_of X G k13.a, k13.iC, k13.tI⟩, ok_Contradiction F13 T, F13.binds (ps := ["self"]) fun _ _ _ _ _ _ us hl => match us, hl with | [_], _ => rfl⟩, trivial⟩ }
  have h_law_mixed : Ok l.prog w K mg base CX0 1 "_law_mixed" ["_law_cell", "_law_k"] spMixed := ⟨f_law_mixed, fd_law_mixed, ok_mixed F_law_mixed T.toTx, F_law_mixed.binds (ps := ["_law_cell", "_law_k"]) (fun _ _ _ _ _ _ us hl => match us, hl with | [_, _], _ => rfl), PySem.W.mg_of X G g_law_mixed.a, F_law_mixed.kp⟩
  have h_law_pile : Ok l.prog w K mg base CX0 1 "_law_pile" ["_law_script", "_law_k"] (spPile K) := ⟨f_law_pile, fd_law_pile, ok_pile F_law_pile T.toTx, F_law_pile.binds (ps := ["_law_script", "_law_k"]) (fun _ _ _ _ _ _ us hl => match us, hl with | [_, _], _ => rfl), PySem.W.mg_of X G g_law_pile.a, F_law_pile.kp⟩
  have h_law_take : Ok l.prog w K mg base CX0 2 "_law_take" ["_law_pile_here", "_law_many"] spTake := ⟨f_law_take, fd_law_take, ok_take F_law_take T.toTx h_law_mixed, F_law_take.binds (ps := ["_law_pile_here", "_law_many"]) (fun _ _ _ _ _ _ us hl => match us, hl with | [_, _], _ => rfl), PySem.W.mg_of X G g_law_take.a, F_law_take.kp⟩
  have h_law_classes : Ok l.prog w K mg base CX0 1 "_law_classes" ["_law_error"] (spClasses C) := ⟨f_law_classes, fd_law_classes, ok_classes F_law_classes T, F_law_classes.binds (ps := ["_law_error"]) (fun _ _ _ _ _ _ us hl => match us, hl with | [_], _ => rfl), PySem.W.mg_of X G g_law_classes.a, F_law_classes.kp⟩
  have h_law_made : Ok l.prog w K mg base CX0 3 "_law_made" ["_law_figure", "_law_value", "_law_lists"] (spMade C) := ⟨f_law_made, fd_law_made, ok_made F_law_made T Er, F_law_made.binds (ps := ["_law_figure", "_law_value", "_law_lists"]) (fun _ _ _ _ _ _ us hl => match us, hl with | [_, _, _], _ => rfl), PySem.W.mg_of X G g_law_made.a, F_law_made.kp⟩
  have h_law_by_names : Ok l.prog w K mg base CX0 3 "_law_by_names" ["_law_figure", "_law_value", "_law_lists"] (spMade C) := ⟨f_law_by_names, fd_law_by_names, ok_by_names F_law_by_names T Er, F_law_by_names.binds (ps := ["_law_figure", "_law_value", "_law_lists"]) (fun _ _ _ _ _ _ us hl => match us, hl with | [_, _, _], _ => rfl), PySem.W.mg_of X G g_law_by_names.a, F_law_by_names.kp⟩
  have h_law_fields : Ok l.prog w K mg base CX0 1 "_law_fields" ["_law_some"] (spFields C) := ⟨f_law_fields, fd_law_fields, ok_fields F_law_fields T, F_law_fields.binds (ps := ["_law_some"]) (fun _ _ _ _ _ _ us hl => match us, hl with | [_], _ => rfl), PySem.W.mg_of X G g_law_fields.a, F_law_fields.kp⟩
  have h_law_copied : Ok l.prog w K mg base CX0 1 "_law_copied" ["_law_error", "_law_lists", "_law_kept_here"] (spCopied K) := ⟨f_law_copied, fd_law_copied, ok_copied F_law_copied , F_law_copied.binds (ps := ["_law_error", "_law_lists", "_law_kept_here"]) (fun _ _ _ _ _ _ us hl => match us, hl with | [_, _, _], _ => rfl), PySem.W.mg_of X G g_law_copied.a, F_law_copied.kp⟩
  have h_law_kept : Ok l.prog w K mg base CX0 3 "_law_kept" ["_law_figure"] spKept := ⟨f_law_kept, fd_law_kept, ok_kept F_law_kept T Er, F_law_kept.binds (ps := ["_law_figure"]) (fun _ _ _ _ _ _ us hl => match us, hl with | [_], _ => rfl), PySem.W.mg_of X G g_law_kept.a, F_law_kept.kp⟩
  exact ok_law F_law T Er h_law_pile h_law_take h_law_kept h_law_made h_law_by_names h_law_classes h_law_fields h_law_copied
end
end K42

open PySem L2 Sx
open PySem PySem.W PyProof.Rows
set_option maxRecDepth 100000 in
set_option maxHeartbeats 0 in
theorem PySem.Challenge.cw_searchrules_k42_errors_made_holds : PySem.Challenge.rw_searchrules_k42_errors_made.Holds := by
  w_on; o_law; k_head; (case hw => w_witness2)
  k_fill
  refine Sx.walk_at (l := PySem.Challenge.rw_searchrules_k42_errors_made) (x := "_law_script") (sp := K42.spLaw) rfl (by decide) rfl (fun w h Y => PySem.W.kIn_of Y) ?F (fun K' H a ns hl hO hS => ⟨a, ns, rfl, hS, fun _ => rfl⟩)
  case F =>
    intro w mg fa h KX G hmg
    refine' K42.all_mk KX G hmg ?c0 ?c1 ?c2 ?c3 ?c4 ?c5 ?c6 ?c7 ?c8 ?c9 ?c10 ?c11 ?c12 ?c13 ?g_law_mixed ?g_law_pile ?g_law_take ?g_law_classes ?g_law_made ?g_law_by_names ?g_law_fields ?g_law_copied ?g_law_kept ?g_law ?z_int ?z_len ?z_abs ?z_list ?z_range ?z_repr ?z_isinstance ?z_ValueError ?aS ?rS ?gS ?tS ?n1 ?n2 ?d0 ?d1 ?d2 ?d3 ?d4
    (case c0 => (refine' K42.cf_mk ?a ?xl ?r ?sa ?eC ?tC ?kC ?iC ?tI ?l ?c ?k; (case a => k_is); (case xl => k_is); (case r => kernel_rfl); (case sa => k_is); (case eC => k_is); (case tC => k_is); (case kC => k_is); (case iC => k_is); (case tI => k_is); (case l => k_is); (case c => k_is); (case k => k_is)))
    (case c1 => (refine' K42.cf_mk ?a ?xl ?r ?sa ?eC ?tC ?kC ?iC ?tI ?l ?c ?k; (case a => k_is); (case xl => k_is); (case r => kernel_rfl); (case sa => k_is); (case eC => k_is); (case tC => k_is); (case kC => k_is); (case iC => k_is); (case tI => k_is); (case l => k_is); (case c => k_is); (case k => k_is)))
    (case c2 => (refine' K42.cf_mk ?a ?xl ?r ?sa ?eC ?tC ?kC ?iC ?tI ?l ?c ?k; (case a => k_is); (case xl => k_is); (case r => kernel_rfl); (case sa => k_is); (case eC => k_is); (case tC => k_is); (case kC => k_is); (case iC => k_is); (case tI => k_is); (case l => k_is); (case c => k_is); (case k => k_is)))
    (case c3 => (refine' K42.cf_mk ?a ?xl ?r ?sa ?eC ?tC ?kC ?iC ?tI ?l ?c ?k; (case a => k_is); (case xl => k_is); (case r => kernel_rfl); (case sa => k_is); (case eC => k_is); (case tC => k_is); (case kC => k_is); (case iC => k_is); (case tI => k_is); (case l => k_is); (case c => k_is); (case k => k_is)))
    (case c4 => (refine' K42.cf_mk ?a ?xl ?r ?sa ?eC ?tC ?kC ?iC ?tI ?l ?c ?k; (case a => k_is); (case xl => k_is); (case r => kernel_rfl); (case sa => k_is); (case eC => k_is); (case tC => k_is); (case kC => k_is); (case iC => k_is); (case tI => k_is); (case l => k_is); (case c => k_is); (case k => k_is)))
    (case c5 => (refine' K42.cf_mk ?a ?xl ?r ?sa ?eC ?tC ?kC ?iC ?tI ?l ?c ?k; (case a => k_is); (case xl => k_is); (case r => kernel_rfl); (case sa => k_is); (case eC => k_is); (case tC => k_is); (case kC => k_is); (case iC => k_is); (case tI => k_is); (case l => k_is); (case c => k_is); (case k => k_is)))
    (case c6 => (refine' K42.cf_mk ?a ?xl ?r ?sa ?eC ?tC ?kC ?iC ?tI ?l ?c ?k; (case a => k_is); (case xl => k_is); (case r => kernel_rfl); (case sa => k_is); (case eC => k_is); (case tC => k_is); (case kC => k_is); (case iC => k_is); (case tI => k_is); (case l => k_is); (case c => k_is); (case k => k_is)))
    (case c7 => (refine' K42.cf_mk ?a ?xl ?r ?sa ?eC ?tC ?kC ?iC ?tI ?l ?c ?k; (case a => k_is); (case xl => k_is); (case r => kernel_rfl); (case sa => k_is); (case eC => k_is); (case tC => k_is); (case kC => k_is); (case iC => k_is); (case tI => k_is); (case l => k_is); (case c => k_is); (case k => k_is)))
    (case c8 => (refine' K42.cf_mk ?a ?xl ?r ?sa ?eC ?tC ?kC ?iC ?tI ?l ?c ?k; (case a => k_is); (case xl => k_is); (case r => kernel_rfl); (case sa => k_is); (case eC => k_is); (case tC => k_is); (case kC => k_is); (case iC => k_is); (case tI => k_is); (case l => k_is); (case c => k_is); (case k => k_is)))
    (case c9 => (refine' K42.cf_mk ?a ?xl ?r ?sa ?eC ?tC ?kC ?iC ?tI ?l ?c ?k; (case a => k_is); (case xl => k_is); (case r => kernel_rfl); (case sa => k_is); (case eC => k_is); (case tC => k_is); (case kC => k_is); (case iC => k_is); (case tI => k_is); (case l => k_is); (case c => k_is); (case k => k_is)))
    (case c10 => (refine' K42.cf_mk ?a ?xl ?r ?sa ?eC ?tC ?kC ?iC ?tI ?l ?c ?k; (case a => k_is); (case xl => k_is); (case r => kernel_rfl); (case sa => k_is); (case eC => k_is); (case tC => k_is); (case kC => k_is); (case iC => k_is); (case tI => k_is); (case l => k_is); (case c => k_is); (case k => k_is)))
    (case c11 => (refine' K42.cf_mk ?a ?xl ?r ?sa ?eC ?tC ?kC ?iC ?tI ?l ?c ?k; (case a => k_is); (case xl => k_is); (case r => kernel_rfl); (case sa => k_is); (case eC => k_is); (case tC => k_is); (case kC => k_is); (case iC => k_is); (case tI => k_is); (case l => k_is); (case c => k_is); (case k => k_is)))
    (case c12 => (refine' K42.cf_mk ?a ?xl ?r ?sa ?eC ?tC ?kC ?iC ?tI ?l ?c ?k; (case a => k_is); (case xl => k_is); (case r => kernel_rfl); (case sa => k_is); (case eC => k_is); (case tC => k_is); (case kC => k_is); (case iC => k_is); (case tI => k_is); (case l => k_is); (case c => k_is); (case k => k_is)))
    (case c13 => (refine' K42.cf_mk ?a ?xl ?r ?sa ?eC ?tC ?kC ?iC ?tI ?l ?c ?k; (case a => k_is); (case xl => k_is); (case r => kernel_rfl); (case sa => k_is); (case eC => k_is); (case tC => k_is); (case kC => k_is); (case iC => k_is); (case tI => k_is); (case l => k_is); (case c => k_is); (case k => k_is)))
    (case g_law_mixed => (refine' K42.ff_mk ?a ?l ?c ?k; (case a => k_is); (case l => k_is); (case c => k_is); (case k => k_is)))
    (case g_law_pile => (refine' K42.ff_mk ?a ?l ?c ?k; (case a => k_is); (case l => k_is); (case c => k_is); (case k => k_is)))
    (case g_law_take => (refine' K42.ff_mk ?a ?l ?c ?k; (case a => k_is); (case l => k_is); (case c => k_is); (case k => k_is)))
    (case g_law_classes => (refine' K42.ff_mk ?a ?l ?c ?k; (case a => k_is); (case l => k_is); (case c => k_is); (case k => k_is)))
    (case g_law_made => (refine' K42.ff_mk ?a ?l ?c ?k; (case a => k_is); (case l => k_is); (case c => k_is); (case k => k_is)))
    (case g_law_by_names => (refine' K42.ff_mk ?a ?l ?c ?k; (case a => k_is); (case l => k_is); (case c => k_is); (case k => k_is)))
    (case g_law_fields => (refine' K42.ff_mk ?a ?l ?c ?k; (case a => k_is); (case l => k_is); (case c => k_is); (case k => k_is)))
    (case g_law_copied => (refine' K42.ff_mk ?a ?l ?c ?k; (case a => k_is); (case l => k_is); (case c => k_is); (case k => k_is)))
    (case g_law_kept => (refine' K42.ff_mk ?a ?l ?c ?k; (case a => k_is); (case l => k_is); (case c => k_is); (case k => k_is)))
    (case g_law => (refine' K42.ff_mk ?a ?l ?c ?k; (case a => k_is); (case l => k_is); (case c => k_is); (case k => k_is)))
    (case z_int => k_is)
    (case z_len => k_is)
    (case z_abs => k_is)
    (case z_list => k_is)
    (case z_range => k_is)
    (case z_repr => k_is)
    (case z_isinstance => k_is)
    (case z_ValueError => k_is)
    (case aS => k_is)
    (case rS => k_is)
    (case gS => k_is)
    (case tS => k_is)
    (case n1 => k_is)
    (case n2 => k_is)
    (case d0 => decide)
    (case d1 => kernel_rfl)
    (case d2 => kernel_rfl)
    (case d3 => kernel_rfl)
    (case d4 => kernel_rfl)
