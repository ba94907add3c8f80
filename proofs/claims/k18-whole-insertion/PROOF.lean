import PyProof.Rows.All
import Wide.All
import OpenK.AllK
import Wide.FinOn
import KE.KStateDown
import KE.KNest
import KE.KNestM
import Lean
import PyProof.EqAt
import PyProof.EqKinds
import PyProof.TupleCall
import HandS.Base
import HandS.Call
import HandS.Ends
import HandS.List
import HandS.Comp
import HandS.Iter
import HandS.Text
import HandS.More
import HandS.Words
import HandS.WordsList
import HandS.WordsExc
import HandS.Defaults
import HandS.Conv
import HandS.Codes
import HandS.IsInst
import HandS.TupAny
import HandS.Wide
import HandS.Zip
import HandS.Deep
import HandS.Nested
import HandS.NestedK
import HandS.EndBits
import HandS.EndTab
import HandS.LawCells
import HandS.Evl
import PySem.Challenge.RW_sheetworks_k18_whole_insertion
import HandS.Head0
import HandS.Head1
import HandS.Head2
import HandS.HeadEnd
import HandS.HeadHook1
import HandS.HeadHook2
import HandS.HeadHook3
import HandS.HeadHook4
import HandS.HeadWalk
set_option Elab.async false
set_option linter.all false
set_option maxRecDepth 100000
set_option maxHeartbeats 4000000
namespace Sw
open PySem PySem.Spec PyProof.Rows L2
def topS (i : Nat) : Stmt := PySem.Challenge.pw_sheetworks_k18_whole_insertion.main.body.getD i (.Pass ⟨0, 0, 0, 0⟩)

/-! ### a def of the text; a def that keeps a promise, by its name -/
structure Df (K : PySem.W.Frag) (mg : Str → Option Value) (x : Str) (i : Nat) : Prop where
  ex : ∃ (f : Addr) (fd : FuncData), FunD K x x (defArgs (topS i)) (defBody (topS i)) (defScope (topS i)) [] [] f fd ∧ mg x = some (.ref f)
structure Cl (P : Program) (w : World) (K : PySem.W.Frag) (mg : Str → Option Value) (base : Heap) (k : Nat) (x : Str) (sp : Sp) : Prop where
  ex : ∃ (f : Addr) (fd : FuncData) (ps : List Str), FnOk P w K mg base CX0 k f fd ps sp ∧ mg x = some (.ref f) ∧ PySem.W.keepIn K (.ref f) = true ∧ Binds K fd ps []
/-- a promise: what is handed in, what must be so, what comes back -/
def Spc (Z : Type) (args : Z → List V) (pre : Z → Hp → Prop) (post : Z → Hp → V → Hp → Prop) : Sp := fun vs H Q _ => ∃ z, vs = args z ∧ pre z H ∧ ∀ v H', post z H v H' → Q v H'
section
variable {P : Program} {w : World} {K : PySem.W.Frag} {mg : Str → Option Value} {base : Heap}
theorem Cl.mono {j k : Nat} {x : Str} {sp : Sp} (c : Cl P w K mg base j x sp) (h : j ≤ k) : Cl P w K mg base k x sp := by
  obtain ⟨f, fd, ps, F, r⟩ := c.ex
  exact ⟨f, fd, ps, F.mono h, r⟩
/-- THE RULE for a def -/
theorem mk_cl {x : Str} {i k : Nat} {N ps : List Str} {Z : Type} {args : Z → List V} {pre : Z → Hp → Prop} {post : Z → Hp → V → Hp → Prop} (F : Df K mg x i) (S : FnScope N ps (defScope (topS i)))
    (hb : ∀ (kV doc pm : Value) (an : Option Addr) (cdv ct : Value) (us : List Value), us.length = ps.length → bindArgs (PySem.W.fnOf x x (defArgs (topS i)) (defBody (topS i)) (defScope (topS i)) .none kV doc pm an cdv ct) ⟨us, []⟩ = pure (ps.zip us))
    (len : ∀ z, (args z).length = ps.length) (m : Nat) (hm : N.length - ps.length = m)
    (hbody : ∀ (f : Addr) (cdv : Value) (A : Around) (outer : List Env) (s : Shared) (H : Hp) (Q : VK) (z : Z), Room k (A.deeper (envOfC x (defScope (topS i)) s.heap.objs.size f cdv)) → pre z H → (∀ v H', post z H v H' → Q v H') →
      ∃ t, PSs (cxOf CX0 P w K mg base N x (defScope (topS i)) f cdv A outer s H E0).nox (defBody (topS i)) t ∧ t { nx := fun _ H' => Q .non H', rt := Q } ((args z).map some ++ List.replicate m none) H) :
    Cl P w K mg base (k + 1) x (Spc Z args pre post) := by
  obtain ⟨f, fd, F, hmg⟩ := F.ex
  refine ⟨f, fd, ps, ?_, hmg, F.kp, F.bindsN hb⟩
  refine F.ok S (fun vs H Q E ⟨z, e, _⟩ => by rw [e]; exact len z) fun cdv A outer s H vs Q E hr ⟨z, e, hp, hq⟩ => ?_
  subst e
  obtain ⟨t, h, q⟩ := hbody f cdv A outer s H Q z hr hp hq
  have e0 : L2.start N (args z) = (args z).map some ++ List.replicate m none := by
    unfold L2.start
    rw [len z, hm]
  rw [← e0] at q
  exact ⟨t, (show PSs (cxOf CX0 P w K mg base N x (defScope (topS i)) f cdv A outer s H E).nox (defBody (topS i)) t from h).nox, q⟩
end
section
variable {X : Cx} {k j : Nat} {x : Str} {sp : Sp} {p pos : Pos} {e : Expr} {es : List Expr} {t tk : TA} {kws : List Keyword}
def tCl (sp : Sp) (t : TA) : TE := fun σ H Q => t σ H fun vs H1 => sp vs H1 Q E0
theorem pe_cl (c : Cl X.prog X.w X.K X.mg X.base k x sp) (hr : Room j X.A) (hk : k ≤ j) (hg : Gl X x) (ha : PA X (e :: es) t)
    (hdb : (x == ("__debug__" : Str)) = false := by decide) (he : starEach (e :: es) X.env = (false, eval e X.env) :: starEach es X.env := by rfl) (hpl : (backTo pos (starEach es X.env)).any (·.1) = false := by rfl) :
    PE X (.Call (.Name x p) (e :: es) [] pos) (tCl sp t) := by
  obtain ⟨f, fd, ps, F, hm, kp, b⟩ := c.ex
  have h := pe_call (dvs := []) (ds := []) F (hr.mono hk) hg hm kp b .nil pass0 ha hdb he hpl (p := p) (pos := pos)
  have e0 : tCall sp [] E0 t = tCl sp t := by
    funext σ H Q
    show t σ H (fun vs H1 => sp (vs ++ []) H1 Q E0) = t σ H fun vs H1 => sp vs H1 Q E0
    simp only [List.append_nil]
  rw [e0] at h
  exact h
theorem pe_cl0 (c : Cl X.prog X.w X.K X.mg X.base k x sp) (hr : Room j X.A) (hk : k ≤ j) (hg : Gl X x) (hdb : (x == ("__debug__" : Str)) = false := by decide) : PE X (.Call (.Name x p) [] [] pos) (tCl sp tNil) := by
  obtain ⟨f, fd, ps, F, hm, kp, b⟩ := c.ex
  exact pe_call0 (dvs := []) (ds := []) F (hr.mono hk) hg hm kp b .nil pass0 hdb
end
/-! ### rules by names -/
def rLen2 (K : PySem.W.Frag) : List V → Hp → VK → Prop := fun xs H Q => ∃ p ys, xs = [.ref p] ∧ (SqL K H p ys ∨ SqT K H p ys) ∧ Q (.int ys.length) H
def rInt : List V → Hp → VK → Prop := fun xs H Q => (∃ i, xs = [.int i] ∧ Q (.int i) H) ∨ ∃ k, xs = [.bl k] ∧ Q (.int (if k then 1 else 0)) H
def rIntS : List V → Hp → VK → Prop := fun xs H Q => ∃ a n, xs = [.str a] ∧ PySem.intText? a = some n ∧ a.length ≤ 640 ∧ Q (.int n) H
def rListOf (K : PySem.W.Frag) : List V → Hp → VK → Prop := fun xs H Q => ∃ p ys, xs = [.ref p] ∧ (SqL K H p ys ∨ SqT K H p ys) ∧ ∀ l, H l = none → Q (.ref l) (upd H l (.lst ys))
def rTupOf (K : PySem.W.Frag) : List V → Hp → VK → Prop := fun xs H Q => ∃ p ys, xs = [.ref p] ∧ ((SqL K H p ys ∧ ∀ l, H l = none → Q (.ref l) (upd H l (.tup ys))) ∨ (SqT K H p ys ∧ Q (.ref p) H))
def rMin2 : List V → Hp → VK → Prop := fun xs H Q => ∃ i j, xs = [.int i, .int j] ∧ Q (.int (if j < i then j else i)) H
abbrev rMax2 := Evl.rMax2
def rStrI : List V → Hp → VK → Prop := fun xs H Q => ∃ i, xs = [.int i] ∧ i.natAbs.log2 < 1920 ∧ Q (.str (toString i)) H
def rInSg : R2 := fun x y H Q => ∃ (c : Nat) (z : Str), x = .str ⟨#[c]⟩ ∧ y = .str z ∧ Q (.bl (decide (c ∈ z.cps.toList))) H
def rIsNn : R2 := fun x y H Q => y = .non ∧ Q (.bl (decide (x = .non))) H
def rNotNn : R2 := fun x y H Q => y = .non ∧ Q (.bl (!decide (x = .non))) H
/-- x in a written row of texts, x a text or a tuple -/
def rInK (K : PySem.W.Frag) : R2 := fun x y H Q => rIn K false x y H Q ∨ ∃ (a p : Addr) (ds : List V) (xs : List Str), x = .ref a ∧ SqT K H a ds ∧ y = .ref p ∧ SqT K H p (xs.map V.str) ∧ Q (.bl false) H
section
variable {X : Cx}
theorem cl_len : CallR X (.builtin "len") (rLen2 X.K) := call_len_seq
theorem cl_str : CallR X (.builtin "len") rLenS := call_len_str
theorem cl_int : CallR X (.type "int") rInt := call_int1
theorem cl_intS : CallR X (.type "int") rIntS := call_int_str
theorem cl_list : CallR X (.type "list") (rListOf X.K) := call_list_of
theorem cl_tuple : CallR X (.type "tuple") (rTupOf X.K) := call_tuple_of
theorem cl_min2 (hc : X.calm = true) : CallR X (.builtin "min") rMin2 := call_min2 hc
theorem cl_max2 (hc : X.calm = true) : CallR X (.builtin "max") rMax2 := call_max2 hc
theorem cl_strI : CallR X (.type "str") rStrI := call_str_int
theorem op_addS : OpR X (binaryOp .Add) rCatS := op_add_str
theorem op_inSg : OpR X (compareOp .In) rInSg := op_in_sign
theorem op_isNn : OpR X (compareOp .Is) rIsNn := op_isN
theorem op_notNn : OpR X (compareOp .IsNot) rNotNn := op_notN
theorem tup_str_eqAt {A : Around} {s : Shared} {a : Addr} {items : Array Value} (hl : s.heap.IsTuple a items) (hu : A.units < cLine) : ∀ {xs : List Str} {us : List Value}, Vals (xs.map V.str) us → ∀ u ∈ us, SeqAt.EqAt A s u (.ref a) false
  | [], _, .nil => fun u hu => by cases hu
  | x :: xs, _ :: us, .cons r t => fun u h => by
    rcases List.mem_cons.mp h with rfl | h
    · obtain ⟨t, rfl⟩ := r
      exact SeqAt.EqAt.str_tuple x t hl hu
    · exact tup_str_eqAt hl hu t u h
theorem op_in_kind (hu : X.A.units + 1 < cLine) : OpR X (compareOp .In) (rInK X.K) := by
  intro pins s σ H x y v u Q I rx ry h
  rcases h with h | ⟨a, p, ds, xs, rfl, ha, rfl, hp, q⟩
  · exact op_in_seq pins s σ H x y v u Q I rx ry h
  · cases rx
    cases ry
    obtain ⟨its, r, pl, hz⟩ := I.tuple hp
    obtain ⟨its2, r2, pl2, hz2⟩ := I.tuple ha
    refine SeqAt.in_tupleAt (fun _ => false) pl (fun w hw => tup_str_eqAt pl2 hu r w (by simpa using hw)) ⟨.bl _, H, I, rfl, ?_⟩
    rw [show its.toArray.any (fun _ => false) = false by simp]
    exact q
end
/-! ### heaps that grow -/
theorem _root_.L2.Same.seqT {K : PySem.W.Frag} {H H' : Hp} {a : Addr} {xs : List V} (e : Same H H') (h : SqT K H a xs) : SqT K H' a xs := by
  rcases h with (h | ⟨o, h⟩) | h
  · exact .inl (.inl (e _ _ h))
  · exact .inl (.inr ⟨o, e _ _ h⟩)
  · exact .inr h
theorem _root_.L2.Same.new {H : Hp} {p : Addr} {o : HO} (h : H p = none) : Same H (upd H p o) := fun b x e => by
  rw [upd_ne (ne_of_none e h)]
  exact e
theorem _root_.L2.Same.mut {H H' : Hp} {p : Addr} {o : HO} (e : Same H H') (h : H p = none) : Same H (upd H' p o) := Evl.Ex.mut e h
theorem sz {n : Nat} (h : n ≤ 100000) : n ≤ sizeLine := Nat.le_trans h (by decide)
theorem szl {n : Nat} (h : n < 100000) : n < sizeLine := Nat.lt_of_lt_of_le h (by decide)
theorem _root_.L2.Room.hu {k : Nat} {A : Around} (hr : Room k A) : A.units + 1 < cLine := Nat.lt_of_le_of_lt (Nat.add_le_add_left (by decide : 1 ≤ 200) _) (Nat.lt_of_le_of_lt (by omega) hr.un)
/-! ### readings, step by step -/
/-- a new tuple, a new list -/
def NwT (Q : VK) (xs : List V) (H : Hp) : Prop := xs.length ≤ sizeLine ∧ ∀ p, H p = none → Q (.ref p) (upd H p (.tup xs))
def NwL (Q : VK) (xs : List V) (H : Hp) : Prop := xs.length ≤ sizeLine ∧ ∀ p, H p = none → Q (.ref p) (upd H p (.lst xs))
section
variable {σ : L2.St} {H : Hp} {Q : VK} {D : Ends} {t u : TS} {te ta tb : TE} {tt tu : TT} {g : TG} {i : Nat} {x y v : V} {r : R2} {b : Bool} {tra : TA} {QA : List V → Hp → Prop} {QB : Bool → Hp → Prop} {K : PySem.W.Frag} {p : Addr}
theorem r_seq (h : t { D with nx := u D } σ H) : tSeq t u D σ H := h
theorem r_asg (h : te σ H fun x H1 => g x σ H1 D.nx) : tAsg te g D σ H := h
theorem r_gname {Qs : L2.St → Hp → Prop} (h : Qs (σ.set i (some v)) H) : gName i v σ H Qs := h
theorem r_ret (h : te σ H D.rt) : tRet te D σ H := h
theorem r_drop (h : te σ H fun _ H1 => D.nx σ H1) : tDrop te D σ H := h
theorem r_next (h : D.nx σ H) : tNext D σ H := h
theorem r_brk (h : D.bk σ H) : tBreak D σ H := h
theorem r_if (h : tt σ H fun b H1 => if b = true then t D σ H1 else u D σ H1) : tIfS tt t u D σ H := h
theorem r_test (h : te σ H fun x H1 => ∃ c, x = .bl c ∧ QB c H1) : tTest te σ H QB := h
theorem r_B (h : te σ H fun x H1 => ∃ c, x = .bl c ∧ QB c H1) : tB te σ H QB := h
theorem r_bl {QB : Bool → Prop} (h : QB b) : ∃ c, V.bl b = V.bl c ∧ QB c := ⟨b, rfl, h⟩
theorem r_op (h : ta σ H fun x H1 => tb σ H1 fun y H2 => r x y H2 Q) : tOp r ta tb σ H Q := h
theorem r_un {ru : V → Hp → VK → Prop} (h : ta σ H fun x H1 => ru x H1 Q) : tUn ru ta σ H Q := h
theorem r_neg {j : Int} {gg : Int → V} (h : Q (gg j) H) : rU gg (.int j) H Q := ⟨j, rfl, h⟩
theorem r_var (e : σ[i]? = some (some v)) (h : Q v H) : tVar i σ H Q := ⟨v, e, h⟩
theorem r_c (h : Q v H) : tC v σ H Q := h
theorem r_I0 {gg : Int → Int → V} {a c : Int} (h : Q (gg a c) H) : rI0 gg (.int a) (.int c) H Q := ⟨a, c, rfl, rfl, h⟩
theorem r_I {C : Int → Int → Prop} {gg : Int → Int → V} {a c : Int} (hc : C a c) (h : Q (gg a c) H) : rI C gg (.int a) (.int c) H Q := ⟨a, c, rfl, rfl, hc, h⟩
theorem r_eq (s : scal x y = true) (h : Q (.bl (decide (x = y))) H) : rEq x y H Q := ⟨s, h⟩
theorem r_ne (s : scal x y = true) (h : Q (.bl (!decide (x = y))) H) : rNe x y H Q := ⟨s, h⟩
theorem r_cons {tr : TA} (h : te σ H fun x H1 => tr σ H1 fun xs H2 => QA (x :: xs) H2) : tCons te tr σ H QA := h
theorem r_nil (h : QA [] H) : tNil σ H QA := h
theorem r_cl {sp : Sp} (h : tra σ H fun vs H1 => sp vs H1 Q E0) : tCl sp tra σ H Q := h
theorem r_cb {rc : List V → Hp → VK → Prop} (h : tra σ H fun vs H1 => rc vs H1 Q) : tCB rc tra σ H Q := h
theorem r_int {a : Int} (h : Q (.int a) H) : rInt [.int a] H Q := .inl ⟨a, rfl, h⟩
theorem r_intB {k : Bool} (h : Q (.int (if k then 1 else 0)) H) : rInt [.bl k] H Q := .inr ⟨k, rfl, h⟩
theorem r_min2 {a c : Int} (h : Q (.int (if c < a then c else a)) H) : rMin2 [.int a, .int c] H Q := ⟨a, c, rfl, h⟩
theorem r_max2 {a c : Int} (h : Q (.int (if c > a then c else a)) H) : rMax2 [.int a, .int c] H Q := ⟨a, c, rfl, h⟩
theorem r_lenL {xs : List V} (hl : SqL K H p xs) (h : Q (.int xs.length) H) : rLen2 K [.ref p] H Q := ⟨p, xs, rfl, .inl hl, h⟩
theorem r_lenT {xs : List V} (hl : SqT K H p xs) (h : Q (.int xs.length) H) : rLen2 K [.ref p] H Q := ⟨p, xs, rfl, .inr hl, h⟩
theorem r_lenS {z : Str} (hz : z.length ≤ sizeLine) (h : Q (.int z.length) H) : rLenS [.str z] H Q := ⟨z, rfl, hz, h⟩
theorem r_ixL {xs : List V} {j : Nat} (hl : SqL K H p xs) (e : xs[j]? = some v) (h : Q v H) : rIxL K (.ref p) (.int (j : Nat)) H Q := ⟨p, xs, _, v, rfl, rfl, hl, atI_nat e, h⟩
theorem r_ixT {xs : List V} {j : Nat} (hl : SqT K H p xs) (e : xs[j]? = some v) (h : Q v H) : rIxT K (.ref p) (.int (j : Nat)) H Q := ⟨p, xs, _, v, rfl, rfl, hl, atI_nat e, h⟩
/-- the places are written numbers -/
theorem r_ixLc {xs : List V} {j : Int} (hl : SqL K H p xs) (e : atI xs j = some v) (h : Q v H) : rIxL K (.ref p) (.int j) H Q := ⟨p, xs, _, v, rfl, rfl, hl, e, h⟩
theorem r_ixTc {xs : List V} {j : Int} (hl : SqT K H p xs) (e : atI xs j = some v) (h : Q v H) : rIxT K (.ref p) (.int j) H Q := ⟨p, xs, _, v, rfl, rfl, hl, e, h⟩
theorem r_tup (h : tra σ H fun xs H1 => NwT Q xs H1) : tTup tra σ H Q := h
theorem r_lst (h : tra σ H fun xs H1 => NwL Q xs H1) : tLst tra σ H Q := h
theorem r_and (h : tt σ H fun c H1 => if c = true then tu σ H1 QB else QB false H1) : tAnd tt tu σ H QB := h
theorem r_or (h : tt σ H fun c H1 => if c = true then QB true H1 else tu σ H1 QB) : tOr tt tu σ H QB := h
theorem r_not (h : tt σ H fun c H1 => QB (!c) H1) : tNot tt σ H QB := h
theorem r_ifE (h : tt σ H fun c H1 => if c = true then ta σ H1 Q else tb σ H1 Q) : tIf tt ta tb σ H Q := h
theorem r_andV (h : ta σ H fun x H1 => ∃ c, x = .bl c ∧ if c = true then tb σ H1 Q else Q (.bl false) H1) : tAndV ta tb σ H Q := h
theorem r_orV (h : ta σ H fun x H1 => ∃ c, x = .bl c ∧ if c = true then Q (.bl true) H1 else tb σ H1 Q) : tOrV ta tb σ H Q := h
theorem r_notV (h : ta σ H fun x H1 => ∃ c, x = .bl c ∧ Q (.bl (!c)) H1) : tNotV ta σ H Q := h
theorem r_cut {Mid : L2.St → Hp → Prop} (h : t { D with nx := Mid } σ H) (k : ∀ σ' H', Mid σ' H' → u D σ' H') : C8.tCut t u D σ H := ⟨Mid, h, k⟩
theorem r_isN (h : Q (.bl (decide (x = .non))) H) : rIsNn x .non H Q := ⟨rfl, h⟩
theorem r_notN (h : Q (.bl (!decide (x = .non))) H) : rNotNn x .non H Q := ⟨rfl, h⟩
theorem r_catS {a c : Str} (hz : a.length + c.length ≤ sizeLine) (h : Q (.str (a ++ c)) H) : rCatS (.str a) (.str c) H Q := ⟨a, c, rfl, rfl, hz, h⟩
theorem r_inSg {c : Nat} {z : Str} (h : ∀ b, Q (.bl b) H) : rInSg (.str ⟨#[c]⟩) (.str z) H Q := ⟨c, z, rfl, rfl, h _⟩
theorem r_ixS {z : Str} {j : Int} {c : Nat} (hz : z.length ≤ sizeLine) (e : atI z.cps.toList j = some c) (h : Q (.str ⟨#[c]⟩) H) : rIxS (.str z) (.int j) H Q := ⟨z, j, c, rfl, rfl, hz, e, h⟩
theorem r_slS {z : Str} {lo hi : Option Int} (hz : z.length ≤ sizeLine) (h : Q (.str (cutS z lo hi)) H) : rSlS (.str z) lo hi H Q := ⟨z, rfl, hz, h⟩
theorem r_m1 {rr : V → List V → Hp → VK → Prop} (h : ta σ H fun x H1 => (∃ a, x = .str a) ∧ tb σ H1 fun y H2 => rr x [y] H2 Q) : tM1 rr ta tb σ H Q := h
theorem r_inL {neg : Bool} {xs : List V} (h : SqL K H p xs) (hx : flatV x = true) (ha : xs.all flatV = true) (q : ∀ b, Q (.bl b) H) : rIn K neg x (.ref p) H Q := ⟨p, xs, rfl, .inl h, hx, ha, q _⟩
theorem r_inT {neg : Bool} {xs : List V} (h : SqT K H p xs) (hx : flatV x = true) (ha : xs.all flatV = true) (q : ∀ b, Q (.bl b) H) : rIn K neg x (.ref p) H Q := ⟨p, xs, rfl, .inr h, hx, ha, q _⟩
theorem r_slc {rr : V → Option Int → Option Int → Hp → VK → Prop} {tl th : TO} (h : te σ H fun x H1 => tl σ H1 fun l H2 => th σ H2 fun u H3 => rr x l u H3 Q) : tSl rr te tl th σ H Q := h
theorem r_nop {QO : Option Int → Hp → Prop} (h : QO none H) : tNoPart σ H QO := h
theorem r_part {QO : Option Int → Hp → Prop} (h : te σ H fun x H1 => ∃ i, x = .int i ∧ QO (some i) H1) : tPart te σ H QO := h
theorem r_ei {j : Int} {QI : Int → Prop} (h : QI j) : ∃ k, V.int j = V.int k ∧ QI k := ⟨j, rfl, h⟩
theorem r_bm {T : String} {rr : V → List V → Hp → VK → Prop} (h : te σ H fun x H1 => tyV K T x H1 ∧ tra σ H1 fun xs H2 => rr x xs H2 Q) : tBM K T rr te tra σ H Q := h
/-- an if on a decided test -/
theorem i2 {c : Prop} [Decidable c] {A B : Prop} (h1 : c → A) (h2 : ¬ c → B) : if decide c = true then A else B := by
  by_cases h : c
  · rw [if_pos (decide_eq_true h)]; exact h1 h
  · rw [if_neg (by rw [decide_eq_false h]; decide)]; exact h2 h
theorem i2n {c : Prop} [Decidable c] {A B : Prop} (h1 : ¬ c → A) (h2 : c → B) : if (!decide c) = true then A else B := by
  by_cases h : c
  · rw [if_neg (by rw [decide_eq_true h]; decide)]; exact h2 h
  · rw [if_pos (by rw [decide_eq_false h]; rfl)]; exact h1 h
theorem ib {c : Bool} {A B : Prop} (h1 : c = true → A) (h2 : c = false → B) : if c = true then A else B := by
  cases c with
  | true => rw [if_pos rfl]; exact h1 rfl
  | false => rw [if_neg Bool.false_ne_true]; exact h2 rfl
end
end Sw
namespace Sw
open PySem PySem.Spec PyProof.Rows L2
theorem szr {n : Nat} (h : Nat.ble n 100000 = true) : n ≤ sizeLine := sz (Nat.le_of_ble_eq_true h)
section
variable {H : Hp} {Q : VK} {xs : List V}
theorem n_tup (hl : xs.length ≤ sizeLine) (h : ∀ p H1, H p = none → Same H H1 → H1 p = some (.tup xs) → Q (.ref p) H1) : NwT Q xs H :=
  ⟨hl, fun p hp => h p _ hp (Same.new hp) upd_same⟩
theorem n_lst (hl : xs.length ≤ sizeLine) (h : ∀ p H1, H p = none → Same H H1 → H1 p = some (.lst xs) → Q (.ref p) H1) : NwL Q xs H :=
  ⟨hl, fun p hp => h p _ hp (Same.new hp) upd_same⟩
theorem n_all {o : HO} (h : ∀ p H1, H p = none → Same H H1 → H1 p = some o → Q (.ref p) H1) : ∀ p, H p = none → Q (.ref p) (upd H p o) := fun p hp => h p _ hp (Same.new hp) upd_same
end
section
variable {H : Hp} {Q : VK} {K : PySem.W.Frag} {p q : Addr} {xs ys : List V} {lo hi : Option Int}
theorem r_list (h : SqL K H p xs ∨ SqT K H p xs) (k : ∀ l H1, H l = none → Same H H1 → H1 l = some (.lst xs) → Q (.ref l) H1) : rListOf K [.ref p] H Q := ⟨p, xs, rfl, h, fun l hl => k l _ hl (Same.new hl) upd_same⟩
theorem r_tupL (h : SqL K H p xs) (k : ∀ l H1, H l = none → Same H H1 → H1 l = some (.tup xs) → Q (.ref l) H1) : rTupOf K [.ref p] H Q := ⟨p, xs, rfl, .inl ⟨h, fun l hl => k l _ hl (Same.new hl) upd_same⟩⟩
theorem r_cat (h1 : H p = some (.lst xs)) (h2 : H q = some (.lst ys)) (hz : xs.length + ys.length ≤ 100000) (k : ∀ l H1, H l = none → Same H H1 → H1 l = some (.lst (xs ++ ys)) → Q (.ref l) H1) : rCat (.ref p) (.ref q) H Q :=
  ⟨p, q, xs, ys, rfl, rfl, h1, h2, sz hz, fun l hl => k l _ hl (Same.new hl) upd_same⟩
theorem r_slL (h : SqL K H p xs) (k : ∀ l H1, H l = none → Same H H1 → H1 l = some (.lst (cutV xs lo hi)) → Q (.ref l) H1) : rSlL K (.ref p) lo hi H Q := ⟨p, xs, rfl, h, fun l hl => k l _ hl (Same.new hl) upd_same⟩
end
/-- the built-ins' names are not the module's -/
structure Bi (mg : Str → Option Value) : Prop where
  tlen : mg "len" = none
  tint : mg "int" = none
  tlist : mg "list" = none
  ttuple : mg "tuple" = none
  tmin : mg "min" = none
  tmax : mg "max" = none
  tsum : mg "sum" = none
  tsorted : mg "sorted" = none
  tisinstance : mg "isinstance" = none
  trange : mg "range" = none
  treversed : mg "reversed" = none
  tstr : mg "str" = none
  tbool : mg "bool" = none
section
variable {H : Hp} {Q : VK}
theorem r_sub {to ti : TE} {ts : TSet} {v : V} {σ : L2.St} {Qs : L2.St → Hp → Prop} (h : to σ H fun o H1 => ti σ H1 fun i H2 => ts o i v H2 fun H3 => Qs σ H3) : gSub to ti ts v σ H Qs := h
theorem r_setL {p : Addr} {xs : List V} {k : Int} {j : Nat} {v : V} {Qh : Hp → Prop} (hl : H p = some (.lst xs)) (e : ixN xs.length k = some j) (h : Qh (upd H p (.lst (xs.set j v)))) : rSetL (.ref p) (.int k) v H Qh := ⟨p, xs, k, j, rfl, rfl, hl, e, h⟩
/-- a rest: its bounds -/
theorem r_mod {i j : Int} (hj : 0 < j) (h : ∀ x : Int, 0 ≤ x → x < j → Q (.int x) H) : rI (fun _ j => 0 < j) (fun i j => .int (i % j)) (.int i) (.int j) H Q :=
  ⟨i, j, rfl, rfl, hj, h _ (Int.emod_nonneg i (by omega)) (Int.emod_lt_of_pos i hj)⟩
theorem r_mul {i j : Int} (hc : CMul i j) (h : Q (.int (i * j)) H) : rI CMul (fun i j => .int (i * j)) (.int i) (.int j) H Q := ⟨i, j, rfl, rfl, hc, h⟩
theorem r_div {i j : Int} (hc : 0 < j) (hd : j < 2 ^ 100) (h : Q (.int (i / j)) H) : rI CDivW (fun i j => .int (i / j)) (.int i) (.int j) H Q := ⟨i, j, rfl, rfl, wide_div (b := 100) hc (by omega) (by decide) (by decide), h⟩
theorem r_pow {i j : Int} (hc : CPow i j) (h : Q (.int (i ^ j.toNat)) H) : rI CPow (fun i j => .int (i ^ j.toNat)) (.int i) (.int j) H Q := ⟨i, j, rfl, rfl, hc, h⟩
end
theorem cxK {CX : CXT} {P : Program} {w : World} {K : PySem.W.Frag} {mg : Str → Option Value} {base : Heap} {N : List Str} {q : Str} {sc : Scope} {f : Addr} {cd : Value} {A : Around} {outer : List Env} {s : Shared} {H : Hp} {E : XK} : (cxOf CX P w K mg base N q sc f cd A outer s H E).nox.K = K := rfl
theorem cxK2 {CX : CXT} {P : Program} {w : World} {K : PySem.W.Frag} {mg : Str → Option Value} {base : Heap} {N : List Str} {q : Str} {sc : Scope} {f : Addr} {cd : Value} {A : Around} {outer : List Env} {s : Shared} {H : Hp} {E : XK} : (cxOf CX P w K mg base N q sc f cd A outer s H E).K = K := rfl
theorem atI_mem {α : Type} {xs : List α} {x : Int} (h0 : 0 ≤ x) (h1 : x < xs.length) : ∃ v, v ∈ xs ∧ atI xs x = some v := by
  obtain ⟨n, rfl⟩ := Int.eq_ofNat_of_zero_le h0
  have hn : n < xs.length := by omega
  exact ⟨xs[n], List.getElem_mem hn, atI_nat (List.getElem?_eq_getElem hn)⟩
theorem atI_ints {ms : List Int} {x : Int} (h0 : 0 ≤ x) (h1 : x < ms.length) : ∃ i, i ∈ ms ∧ atI (ms.map V.int) x = some (.int i) := by
  obtain ⟨v, hv, e⟩ := atI_mem (xs := ms.map V.int) h0 (by simpa using h1)
  obtain ⟨i, hi, rfl⟩ := List.mem_map.mp hv
  exact ⟨i, hi, e⟩
theorem ints_of : ∀ {ys : List V}, (∀ y ∈ ys, ∃ i : Int, y = .int i) → ∃ ms : List Int, ys = List.map V.int ms
  | [], _ => ⟨[], rfl⟩
  | y :: ys, h => by
    obtain ⟨i, rfl⟩ := h y List.mem_cons_self
    obtain ⟨ms, rfl⟩ := ints_of fun z hz => h z (List.mem_cons_of_mem _ hz)
    exact ⟨i :: ms, rfl⟩
theorem strs_of {R : Str → Prop} : ∀ {ys : List V}, (∀ y ∈ ys, ∃ x : Str, y = .str x ∧ R x) → ∃ ms : List Str, ys = List.map V.str ms ∧ ∀ m ∈ ms, R m
  | [], _ => ⟨[], rfl, fun _ h => by cases h⟩
  | y :: ys, h => by
    obtain ⟨i, rfl, hi⟩ := h y List.mem_cons_self
    obtain ⟨ms, rfl, hm⟩ := strs_of fun z hz => h z (List.mem_cons_of_mem _ hz)
    exact ⟨i :: ms, rfl, fun m h => by
      rcases List.mem_cons.mp h with rfl | h
      · exact hi
      · exact hm m h⟩
theorem emod_lt {a b : Int} (h : 0 < b) : 0 ≤ a % b ∧ a % b < b := ⟨Int.emod_nonneg a (by omega), Int.emod_lt_of_pos a h⟩
theorem divc {i j : Int} (h : 0 < j) (h2 : j < 2 ^ 100) : CDivW i j := wide_div (b := 100) h (by omega) (by decide) (by decide)
end Sw
namespace Sw
open PySem PySem.Spec PyProof.Rows L2
/-! ### data of tuples -/
/-- every tuple that can be read stays -/
def TSt (K : PySem.W.Frag) (H H' : Hp) : Prop := ∀ a xs, SqT K H a xs → SqT K H' a xs
/-- all but the object at D stays -/
def SB (D : Addr) (H H' : Hp) : Prop := ∀ b o, b ≠ D → H b = some o → H' b = some o
theorem _root_.L2.Same.ts {K : PySem.W.Frag} {H H' : Hp} (e : Same H H') : TSt K H H' := fun _ _ h => Same.seqT e h
theorem SB.ts {K : PySem.W.Frag} {D : Addr} {H H' : Hp} {xs : List V} (e : SB D H H') (hD : H D = some (.lst xs)) : TSt K H H' := fun a ys h => by
  rcases h with (h | ⟨o, h⟩) | h
  · exact .inl (.inl (e _ _ (ne_of h hD (fun z => nomatch z)) h))
  · exact .inl (.inr ⟨o, e _ _ (ne_of h hD (fun z => nomatch z)) h⟩)
  · exact .inr h
theorem TSt.trans {K : PySem.W.Frag} {H H1 H2 : Hp} (a : TSt K H H1) (b : TSt K H1 H2) : TSt K H H2 := fun c o h => b c o (a c o h)
theorem extN_ts {K : PySem.W.Frag} {H H' : Hp} (e : LamX.ExtN H H') : TSt K H H' := fun a ys h => by
  rcases h with (h | ⟨o, h⟩) | h
  · exact .inl (.inl (e _ _ h fun _ z => nomatch z))
  · exact .inl (.inr ⟨o, e _ _ h fun _ z => nomatch z⟩)
  · exact .inr h
mutual
inductive Dt (K : PySem.W.Frag) (H : Hp) : V → PyData → Prop
  | non : Dt K H .non .none
  | bl (b : Bool) : Dt K H (.bl b) (.bool b)
  | int (i : Int) : Dt K H (.int i) (.int i)
  | str (x : Str) : Dt K H (.str x) (.str x)
  | tup {a : Addr} {xs : List V} {ds : List PyData} : SqT K H a xs → DtA K H xs ds → Dt K H (.ref a) (.tuple ds)
inductive DtA (K : PySem.W.Frag) (H : Hp) : List V → List PyData → Prop
  | nil : DtA K H [] []
  | cons {v : V} {vs : List V} {d : PyData} {ds : List PyData} : Dt K H v d → DtA K H vs ds → DtA K H (v :: vs) (d :: ds)
end
mutual
theorem Dt.ts {K : PySem.W.Frag} {H H' : Hp} (e : TSt K H H') : ∀ {v : V} {d : PyData}, Dt K H v d → Dt K H' v d
  | _, _, .non => .non
  | _, _, .bl b => .bl b
  | _, _, .int i => .int i
  | _, _, .str x => .str x
  | _, _, .tup h a => .tup (e _ _ h) (DtA.ts e a)
theorem DtA.ts {K : PySem.W.Frag} {H H' : Hp} (e : TSt K H H') : ∀ {vs : List V} {ds : List PyData}, DtA K H vs ds → DtA K H' vs ds
  | _, _, .nil => .nil
  | _, _, .cons h t => .cons (Dt.ts e h) (DtA.ts e t)
end
theorem Dt.up {K : PySem.W.Frag} {H H' : Hp} {v : V} {d : PyData} (e : Same H H') (h : Dt K H v d) : Dt K H' v d := h.ts e.ts
theorem DtA.up {K : PySem.W.Frag} {H H' : Hp} {v : List V} {d : List PyData} (e : Same H H') (h : DtA K H v d) : DtA K H' v d := h.ts e.ts
theorem DtA.length {K : PySem.W.Frag} {H : Hp} : ∀ {vs : List V} {ds : List PyData}, DtA K H vs ds → vs.length = ds.length
  | _, _, .nil => rfl
  | _, _, .cons _ t => congrArg Nat.succ t.length
theorem DtA.get {K : PySem.W.Frag} {H : Hp} : ∀ {vs : List V} {ds : List PyData} {i : Nat} {d : PyData}, DtA K H vs ds → ds[i]? = some d → ∃ v, vs[i]? = some v ∧ Dt K H v d
  | _, _, _, _, .nil, h => by simp at h
  | _, _, 0, _, .cons h t, e => by
    have e := Option.some.inj e
    subst e
    exact ⟨_, rfl, h⟩
  | _, _, i + 1, _, .cons h t, e => DtA.get (i := i) t e
theorem DtA.get' {K : PySem.W.Frag} {H : Hp} : ∀ {vs : List V} {ds : List PyData} {i : Nat} {v : V}, DtA K H vs ds → vs[i]? = some v → ∃ d, ds[i]? = some d ∧ Dt K H v d
  | _, _, _, _, .nil, h => by simp at h
  | _, _, 0, _, .cons h t, e => by
    have e := Option.some.inj e
    subst e
    exact ⟨_, rfl, h⟩
  | _, _, i + 1, _, .cons h t, e => DtA.get' (i := i) t e
/-! ### comprehensions: what each item gives -/
/-- E i y H0 H: the i-th result y, worked out from the heap H0, as known in H -/
def LcGo (te : TE) (j : Nat) (vs : List Nat) (σ : L2.St) (item : Nat → V → Prop) (n : Nat) (Q : VK) (H : Hp) : Prop :=
  ∃ E : Nat → V → Hp → Hp → Prop, (∀ i v H0 H1 H2 D xs0 xs, H0 D = some (.lst xs0) → H1 D = some (.lst xs) → SB D H1 H2 → E i v H0 H1 → E i v H0 H2) ∧ (∀ x, wipe ((wipe σ vs).set j (some x)) vs = wipe σ vs) ∧
    (∀ i x H', i < n → item i x → Same H H' → ∀ Q' : VK, (∀ y H4, Same H' H4 → E i y H' H4 → Q' y H4) → te ((wipe σ vs).set j (some x)) H' Q') ∧
    ∀ p H' ys, Same H H' → H p = none → H' p = some (.lst ys) → ys.length = n → (∀ i y, ys[i]? = some y → ∃ H0, Same H H0 ∧ E i y H0 H') → Q (.ref p) H'
def LcI (H1 : Hp) (E : Nat → V → Hp → Hp → Prop) (Dl : Addr) (i : Nat) (H' : Hp) : Prop := Same H1 H' ∧ ∃ ys, H' Dl = some (.lst ys) ∧ ys.length = i ∧ ∀ k y, ys[k]? = some y → ∃ H0 xs0, Same H1 H0 ∧ H0 Dl = some (.lst xs0) ∧ E k y H0 H'
section
variable {te : TE} {j : Nat} {vs : List Nat} {σ : L2.St} {Q : VK} {H : Hp} {K : PySem.W.Frag}
theorem lcI_turn {H1 H' : Hp} {E : Nat → V → Hp → Hp → Prop} {Dl : Addr} {i : Nat} {σ2 : L2.St} (hn : H1 Dl = none) (mono : ∀ i v H0 H1 H2 D xs0 xs, H0 D = some (.lst xs0) → H1 D = some (.lst xs) → SB D H1 H2 → E i v H0 H1 → E i v H0 H2) (p : LcI H1 E Dl i H') (hi : i < 50000)
    (he : ∀ Q' : VK, (∀ y H4, Same H' H4 → E i y H' H4 → Q' y H4) → te σ2 H' Q') :
    te σ2 H' fun y H4 => ∃ acc, H4 Dl = some (.lst acc) ∧ acc.length < sizeLine ∧ LcI H1 E Dl (i + 1) (upd H4 Dl (.lst (acc ++ [y]))) := by
  obtain ⟨p1, ys, p2, p3, p4⟩ := p
  refine he _ fun y H4 s e => ⟨ys, s _ _ p2, szl (by omega), (p1.trans s).mut hn, ys ++ [y], upd_same, by simp [p3], fun k z hk => ?_⟩
  have sb : SB Dl H4 (upd H4 Dl (.lst (ys ++ [y]))) := fun b o hb e => by rw [upd_ne hb]; exact e
  by_cases hlt : k < ys.length
  · rw [List.getElem?_append_left hlt] at hk
    obtain ⟨H0, xs0, q1, q2, q3⟩ := p4 k z hk
    exact ⟨H0, xs0, q1, q2, mono _ _ _ _ _ _ _ _ q2 (s _ _ p2) sb (mono _ _ _ _ _ _ _ _ q2 p2 (fun b o _ e => s _ _ e) q3)⟩
  · have hk2 : k = i := by
      have := (List.getElem?_eq_some_iff.mp hk).1
      rw [List.length_append, List.length_singleton] at this
      omega
    subst hk2
    rw [List.getElem?_append_right (by omega)] at hk
    have hz : y = z := by
      have e0 : k - ys.length = 0 := by omega
      rw [e0] at hk
      exact Option.some.inj hk
    subst hz
    exact ⟨H', ys, p1, p2, mono _ _ _ _ _ _ _ _ p2 (s _ _ p2) sb e⟩
theorem lcI_zero {E : Nat → V → Hp → Hp → Prop} {Dl : Addr} (hn : H Dl = none) : LcI H E Dl 0 (upd H Dl (.lst [])) := ⟨Same.new hn, [], upd_same, rfl, fun k y h => by simp at h⟩
/-- what a comprehension's walk wants -/
def LcF (g : TG) (tt : TT) (te : TE) (vs : List Nat) (σ : L2.St) (Q : VK) (J : It) (H1 : Hp) : Prop := tLc (fun _ _ R => R J H1) g tt te vs σ H1 Q
abbrev LcW (g : TG) (te : TE) (vs : List Nat) (σ : L2.St) (Q : VK) (J : It) (H1 : Hp) : Prop := LcF g tYes te vs σ Q J H1
theorem r_lc {wi : TI} {g : TG} (h : wi σ H (LcW g te vs σ Q)) : tLc wi g tYes te vs σ H Q := h
theorem r_rng1 {ta : TA} {R : It → Hp → Prop} (h : ta σ H fun vs H1 => ∃ j : Int, vs = [.int j] ∧ -(2 ^ 62) ≤ j ∧ j < 2 ^ 62 ∧ R (Itr 0 j.toNat) H1) : iRng1 ta σ H R := h
theorem r_rng2 {ta : TA} {R : It → Hp → Prop} (h : ta σ H fun vs H1 => ∃ i j : Int, vs = [.int i, .int j] ∧ (-(2 ^ 62) ≤ i ∧ i < 2 ^ 62 ∧ -(2 ^ 62) ≤ j ∧ j < 2 ^ 62) ∧ R (Itr i (j - i).toNat) H1) : iRng2 ta σ H R := h
theorem r_ilist {tl : TE} {R : It → Hp → Prop} (h : tl σ H fun x H1 => ∃ a, x = .ref a ∧ (∃ xs, SqL K H1 a xs) ∧ R (Itl K a) H1) : iList K tl σ H R := h
theorem r_itup {tl : TE} {R : It → Hp → Prop} (h : tl σ H fun x H1 => ∃ a, x = .ref a ∧ (∃ xs, SqT K H1 a xs) ∧ R (Itt K a) H1) : iTup K tl σ H R := h
theorem lcW_range {lo : Int} {n : Nat} (hn : n ≤ 50000) (h : LcGo te j vs σ (fun i x => x = .int (lo + (i : Int))) n Q H) : LcW (gName j) te vs σ Q (Itr lo n) H := by
  obtain ⟨E, mono, hw, he, hq⟩ := h
  intro D hD
  refine lc_range (LcI H E D) (lcI_zero hD) (fun i H' hi p => ⟨hw _, ?_⟩) fun H' p => ?_
  · exact lcI_turn hD mono p (by omega) fun Q' hQ' => he i _ H' hi rfl p.1 Q' hQ'
  · obtain ⟨p1, ys, p2, p3, p4⟩ := p
    exact hq D H' ys p1 hD p2 p3 fun i y hy => let ⟨H0, _, q1, _, q3⟩ := p4 i y hy; ⟨H0, q1, q3⟩
theorem lcR {n : Int} (h0 : -50000 ≤ n) (hn : n ≤ 50000) (h : LcGo te j vs σ (fun i x => x = .int ((0 : Int) + (i : Int))) n.toNat Q H) :
    ∃ m : Int, [V.int n] = [V.int m] ∧ -(2 ^ 62) ≤ m ∧ m < 2 ^ 62 ∧ LcW (gName j) te vs σ Q (Itr 0 m.toNat) H := ⟨n, rfl, by omega, by omega, lcW_range (by omega) h⟩
theorem lcR2 {lo n : Int} (h0 : -50000 ≤ lo ∧ lo ≤ 50000) (hn : -50000 ≤ n ∧ n ≤ lo + 50000) (h : LcGo te j vs σ (fun i x => x = .int (lo + (i : Int))) (n - lo).toNat Q H) :
    ∃ i m : Int, [V.int lo, V.int n] = [V.int i, V.int m] ∧ (-(2 ^ 62) ≤ i ∧ i < 2 ^ 62 ∧ -(2 ^ 62) ≤ m ∧ m < 2 ^ 62) ∧ LcW (gName j) te vs σ Q (Itr i (m - i).toNat) H := ⟨lo, n, rfl, ⟨by omega, by omega, by omega, by omega⟩, lcW_range (by omega) h⟩
theorem lcL {a : Addr} {xs : List V} (hl : SqL K H a xs) (hn : xs.length ≤ 50000) (h : LcGo te j vs σ (fun i x => xs[i]? = some x) xs.length Q H) :
    ∃ b, V.ref a = V.ref b ∧ (∃ xs, SqL K H b xs) ∧ LcW (gName j) te vs σ Q (Itl K b) H := by
  refine ⟨a, rfl, ⟨xs, hl⟩, ?_⟩
  obtain ⟨E, mono, hw, he, hq⟩ := h
  intro D hD
  refine lc_list (xs := xs) (LcI H E D) (lcI_zero hD) (fun i H' _ p => p.1.seq hl) (fun i x H' hi p => ⟨hw _, ?_⟩) fun H' p => ?_
  · have hlt := (List.getElem?_eq_some_iff.mp hi).1
    exact lcI_turn hD mono p (by omega) fun Q' hQ' => he i _ H' hlt hi p.1 Q' hQ'
  · obtain ⟨p1, ys, p2, p3, p4⟩ := p
    exact hq D H' ys p1 hD p2 p3 fun i y hy => let ⟨H0, _, q1, _, q3⟩ := p4 i y hy; ⟨H0, q1, q3⟩
end
/-- values that lean on no heap -/
theorem mono0 {F : Nat → V → Prop} : ∀ (i : Nat) (v : V) (H0 H1 H2 : Hp) (D : Addr) (xs0 xs : List V), H0 D = some (.lst xs0) → H1 D = some (.lst xs) → SB D H1 H2 → (fun i v (_ _ : Hp) => F i v) i v H0 H1 → (fun i v (_ _ : Hp) => F i v) i v H0 H2 := fun _ _ _ _ _ _ _ _ _ _ _ h => h
end Sw
namespace Sw
open PySem PySem.Spec PyProof.Rows L2
/-! ### for loops -/
/-- what a loop's walk wants -/
def FoW (g : TG) (tb : TS) (D : Ends) (σ : L2.St) (J : It) (H1 : Hp) : Prop := tFor (fun _ _ R => R J H1) g tb D σ H1
section
variable {tb : TS} {j : Nat} {σ : L2.St} {D : Ends} {H : Hp} {K : PySem.W.Frag}
theorem r_for {wi : TI} {g : TG} (h : wi σ H (FoW g tb D σ)) : tFor wi g tb D σ H := h
theorem foW_range {lo : Int} {n : Nat} (Pv : Nat → L2.St → Hp → Prop) (p0 : Pv 0 σ H) (hs : ∀ i σ H, i < n → Pv i σ H → tb { D with nx := Pv (i + 1), ct := Pv (i + 1), bk := D.nx } (σ.set j (some (.int (lo + (i : Int))))) H) (hd : ∀ σ H, Pv n σ H → D.nx σ H) : FoW (gName j) tb D σ (Itr lo n) H :=
  for_range Pv p0 (fun i σ H hi p => hs i σ H hi p) hd
theorem foR {n : Int} (h0 : -50000 ≤ n) (hn : n ≤ 50000) (Pv : Nat → L2.St → Hp → Prop) (p0 : Pv 0 σ H) (hs : ∀ (i : Nat) σ H, (i : Int) < n → Pv i σ H → tb { D with nx := Pv (i + 1), ct := Pv (i + 1), bk := D.nx } (σ.set j (some (.int ((0 : Int) + (i : Int))))) H) (hd : ∀ σ H, Pv n.toNat σ H → D.nx σ H) :
    ∃ m : Int, [V.int n] = [V.int m] ∧ -(2 ^ 62) ≤ m ∧ m < 2 ^ 62 ∧ FoW (gName j) tb D σ (Itr 0 m.toNat) H := ⟨n, rfl, by omega, by omega, foW_range Pv p0 (fun i σ H hi p => hs i σ H (by omega) p) hd⟩
theorem foL {a : Addr} {xs : List V} (hl : SqL K H a xs) (Pv : Nat → L2.St → Hp → Prop) (p0 : Pv 0 σ H) (hk : ∀ i σ H, Pv i σ H → SqL K H a xs) (hs : ∀ (i : Nat) x σ H, xs[i]? = some x → Pv i σ H → tb { D with nx := Pv (i + 1), ct := Pv (i + 1), bk := D.nx } (σ.set j (some x)) H) (hd : ∀ σ H, Pv xs.length σ H → D.nx σ H) :
    ∃ b, V.ref a = V.ref b ∧ (∃ xs, SqL K H b xs) ∧ FoW (gName j) tb D σ (Itl K b) H := ⟨a, rfl, ⟨xs, hl⟩, for_list Pv p0 (fun i σ H _ p => hk i σ H p) (fun i x σ H hx p => hs i x σ H hx p) hd⟩
theorem foT {a : Addr} {xs : List V} (hl : SqT K H a xs) (Pv : Nat → L2.St → Hp → Prop) (p0 : Pv 0 σ H) (hk : ∀ i σ H, Pv i σ H → SqT K H a xs) (hs : ∀ (i : Nat) x σ H, xs[i]? = some x → Pv i σ H → tb { D with nx := Pv (i + 1), ct := Pv (i + 1), bk := D.nx } (σ.set j (some x)) H) (hd : ∀ σ H, Pv xs.length σ H → D.nx σ H) :
    ∃ b, V.ref a = V.ref b ∧ (∃ xs, SqT K H b xs) ∧ FoW (gName j) tb D σ (Itt K b) H := ⟨a, rfl, ⟨xs, hl⟩, for_tup Pv p0 (fun i σ H _ p => hk i σ H p) (fun i x σ H hx p => hs i x σ H hx p) hd⟩
end
/-! ### texts -/
/-- a text that begins with a sign below a -/
def FirstCap (s : Str) : Prop := ∃ c r, s.cps.toList = c :: r ∧ c < 97
theorem FirstCap.app {a b : Str} (h : FirstCap a) : FirstCap (a ++ b) := by
  obtain ⟨c, r, e, hc⟩ := h
  refine ⟨c, r ++ b.cps.toList, ?_, hc⟩
  have := TL.tl_append a b
  show TL.tl (a ++ b) = _
  rw [this]
  show a.cps.toList ++ b.cps.toList = _
  rw [e]
  rfl
theorem FirstCap.pos {a : Str} (h : FirstCap a) : 0 < a.cps.toList.length := by
  obtain ⟨c, r, e, hc⟩ := h
  rw [e]
  exact Nat.succ_pos _
theorem cutS_len (z : Str) (lo hi : Option Int) : (cutS z lo hi).length ≤ z.length := by
  unfold cutS
  show (Array.size _) ≤ _
  rw [List.size_toArray, List.length_take, List.length_drop]
  show _ ≤ z.cps.size
  rw [← Array.length_toList]
  omega
theorem len_tl (z : Str) : z.cps.toList.length = z.length := by
  show _ = z.cps.size
  rw [Array.length_toList]
end Sw
namespace Sw
open PySem PySem.Spec PyProof.Rows L2
def rIns : V → List V → Hp → VK → Prop := fun x vs H Q => ∃ (l : Addr) (xs : List V) (i : Int) (y : V), x = .ref l ∧ vs = [.int i, y] ∧ H l = some (.lst xs) ∧ xs.length < sizeLine ∧ 0 ≤ i ∧ i < 2 ^ 63 ∧ Q .non (upd H l (.lst (xs.take i.toNat ++ [y] ++ xs.drop i.toNat)))
theorem mt_ins {X : Cx} : MtR X "list.insert" rIns := mt_insert
section
variable {H : Hp} {Q : VK} {K : PySem.W.Frag} {l p : Addr} {xs : List V} {y : V} {lo hi : Option Int}
theorem atI_zero {α : Type} {a : α} {xs : List α} : atI (a :: xs) 0 = some a := atI_nat (j := 0) rfl
theorem r_ins {i : Int} (h : H l = some (.lst xs)) (hz : xs.length < 100000) (h0 : 0 ≤ i) (h1 : i < 100000) (k : Q .non (upd H l (.lst (xs.take i.toNat ++ [y] ++ xs.drop i.toNat)))) : rIns (.ref l) [.int i, y] H Q := ⟨l, xs, i, y, rfl, rfl, h, szl hz, h0, by omega, k⟩
theorem r_app (h : H l = some (.lst xs)) (hz : xs.length < 100000) (k : Q .non (upd H l (.lst (xs ++ [y])))) : rAppend (.ref l) [y] H Q := ⟨l, xs, y, rfl, rfl, h, szl hz, k⟩
theorem ty_list (h : H l = some (.lst xs)) : tyV K "list" (.ref l) H := .inl ⟨rfl, _, SqL.of h⟩
theorem mem_cutV {v : V} (h : v ∈ cutV xs lo hi) : v ∈ xs := List.mem_of_mem_drop (List.mem_of_mem_take h)
theorem r_slA (h : SqT K H p xs) (k1 : Q (.ref p) H) (k2 : ∀ l H1, H l = none → Same H H1 → H1 l = some (.tup (cutV xs lo hi)) → Q (.ref l) H1) : rSlA K (.ref p) lo hi H Q :=
  ⟨p, xs, rfl, h, fun _ => k1, fun _ l hl => k2 l _ hl (Same.new hl) upd_same⟩
theorem sb_upd {o : HO} : SB l H (upd H l o) := fun b o hb e => by rw [upd_ne hb]; exact e
theorem ts_upd {o : HO} (h : H l = some (.lst xs)) : TSt K H (upd H l o) := SB.ts sb_upd h
theorem atI_neg1 {α : Type} {xs : List α} (h : 0 < xs.length) : ∃ v, v ∈ xs ∧ atI xs (-1) = some v := by
  have e : xs = xs.dropLast ++ [xs.getLast (List.ne_nil_of_length_pos h)] := (List.dropLast_concat_getLast _).symm
  refine ⟨xs.getLast (List.ne_nil_of_length_pos h), List.getLast_mem _, ?_⟩
  have := atI_last xs.dropLast (xs.getLast (List.ne_nil_of_length_pos h))
  rw [← e] at this
  exact this
theorem cut1 (xs : List V) : cutV xs (some 1) none = xs.drop 1 := by
  unfold cutV
  rw [show HT.sIx xs.length 0 (some 1) = min 1 xs.length from HT.sIx_nat xs.length 0 1, HT.sIx_none]
  cases xs with
  | nil => rfl
  | cons x r =>
    rw [show min 1 (x :: r).length = 1 by
      rw [List.length_cons]
      omega]
    show (List.take ((x :: r).length - 1) r) = r
    rw [List.length_cons, Nat.add_sub_cancel]
    exact List.take_length
end
end Sw
namespace Sw
open PySem PySem.Spec PyProof.Rows L2
/-! ### tests whose answer is reckoned first -/
theorem r_and2 {σ : L2.St} {H : Hp} {tt tu : TT} {QB : Bool → Hp → Prop} {a b : Bool} (h1 : ∀ QB : Bool → Hp → Prop, QB a H → tt σ H QB) (h2 : ∀ QB : Bool → Hp → Prop, QB b H → tu σ H QB) (h : QB (a && b) H) : tAnd tt tu σ H QB := h1 _ (by
  cases a with
  | true => exact h2 _ h
  | false => exact h)
theorem r_or2 {σ : L2.St} {H : Hp} {tt tu : TT} {QB : Bool → Hp → Prop} {a b : Bool} (h1 : ∀ QB : Bool → Hp → Prop, QB a H → tt σ H QB) (h2 : ∀ QB : Bool → Hp → Prop, QB b H → tu σ H QB) (h : QB (a || b) H) : tOr tt tu σ H QB := h1 _ (by
  cases a with
  | true => exact h
  | false => exact h2 _ h)
end Sw

set_option maxHeartbeats 4000000
namespace Sw
open PySem PySem.Spec PyProof.Rows L2
/-! ### the law's state, as an object whose inside does not matter -/
def stL (c q : Addr) (p r t m d : Int) : List V := [.ref c, .int p, .int r, .int t, .int m, .int d, .ref q]
def StO (st c q : Addr) : HO := .ext fun h => ∃ (p r t m d : Int) (its : List Value) (n : Nat), 0 ≤ p ∧ 0 ≤ r ∧ Vals (stL c q p r t m d) its ∧ h.get? st = some { cls := .type "list", data := .seq its.toArray n }
structure StC (H : Hp) (c q : Addr) (ns ms : List Int) : Prop where
  hc : H c = some (.lst (ns.map V.int))
  hq : H q = some (.lst (ms.map V.int))
  len : ms.length = ns.length
  sm : ns.length ≤ 63
def StOk (H : Hp) (st : Addr) : Prop := ∃ c q ns ms, H st = some (StO st c q) ∧ StC H c q ns ms
theorem StC.up {H H' : Hp} {c q : Addr} {ns ms : List Int} (e : Same H H') (h : StC H c q ns ms) : StC H' c q ns ms := ⟨e _ _ h.hc, e _ _ h.hq, h.len, h.sm⟩
theorem _root_.L2.Same.st {H H' : Hp} {st : Addr} (e : Same H H') (h : StOk H st) : StOk H' st := by
  obtain ⟨c, q, ns, ms, h1, h2⟩ := h
  exact ⟨c, q, ns, ms, e _ _ h1, h2.up e⟩
theorem stO_ne {st c q : Addr} {o : HO} (h : ∀ φ, o ≠ .ext φ) : StO st c q ≠ o := fun e => h _ e.symm
section
variable {P : Program} {w : World} {H : Hp} {h : Heap} {st c q : Addr}
/-- two views of one object -/
theorem hok_view {o o' : HO} (x : HOk P w H h) (e : H st = some o) (n1 : ∀ a, o ≠ .own a) (n2 : ∀ xs, o ≠ .tup xs) (new : ObjOk P w (upd H st o') h st o') : HOk P w (upd H st o') h := fun b u q => by
  by_cases hb : b = st
  · subst hb; rw [upd_same] at q; cases q; exact new
  · rw [upd_ne hb] at q
    refine (x b u q).stay (fun _ _ _ q => q) (fun d q2 => ?_) fun d xs q2 => ?_
    · rw [upd_ne]
      · exact q2
      · rintro rfl; rw [e] at q2; exact n1 _ (Option.some.inj q2)
    · rw [upd_ne]
      · exact q2
      · rintro rfl; rw [e] at q2; exact n2 _ (Option.some.inj q2)
theorem open_st (x : HOk P w H h) (e : H st = some (StO st c q)) : ∃ p r t m d : Int, 0 ≤ p ∧ 0 ≤ r ∧ HOk P w (upd H st (.lst (stL c q p r t m d))) h := by
  obtain ⟨⟨p, r, t, m, d, its, n, h1, h2, h3, h4⟩, _, _⟩ := x st _ e
  exact ⟨p, r, t, m, d, h1, h2, hok_view x e (fun _ z => nomatch z) (fun _ z => nomatch z) ⟨sz (show 7 ≤ 100000 by decide), its, n, h3, h4⟩⟩
theorem seal_st {p r t m d : Int} (x : HOk P w H h) (e : H st = some (.lst (stL c q p r t m d))) (h1 : 0 ≤ p) (h2 : 0 ≤ r) : HOk P w (upd H st (StO st c q)) h := by
  refine hok_view x e (fun _ z => nomatch z) (fun _ z => nomatch z) ?_
  obtain ⟨_, its, n, h3, h4⟩ := x st _ e
  refine ⟨⟨p, r, t, m, d, its, n, h1, h2, h3, h4⟩, ⟨_, h4⟩, fun a b ⟨p, r, t, m, d, its, n, h1, h2, h3, h4⟩ k => ⟨p, r, t, m, d, its, n, h1, h2, h3, k _ h4⟩⟩
end
theorem upd_eta {H : Hp} {a : Addr} {o : HO} (h : H a = some o) : upd H a o = H := by
  funext b
  unfold upd
  split
  · rename_i e; rw [e, h]
  · rfl
theorem stL_ne {c q : Addr} {p r t m d : Int} {ns : List Int} : HO.lst (ns.map V.int) ≠ HO.lst (stL c q p r t m d) := fun e => by
  injection e with e
  cases ns with
  | nil => cases e
  | cons a b =>
    injection e with e1 e2
    cases e1
/-! ### _law_draw, its two promises -/
structure ZD where
  st : Addr
  c : Addr
  q : Addr
  ns : List Int
  ms : List Int
  p : Int
  r : Int
  t : Int
  m : Int
  d : Int
  n : Int
/-- the state as a list -/
def spDrawL : Sp := Spc ZD (fun z => [.ref z.st, .int z.n]) (fun z H => H z.st = some (.lst (stL z.c z.q z.p z.r z.t z.m z.d)) ∧ StC H z.c z.q z.ns z.ms ∧ 0 ≤ z.p ∧ 0 ≤ z.r ∧ 0 < z.n ∧ z.n < 2 ^ 100)
  fun z H v H' => ∃ x p r t m d : Int, v = .int x ∧ 0 ≤ x ∧ x < z.n ∧ 0 ≤ p ∧ 0 ≤ r ∧ H' = upd H z.st (.lst (stL z.c z.q p r t m d))
/-- the state as a thing: nothing changes -/
def spDraw : Sp := Spc (Addr × Int) (fun z => [.ref z.1, .int z.2]) (fun z H => StOk H z.1 ∧ 0 < z.2 ∧ z.2 < 2 ^ 100) fun z H v H' => ∃ x : Int, v = .int x ∧ 0 ≤ x ∧ x < z.2 ∧ H = H'
section
variable {P : Program} {w : World} {K : PySem.W.Frag} {mg : Str → Option Value} {base : Heap} {k : Nat}
theorem draw_view {f : Addr} {fd : FuncData} {ps : List Str} (F : FnOk P w K mg base CX0 k f fd ps spDrawL) (hp : ps.length = 2) : FnOk P w K mg base CX0 k f fd ps spDraw := by
  refine ⟨fun vs H Q E ⟨z, e, _⟩ => by rw [e, hp]; rfl, fun A outer s H args us vs Q E hr e0 hb rv hs => ?_⟩
  obtain ⟨⟨st, n⟩, rfl, ⟨⟨c, q, ns, ms, hst, hC⟩, n1, n2⟩, hq⟩ := hs
  have hst : H st = some (StO st c q) := hst
  obtain ⟨p, r, t, m, d, p0, r0, hok⟩ := open_st e0.hok hst
  have nst : ∀ {b : Addr}, H b = none → b ≠ st := fun h z => by rw [z, hst] at h; cases h
  have e1 : Env0 P w K mg base A outer s (upd H st (.lst (stL c q p r t m d))) := ⟨e0.frames, e0.mod, fun b o e => ⟨(e0.bs b o e).1, by rw [upd_ne (nst (e0.bs b o e).2)]; exact (e0.bs b o e).2⟩, e0.bsz, e0.funs, fun b hb => by rw [upd_ne (nst (e0.frf b hb))]; exact e0.frf b hb, hok, e0.bare⟩
  have hne : ∀ {b : Addr} {xs : List V}, H b = some (.lst xs) → b ≠ st := fun h z => by rw [z, hst] at h; exact absurd (Option.some.inj h) (stO_ne fun _ z => nomatch z)
  have hC1 : StC (upd H st (.lst (stL c q p r t m d))) c q ns ms := ⟨by rw [upd_ne (hne hC.hc)]; exact hC.hc, by rw [upd_ne (hne hC.hq)]; exact hC.hq, hC.len, hC.sm⟩
  refine codeAny_mono (F.run A outer s _ args us _ (fun v H' => (∃ p r t m d : Int, 0 ≤ p ∧ 0 ≤ r ∧ H' = upd H st (.lst (stL c q p r t m d))) ∧ Q v H) E hr e1 hb rv ⟨⟨st, c, q, ns, ms, p, r, t, m, d, n⟩, rfl, ⟨upd_same, hC1, p0, r0, n1, n2⟩, fun v H' hv => ?_⟩) fun res s' hres => ?_
  · obtain ⟨x, p', r', t', m', d', rfl, x0, x1, q0, r0', rfl⟩ := hv
    exact ⟨⟨p', r', t', m', d', q0, r0', upd_upd⟩, hq _ _ ⟨x, rfl, x0, x1, rfl⟩⟩
  · cases res with
    | error e => exact hres
    | ok fl =>
      cases fl with
      | next => exact hres
      | brk => exact hres
      | cont => exact hres
      | ret u =>
        obtain ⟨v, H', os, bare, un, hok', r', ⟨p', r'', t', m', d', p0', r0', e⟩, hQ⟩ := hres
        subst e
        have h0 : ∀ {b : Addr}, H b = none → upd H st (.lst (stL c q p r t m d)) b = none := fun h => by rw [upd_ne (nst h)]; exact h
        refine ⟨v, H, os, bare, ⟨fun b o e n hb hx => un.keep b o e (h0 n) hb hx, fun b o e n hb hx => un.slot b o e (h0 n) hb hx, fun b o e n hx => n, fun b o e hx => un.there b o e hx, fun _ _ e => e, fun _ _ _ e => e, fun b ps e => ⟨#[], by rw [e]; simp⟩⟩, ?_, r', hQ⟩
        have hs := seal_st hok' upd_same p0' r0'
        rw [upd_upd, upd_eta hst] at hs
        exact hs
theorem Cl.draw (c : Cl P w K mg base k "_law_draw" spDrawL) : Cl P w K mg base k "_law_draw" spDraw := by
  obtain ⟨f, fd, ps, F, hm, kp, b⟩ := c.ex
  have hl : ps.length = 2 := by
    have := F.len [.ref 0, .int 1] (upd (upd (upd (fun _ => none) 1 (.lst [])) 2 (.lst [])) 0 (.lst (stL 1 2 0 0 0 0 0))) (fun _ _ => True) E0 ⟨⟨0, 1, 2, [], [], 0, 0, 0, 0, 0, 1⟩, rfl, ⟨upd_same, ⟨rfl, rfl, rfl, by decide⟩, by decide, by decide, by decide, by decide⟩, fun _ _ _ => trivial⟩
    exact this.symm
  exact ⟨f, fd, ps, draw_view F hl, hm, kp, b⟩
end
end Sw

set_option maxHeartbeats 4000000
namespace Sw
open PySem PySem.Spec PyProof.Rows L2
/-! ### the data of trees -/
def kinds4 : List Str := ["cell", "range", "rows", "columns"]
def leafKinds : List Str := ["text", "number", "truth", "error", "empty", "name", "array"]
def flatD : PyData → Prop
  | .none | .bool _ | .int _ | .str _ => True
  | _ => False
/-- a tuple's head shows that it is no area -/
def headOk : List PyData → Prop
  | [] => True
  | .str k :: _ => k ∉ kinds4
  | .tuple _ :: _ => True
  | _ => False
/-- R of the members, one by one -/
def Pr {α β : Type} (R : α → β → Prop) : List α → List β → Prop
  | [], [] => True
  | a :: as, b :: bs => R a b ∧ Pr R as bs
  | _, _ => False
theorem Pr.mono {α β : Type} {R S : α → β → Prop} (h : ∀ a b, R a b → S a b) : ∀ {as : List α} {bs : List β}, Pr R as bs → Pr S as bs
  | [], [], _ => trivial
  | _ :: _, _ :: _, ⟨a, b⟩ => ⟨h _ _ a, Pr.mono h b⟩
  | [], _ :: _, h => h.elim
  | _ :: _, [], h => h.elim
theorem Pr.length {α β : Type} {R : α → β → Prop} : ∀ {as : List α} {bs : List β}, Pr R as bs → as.length = bs.length
  | [], [], _ => rfl
  | _ :: _, _ :: _, ⟨_, b⟩ => congrArg Nat.succ (Pr.length b)
  | [], _ :: _, h => h.elim
  | _ :: _, [], h => h.elim
theorem Pr.get {α β : Type} {R : α → β → Prop} : ∀ {as : List α} {bs : List β} {i : Nat} {a : α}, Pr R as bs → as[i]? = some a → ∃ b, bs[i]? = some b ∧ R a b
  | [], [], _, _, _, h => by simp at h
  | _ :: _, _ :: _, 0, _, ⟨a, _⟩, h => by
    have h := Option.some.inj h
    subst h
    exact ⟨_, rfl, a⟩
  | _ :: _, _ :: _, i + 1, _, ⟨_, b⟩, h => Pr.get (i := i) b h
  | [], _ :: _, _, _, h, _ => h.elim
  | _ :: _, [], _, _, h, _ => h.elim
theorem Pr.refl {α : Type} {R : α → α → Prop} : ∀ {as : List α}, (∀ a ∈ as, R a a) → Pr R as as
  | [], _ => trivial
  | a :: as, h => ⟨h a List.mem_cons_self, Pr.refl fun b hb => h b (List.mem_cons_of_mem _ hb)⟩
/-- what stands behind a deed A on the areas: all else stays -/
def Fl (A : PyData → PyData → Prop) : Nat → PyData → PyData → Prop
  | 0, _, _ => False
  | n + 1, d, d' => (flatD d ∧ d' = d) ∨ A d d' ∨ ∃ ds ds', d = .tuple ds ∧ d' = .tuple ds' ∧ headOk ds ∧ Pr (Fl A n) ds ds'
theorem Fl.succ {A : PyData → PyData → Prop} : ∀ {n : Nat} {d d' : PyData}, Fl A n d d' → Fl A (n + 1) d d'
  | 0, _, _, h => h.elim
  | n + 1, d, d', h => by
    rcases h with h | h | ⟨ds, ds', e, e', hh, hp⟩
    · exact .inl h
    · exact .inr (.inl h)
    · exact .inr (.inr ⟨ds, ds', e, e', hh, hp.mono fun _ _ q => Fl.succ q⟩)
theorem Fl.mono {A : PyData → PyData → Prop} {n m : Nat} (h : n ≤ m) {d d' : PyData} (q : Fl A n d d') : Fl A m d d' := by
  induction h with
  | refl => exact q
  | step _ ih => exact Fl.succ ih
theorem Fl.flat {A : PyData → PyData → Prop} {n : Nat} {d : PyData} (h : flatD d) : Fl A (n + 1) d d := .inl ⟨h, rfl⟩
/-- plain data: no area in it, whatever the deed -/
def Pl (n : Nat) (d : PyData) : Prop := ∀ A, Fl A n d d
theorem Pl.flat {n : Nat} {d : PyData} (h : flatD d) : Pl (n + 1) d := fun _ => .flat h
theorem Pl.tup {n : Nat} {ds : List PyData} (hh : headOk ds) (h : ∀ d ∈ ds, Pl n d) : Pl (n + 1) (.tuple ds) := fun A => .inr (.inr ⟨ds, ds, rfl, rfl, hh, Pr.refl fun d hd => h d hd A⟩)
theorem Pl.mono {n m : Nat} (h : n ≤ m) {d : PyData} (q : Pl n d) : Pl m d := fun A => (q A).mono h
/-- a name of the trees: no word of an area's kind -/
def NmOk (s : Str) : Prop := s ∉ kinds4
/-- a tree without trees in it -/
def LeafD (d : PyData) : Prop := ∃ k r, d = .tuple (.str k :: r) ∧ k ∈ leafKinds ∧ Pl 5 d
/-- an area's node -/
inductive AreaD : PyData → Prop
  | cell (sh : PyData) (r c : Nat) (f g : Bool) : (sh = .none ∨ ∃ i, sh = .int i) → r < 20 → c < 10 → AreaD (.tuple [.str "cell", sh, .int r, .int c, .bool f, .bool g])
  | range (sh : PyData) (t l b r : Nat) (f g h i : Bool) : (sh = .none ∨ ∃ i, sh = .int i) → t ≤ b → b < 20 → l ≤ r → r < 10 → AreaD (.tuple [.str "range", sh, .int t, .int l, .int b, .int r, .bool f, .bool g, .bool h, .bool i])
  | rows (sh : PyData) (t b : Nat) (f g : Bool) : (sh = .none ∨ ∃ i, sh = .int i) → t ≤ b → b < 20 → AreaD (.tuple [.str "rows", sh, .int t, .int b, .bool f, .bool g])
  | cols (sh : PyData) (l r : Nat) (f g : Bool) : (sh = .none ∨ ∃ i, sh = .int i) → l ≤ r → r < 10 → AreaD (.tuple [.str "columns", sh, .int l, .int r, .bool f, .bool g])
/-- a tree, at most n deep -/
def WF : Nat → PyData → Prop
  | 0, _ => False
  | n + 1, d => AreaD d ∨ LeafD d ∨ (∃ s t, d = .tuple [.str "sign", .str s, t] ∧ WF n t) ∨ (∃ s l r, d = .tuple [.str "binary", .str s, l, r] ∧ WF n l ∧ WF n r) ∨
      (∃ w ts, d = .tuple [.str "call", .str w, .tuple ts] ∧ ts.length ≤ 1000 ∧ ∀ t ∈ ts, WF n t) ∨
      (∃ ws ts b, d = .tuple [.str "let", .tuple (List.map PyData.str ws), .tuple ts, b] ∧ (∀ w ∈ ws, NmOk w) ∧ ts.length ≤ 1000 ∧ (∀ t ∈ ts, WF n t) ∧ WF n b) ∨
      (∃ ws b, d = .tuple [.str "lambda", .tuple (List.map PyData.str ws), b] ∧ (∀ w ∈ ws, NmOk w) ∧ WF n b) ∨
      (∃ t ts, d = .tuple [.str "apply", t, .tuple ts] ∧ WF n t ∧ ts.length ≤ 1000 ∧ ∀ t ∈ ts, WF n t)
theorem WF.succ : ∀ {n : Nat} {d : PyData}, WF n d → WF (n + 1) d
  | 0, _, h => h.elim
  | n + 1, d, h => by
    rcases h with h | h | ⟨s, t, e, h⟩ | ⟨s, l, r, e, h1, h2⟩ | ⟨w, ts, e, hl, h⟩ | ⟨ws, ts, b, e, hw, hl, h1, h2⟩ | ⟨ws, b, e, hw, h⟩ | ⟨t, ts, e, h1, hl, h2⟩
    · exact .inl h
    · exact .inr (.inl h)
    · exact .inr (.inr (.inl ⟨s, t, e, WF.succ h⟩))
    · exact .inr (.inr (.inr (.inl ⟨s, l, r, e, WF.succ h1, WF.succ h2⟩)))
    · exact .inr (.inr (.inr (.inr (.inl ⟨w, ts, e, hl, fun t ht => WF.succ (h t ht)⟩))))
    · exact .inr (.inr (.inr (.inr (.inr (.inl ⟨ws, ts, b, e, hw, hl, fun t ht => WF.succ (h1 t ht), WF.succ h2⟩)))))
    · exact .inr (.inr (.inr (.inr (.inr (.inr (.inl ⟨ws, b, e, hw, WF.succ h⟩))))))
    · exact .inr (.inr (.inr (.inr (.inr (.inr (.inr ⟨t, ts, e, WF.succ h1, hl, fun t ht => WF.succ (h2 t ht)⟩))))))
theorem WF.mono {n m : Nat} (h : n ≤ m) {d : PyData} (q : WF n d) : WF m d := by
  induction h with
  | refl => exact q
  | step _ ih => exact WF.succ ih
theorem area_head {d : PyData} (h : AreaD d) : ∃ k r, d = .tuple (.str k :: r) ∧ k ∈ kinds4 := by
  cases h with
  | cell => exact ⟨_, _, rfl, by decide⟩
  | range => exact ⟨_, _, rfl, by decide⟩
  | rows => exact ⟨_, _, rfl, by decide⟩
  | cols => exact ⟨_, _, rfl, by decide⟩
/-- a tree is a tuple that begins with a text -/
theorem WF.head : ∀ {n : Nat} {d : PyData}, WF n d → ∃ k r, d = .tuple (.str k :: r)
  | 0, _, h => h.elim
  | n + 1, d, h => by
    rcases h with h | ⟨k, r, h, _⟩ | ⟨s, t, e, h⟩ | ⟨s, l, r, e, h1, h2⟩ | ⟨w, ts, e, hl, h⟩ | ⟨ws, ts, b, e, hw, hl, h1, h2⟩ | ⟨ws, b, e, hw, h⟩ | ⟨t, ts, e, h1, hl, h2⟩
    · obtain ⟨k, r, e, _⟩ := area_head h
      exact ⟨k, r, e⟩
    · exact ⟨k, r, h⟩
    all_goals exact ⟨_, _, e⟩
/-- the tree at v, at most n deep -/
def Tr (K : PySem.W.Frag) (n : Nat) (H : Hp) (v : V) : Prop := ∃ d, Dt K H v d ∧ WF n d
theorem Tr.ts {K : PySem.W.Frag} {n : Nat} {H H' : Hp} {v : V} (e : TSt K H H') (h : Tr K n H v) : Tr K n H' v := let ⟨d, h1, h2⟩ := h; ⟨d, h1.ts e, h2⟩
theorem Tr.up {K : PySem.W.Frag} {n : Nat} {H H' : Hp} {v : V} (e : Same H H') (h : Tr K n H v) : Tr K n H' v := h.ts e.ts
theorem Tr.mono {K : PySem.W.Frag} {n m : Nat} {H : Hp} {v : V} (e : n ≤ m) (h : Tr K n H v) : Tr K m H v := let ⟨d, h1, h2⟩ := h; ⟨d, h1, h2.mono e⟩
theorem Tr.ref {K : PySem.W.Frag} {n : Nat} {H : Hp} {v : V} (h : Tr K n H v) : ∃ a, v = .ref a := by
  obtain ⟨d, h1, h2⟩ := h
  obtain ⟨k, r, rfl⟩ := h2.head
  cases h1 with
  | tup => exact ⟨_, rfl⟩
theorem DtA.of {K : PySem.W.Frag} {H : Hp} {R : PyData → Prop} : ∀ {vs : List V}, (∀ v ∈ vs, ∃ d, Dt K H v d ∧ R d) → ∃ ds, DtA K H vs ds ∧ ∀ d ∈ ds, R d
  | [], _ => ⟨[], .nil, fun _ h => by cases h⟩
  | v :: vs, h => by
    obtain ⟨d, h1, h2⟩ := h v List.mem_cons_self
    obtain ⟨ds, h3, h4⟩ := DtA.of (vs := vs) fun z hz => h z (List.mem_cons_of_mem _ hz)
    exact ⟨d :: ds, .cons h1 h3, fun e he => by
      rcases List.mem_cons.mp he with rfl | he
      · exact h2
      · exact h4 e he⟩
/-! ### making trees -/
section
variable {K : PySem.W.Frag} {H : Hp} {n : Nat} {p : Addr}
theorem mk_sign {s : Str} {v : V} (h : H p = some (.tup [.str "sign", .str s, v])) (t : Tr K n H v) : Tr K (n + 1) H (.ref p) := by
  obtain ⟨d, h1, h2⟩ := t
  exact ⟨_, .tup (SqT.of h) (.cons (.str _) (.cons (.str _) (.cons h1 .nil))), .inr (.inr (.inl ⟨s, d, rfl, h2⟩))⟩
theorem mk_binary {s : Str} {v u : V} (h : H p = some (.tup [.str "binary", .str s, v, u])) (t : Tr K n H v) (t2 : Tr K n H u) : Tr K (n + 1) H (.ref p) := by
  obtain ⟨d, h1, h2⟩ := t
  obtain ⟨e, g1, g2⟩ := t2
  exact ⟨_, .tup (SqT.of h) (.cons (.str _) (.cons (.str _) (.cons h1 (.cons g1 .nil)))), .inr (.inr (.inr (.inl ⟨s, d, e, rfl, h2, g2⟩)))⟩
theorem mk_call {s : Str} {q : Addr} {vs : List V} (h : H p = some (.tup [.str "call", .str s, .ref q])) (hq : SqT K H q vs) (hl : vs.length ≤ 1000) (t : ∀ v ∈ vs, Tr K n H v) : Tr K (n + 1) H (.ref p) := by
  obtain ⟨ds, h3, h4⟩ := DtA.of (R := WF n) t
  exact ⟨_, .tup (SqT.of h) (.cons (.str _) (.cons (.str _) (.cons (.tup hq h3) .nil))), .inr (.inr (.inr (.inr (.inl ⟨s, ds, rfl, by rw [← h3.length]; exact hl, h4⟩))))⟩
theorem names_dt {H : Hp} : ∀ {ws : List Str}, DtA K H (ws.map V.str) (List.map PyData.str ws)
  | [] => .nil
  | _ :: _ => .cons (.str _) names_dt
theorem mk_let {ws : List Str} {q q2 : Addr} {vs : List V} {b : V} (h : H p = some (.tup [.str "let", .ref q, .ref q2, b])) (hq : SqT K H q (ws.map V.str)) (hw : ∀ w ∈ ws, NmOk w) (hq2 : SqT K H q2 vs) (hl : vs.length ≤ 1000) (t : ∀ v ∈ vs, Tr K n H v) (tb : Tr K n H b) : Tr K (n + 1) H (.ref p) := by
  obtain ⟨ds, h3, h4⟩ := DtA.of (R := WF n) t
  obtain ⟨e, g1, g2⟩ := tb
  exact ⟨_, .tup (SqT.of h) (.cons (.str _) (.cons (.tup hq names_dt) (.cons (.tup hq2 h3) (.cons g1 .nil)))), .inr (.inr (.inr (.inr (.inr (.inl ⟨ws, ds, e, rfl, hw, by rw [← h3.length]; exact hl, h4, g2⟩)))))⟩
theorem mk_lambda {ws : List Str} {q : Addr} {b : V} (h : H p = some (.tup [.str "lambda", .ref q, b])) (hq : SqT K H q (ws.map V.str)) (hw : ∀ w ∈ ws, NmOk w) (tb : Tr K n H b) : Tr K (n + 1) H (.ref p) := by
  obtain ⟨e, g1, g2⟩ := tb
  exact ⟨_, .tup (SqT.of h) (.cons (.str _) (.cons (.tup hq names_dt) (.cons g1 .nil))), .inr (.inr (.inr (.inr (.inr (.inr (.inl ⟨ws, e, rfl, hw, g2⟩))))))⟩
theorem mk_apply {q : Addr} {vs : List V} {b : V} (h : H p = some (.tup [.str "apply", b, .ref q])) (tb : Tr K n H b) (hq : SqT K H q vs) (hl : vs.length ≤ 1000) (t : ∀ v ∈ vs, Tr K n H v) : Tr K (n + 1) H (.ref p) := by
  obtain ⟨ds, h3, h4⟩ := DtA.of (R := WF n) t
  obtain ⟨e, g1, g2⟩ := tb
  exact ⟨_, .tup (SqT.of h) (.cons (.str _) (.cons g1 (.cons (.tup hq h3) .nil))), .inr (.inr (.inr (.inr (.inr (.inr (.inr ⟨e, ds, rfl, g2, by rw [← h3.length]; exact hl, h4⟩))))))⟩
/-- a scalar: a kind's word, a flat thing -/
def ScD (d : PyData) : Prop := ∃ k x, d = .tuple [.str k, x] ∧ k ∈ leafKinds ∧ flatD x
theorem leaf_not {k : Str} (h : k ∈ leafKinds) : k ∉ kinds4 := by
  unfold leafKinds at h
  simp only [List.mem_cons, List.not_mem_nil, or_false] at h
  rcases h with rfl | rfl | rfl | rfl | rfl | rfl | rfl <;> decide
theorem ScD.pl {d : PyData} (h : ScD d) : Pl 2 d := by
  obtain ⟨k, x, rfl, hk, hx⟩ := h
  refine Pl.tup (leaf_not hk) fun e he => ?_
  rcases List.mem_cons.mp he with rfl | he
  · exact Pl.flat trivial
  · rcases List.mem_cons.mp he with rfl | he
    · exact Pl.flat hx
    · cases he
theorem ScD.leaf {d : PyData} (h : ScD d) : LeafD d := by
  have h2 := h.pl
  obtain ⟨k, x, rfl, hk, hx⟩ := h
  exact ⟨k, _, rfl, hk, h2.mono (by decide)⟩
theorem mk_leaf {v : V} {d : PyData} (h : Dt K H v d) (hd : LeafD d) : Tr K (n + 1) H v := ⟨d, h, .inr (.inl hd)⟩
theorem mk_empty (h : H p = some (.tup [.str "empty"])) : Tr K (n + 1) H (.ref p) :=
  mk_leaf (.tup (SqT.of h) (.cons (.str _) .nil)) ⟨_, _, rfl, by decide, Pl.tup (by show _ ∉ _; decide) fun e he => by
    rcases List.mem_cons.mp he with rfl | he
    · exact Pl.flat trivial
    · cases he⟩
theorem mk_area {v : V} {d : PyData} (h : Dt K H v d) (hd : AreaD d) : Tr K (n + 1) H v := ⟨d, h, .inl hd⟩
end
end Sw

set_option maxHeartbeats 4000000
namespace Sw
open PySem PySem.Spec PyProof.Rows L2 C8
local macro_rules | `(tactic| walk_at "v") => `(tactic| (with_reducible show tVar _ _ _ _; with_unfolding_all refine r_var rfl ?_))
local macro_rules | `(tactic| walk_at "x") => `(tactic| ((first | with_reducible refine r_ixTc (xs := ?xs) (v := ?v) ?hl ?e ?h | with_reducible refine r_ixLc (xs := ?xs) (v := ?v) ?hl ?e ?h); (case hl => first | assumption | exact SqT.of (by assumption) | exact SqL.of (by assumption)); (case e => first | rfl | assumption | exact atI_zero)))
local macro_rules | `(tactic| walk_at "n") => `(tactic| ((first | with_reducible refine r_mod ?hj (fun _ _ _ => ?_) | with_reducible refine r_mul ?hj ?_ | with_reducible refine r_div ?hj ?hd ?_ | with_reducible refine r_pow ?hj ?_); (case hj => first | (with_reducible show (0 : Int) < _; first | decide | omega) | exact ⟨by decide, by decide, by decide⟩ | exact .inr ⟨by decide, by decide⟩ | exact .inl ⟨by decide, by decide⟩ | exact .inl ⟨by omega, by omega⟩ | exact .inr ⟨by omega, by omega⟩); (try case hd => first | decide | omega)))
local macro_rules | `(tactic| walk_at "s0") => `(tactic| first
  | with_reducible refine r_seq ?_ | with_reducible refine r_asg ?_ | ((with_reducible refine r_gname ?_); dsimp only [List.set_cons_succ, List.set_cons_zero, List.set]) | with_reducible refine r_ret ?_ | with_reducible refine r_drop ?_ | with_reducible refine r_if ?_
  | with_reducible refine r_test ?_ | with_reducible refine r_B ?_ | with_reducible refine r_op ?_ | with_reducible refine r_cons ?_ | with_reducible refine r_nil ?_ | with_reducible refine r_c ?_ | walk_at "v"
  | with_reducible refine r_cl ?_ | with_reducible refine r_cb ?_ | with_reducible refine r_I0 ?_ | with_reducible refine r_bl ?_ | ((with_reducible refine r_eq ?hs ?_); (case hs => rfl)) | ((with_reducible refine r_ne ?hs ?_); (case hs => rfl))
  | with_reducible refine r_un ?_ | with_reducible refine r_neg ?_ | with_reducible refine r_int ?_ | with_reducible refine r_intB ?_ | with_reducible refine r_min2 ?_ | with_reducible refine r_max2 ?_
  | with_reducible refine r_tup ?_ | with_reducible refine r_lst ?_ | with_reducible refine r_not ?_ | with_reducible refine r_ifE ?_
  | with_reducible refine r_andV ?_ | with_reducible refine r_orV ?_ | with_reducible refine r_notV ?_ | with_reducible refine r_next ?_ | with_reducible refine r_brk ?_ | with_reducible refine r_for ?_ | with_reducible refine r_slc ?_ | with_reducible refine r_nop ?_ | with_reducible refine r_part ?_ | with_reducible refine r_ei ?_ | with_reducible refine r_bm ?_ | with_reducible refine r_isN ?_ | with_reducible refine r_notN ?_ | with_reducible refine r_m1 ?_ | with_reducible refine r_lc ?_ | with_reducible refine r_rng1 ?_ | with_reducible refine r_rng2 ?_ | with_reducible refine r_ilist ?_ | with_reducible refine r_itup ?_ | with_reducible refine iteT ?_ | with_reducible refine iteF ?_ | with_reducible refine r_sub ?_ | walk_at "n" | walk_at "x")
local macro_rules | `(tactic| walk_at "s1") => `(tactic| first | walk_at "s0" | with_reducible refine r_and ?_ | with_reducible refine r_or ?_)
local macro_rules | `(tactic| walk_at "u") => `(tactic| (try dsimp only); repeat walk_at "s0")
local macro_rules | `(tactic| walk_at "pt") => `(tactic| first
  | ((with_reducible refine r_and2 (a := ?a) (b := ?b) ?h1 ?h2 ?h); (case h1 => intro _ q; walk_at "pt"; exact q); (case h2 => intro _ q; walk_at "pt"; exact q); (try dsimp only))
  | ((with_reducible refine r_or2 (a := ?a) (b := ?b) ?h1 ?h2 ?h); (case h1 => intro _ q; walk_at "pt"; exact q); (case h2 => intro _ q; walk_at "pt"; exact q); (try dsimp only))
  | walk_at "u")
local macro_rules | `(tactic| walk_at "s") => `(tactic| (try dsimp only); repeat walk_at "s1")
local macro_rules | `(tactic| walk_at "go") => `(tactic| (try simp only [cxK, cxK2]); (try simp only [List.map_cons, List.map_nil, List.replicate, List.cons_append, List.nil_append]); walk_at "s")
local macro_rules | `(tactic| walk_at "t") => `(tactic| ((try dsimp only); (try with_reducible refine iteT ?_); (try dsimp only)))

section
variable {P : Program} {w : World} {K : PySem.W.Frag} {mg : Str → Option Value} {base : Heap}
/-! ### _law_mixed -/
abbrev N__law_mixed : List Str := ["_law_cell", "_law_turn", "_law_one", "_law_two"]
theorem sc__law_mixed : FnScope N__law_mixed ["_law_cell", "_law_turn"] (defScope (topS 17)) := ⟨rfl, rfl, rfl, by decide +kernel, rfl, by decide +kernel, by decide +kernel⟩
def spMixed : Sp := Spc (Int × Int) (fun z => [.int z.1, .int z.2]) (fun z H => True) fun z H v H' => ∃ x : Int, v = .int x ∧ 0 ≤ x ∧ H = H'
theorem cl_mixed (F : Df K mg "_law_mixed" 17) (B : Bi mg) : Cl P w K mg base 1 "_law_mixed" spMixed := by
  refine mk_cl F sc__law_mixed (fun _ _ _ _ _ _ us hl => match us, hl with | [_, _], _ => rfl) (fun _ => rfl) 2 rfl fun f cdv A outer s H Q z hr hp hq => ?_
  obtain ⟨c, t⟩ := z
  refine ⟨_, ((pss_cons (ps_set (i := 2) sc__law_mixed.nd rfl (Or.inl rfl) (pe_op op_mod (pe_callTy cl_int (by rfl) B.tint (by decide +kernel) (pa_cons (pe_op op_add (pe_op op_add (pe_op op_mul (pv 0) pe_int) (pe_op op_mul (pv 1) pe_int)) pe_int) pa_nil)) pe_int))
      (pss_cons (ps_set (i := 3) sc__law_mixed.nd rfl (Or.inl rfl) (pe_op op_mod (pe_callTy cl_int (by rfl) B.tint (by decide +kernel) (pa_cons (pe_op op_add (pe_op op_add (pe_op op_mul (pv 2) (pv 2)) (pe_op op_mul (pv 1) pe_int)) (pe_op op_fdivW (pv 2) pe_int)) pa_nil)) pe_int))
      (pss_one (ps_ret (pe_op op_mod (pe_callTy cl_int (by rfl) B.tint (by decide +kernel) (pa_cons (pe_op op_add (pe_op op_add (pe_op op_mul (pv 3) pe_int) (pe_op op_fdivW (pv 3) pe_int)) (pv 1)) pa_nil)) pe_int)))))), ?_⟩
  walk_at "go"
  exact hq _ _ ⟨_, rfl, by omega, rfl⟩
/-! ### _law_draw -/
abbrev N__law_draw : List Str := ["_law_state", "_law_limit", "_law_cells", "_law_cell", "_law_found"]
theorem sc__law_draw : FnScope N__law_draw ["_law_state", "_law_limit"] (defScope (topS 18)) := ⟨rfl, rfl, rfl, by decide +kernel, rfl, by decide +kernel, by decide +kernel⟩
theorem cl_drawL (F : Df K mg "_law_draw" 18) (B : Bi mg) (c_law_mixed : Cl P w K mg base 1 "_law_mixed" spMixed) : Cl P w K mg base 2 "_law_draw" spDrawL := by
  refine mk_cl F sc__law_draw (fun _ _ _ _ _ _ us hl => match us, hl with | [_, _], _ => rfl) (fun _ => rfl) 3 rfl fun f cdv A outer s H Q z hr hp hq => ?_
  obtain ⟨st, c, q, ns, ms, p, r, t, m, d, n⟩ := z
  obtain ⟨hst, hC, p0, r0, n0, n1⟩ := hp
  dsimp only at hst hC p0 r0 n0 n1
  refine ⟨_, ((pss_cons (ps_asg (pe_op op_add (pe_ix ix_list (pv 0) pe_int (fun _ _ => rfl)) pe_int) (pg_sub (pv 0) pe_int set_list))
      (pss_cons (ps_set (i := 2) sc__law_draw.nd rfl (Or.inl rfl) (pe_ix ix_list (pv 0) pe_int (fun _ _ => rfl)))
      (pss_cons (ps_if (pt_cmpR op_eq (pe_callB cl_len (by rfl) B.tlen (by decide +kernel) (pa_cons (pv 2) pa_nil)) pe_int (nomark _)) (pss_one (ps_ret (pe_op op_mod (pe_callTy cl_int (by rfl) B.tint (by decide +kernel) (pa_cons (pe_cl c_law_mixed hr (by decide) (by rfl) (pa_cons pe_int (pa_cons (pe_ix ix_list (pv 0) pe_int (fun _ _ => rfl)) pa_nil))) pa_nil)) (pv 1)))) pss_nil)
      (C8.pss_cut (ps_if (PW.pt (pw_and (pt_cmpR op_eq (pe_ix ix_list (pv 0) pe_int (fun _ _ => rfl)) pe_int (nomark _)) (pw_and (pt_cmpR op_eq (pe_ix ix_list (pv 0) pe_int (fun _ _ => rfl)) pe_int (nomark _)) (pw_and1 (pt_cmpR op_lt (pe_ix ix_list (pv 0) pe_int (fun _ _ => rfl)) (pe_callB cl_len (by rfl) B.tlen (by decide +kernel) (pa_cons (pv 2) pa_nil)) (nomark _)))))) (pss_cons (ps_set (i := 3) sc__law_draw.nd rfl (Or.inl rfl) (pe_ix ix_list (pv 2) (pe_ix ix_list (pv 0) pe_int (fun _ _ => rfl)) (fun _ _ => rfl)))
      (pss_cons (ps_asg (pe_op op_add (pe_ix ix_list (pv 0) pe_int (fun _ _ => rfl)) pe_int) (pg_sub (pv 0) pe_int set_list))
      (pss_cons (ps_if (pt_cmpR op_lt (pv 3) (pe_op op_pow pe_int pe_int) (nomark _)) (pss_one (ps_ret (pe_op op_mod (pe_callTy cl_int (by rfl) B.tint (by decide +kernel) (pa_cons (pe_cl c_law_mixed hr (by decide) (by rfl) (pa_cons (pv 3) (pa_cons (pe_ix ix_list (pv 0) pe_int (fun _ _ => rfl)) pa_nil))) pa_nil)) (pv 1)))) pss_nil)
      (pss_cons (ps_asg (pv 3) (pg_sub (pv 0) pe_int set_list))
      (pss_one (ps_asg pe_int (pg_sub (pv 0) pe_int set_list))))))) pss_nil)
      (pss_cons (ps_if (PW.pt (pw_or (pt_cmpR op_eq (pe_ix ix_list (pv 0) pe_int (fun _ _ => rfl)) pe_int (nomark _)) (pw_or1 (pt_cmpR op_eq (pe_ix ix_list (pv 0) pe_int (fun _ _ => rfl)) pe_int (nomark _))))) (pss_one (ps_ret (pe_op op_mod (pe_callTy cl_int (by rfl) B.tint (by decide +kernel) (pa_cons (pe_cl c_law_mixed hr (by decide) (by rfl) (pa_cons (pe_ix ix_list (pe_ix ix_list (pv 0) pe_int (fun _ _ => rfl)) (pe_op op_mod (pe_callTy cl_int (by rfl) B.tint (by decide +kernel) (pa_cons (pe_ix ix_list (pv 0) pe_int (fun _ _ => rfl)) pa_nil)) (pe_callB cl_len (by rfl) B.tlen (by decide +kernel) (pa_cons (pv 2) pa_nil))) (fun _ _ => rfl)) (pa_cons (pe_ix ix_list (pv 0) pe_int (fun _ _ => rfl)) pa_nil))) pa_nil)) (pv 1)))) pss_nil)
      (pss_cons (ps_set (i := 4) sc__law_draw.nd rfl (Or.inl rfl) (pe_op op_mod (pe_callTy cl_int (by rfl) B.tint (by decide +kernel) (pa_cons (pe_ix ix_list (pv 0) pe_int (fun _ _ => rfl)) pa_nil)) (pv 1)))
      (pss_cons (ps_asg (pe_op op_sub (pe_ix ix_list (pv 0) pe_int (fun _ _ => rfl)) pe_int) (pg_sub (pv 0) pe_int set_list))
      (pss_cons (ps_asg (pe_op op_mul (pe_op op_fdivW (pe_callTy cl_int (by rfl) B.tint (by decide +kernel) (pa_cons (pe_ix ix_list (pv 0) pe_int (fun _ _ => rfl)) pa_nil)) (pv 1)) (pe_callTy cl_int (by rfl) B.tint (by decide +kernel) (pa_cons (pe_cmpR op_gt (pe_ix ix_list (pv 0) pe_int (fun _ _ => rfl)) pe_int (nomark _)) pa_nil))) (pg_sub (pv 0) pe_int set_list))
      (pss_one (ps_ret (pv 4)))))))))))), ?_⟩
  walk_at "go"
  refine r_setL hst rfl ?_
  dsimp only at hq ⊢
  have hL : ∀ o, upd H st o c = some (.lst (ns.map V.int)) := fun o => by rw [upd_ne (ne_of hC.hc hst stL_ne)]; exact hC.hc
  have hM : ∀ o, upd H st o q = some (.lst (ms.map V.int)) := fun o => by rw [upd_ne (ne_of hC.hq hst stL_ne)]; exact hC.hq
  have fin : ∀ (x p r t m d : Int), 0 ≤ x → x < n → 0 ≤ p → 0 ≤ r → Q (.int x) (upd H st (.lst (stL c q p r t m d))) := fun x p r t m d h1 h2 h3 h4 => hq _ _ ⟨x, p, r, t, m, d, rfl, h1, h2, h3, h4, rfl⟩
  show tSeq _ _ _ _ (upd H st (.lst (stL c q p r (t + 1) m d)))
  have h1 := hL (.lst (stL c q p r (t + 1) m d))
  have hs : upd H st (.lst (stL c q p r (t + 1) m d)) st = some (.lst (stL c q p r (t + 1) m d)) := upd_same
  walk_at "s"
  refine r_lenL (SqL.of h1) ?_
  walk_at "s"
  refine i2 (fun hz => ?_) (fun hz => ?_)
  · walk_at "s"
    refine ⟨(0, t + 1), rfl, trivial, ?_⟩
    rintro _ _ ⟨x, rfl, x0, rfl⟩
    walk_at "s"
    exact fin _ _ _ _ _ _ (by assumption) (by assumption) p0 r0
  have hn : 0 < ns.length := by
    cases ns with
    | nil => exact absurd rfl hz
    | cons a b => exact Nat.succ_pos _
  walk_at "s"
  -- if ...: a new cell
  refine r_cut (Mid := fun σ' H' => ∃ (x : Option V) (p r t m d : Int), 0 ≤ p ∧ 0 ≤ r ∧ σ' = [some (.ref st), some (.int n), some (.ref c), x, none] ∧ H' = upd H st (.lst (stL c q p r t m d))) ?_ ?_
  · walk_at "s"
    refine i2 (fun e0 => ?_) (fun _ => by walk_at "s"; exact ⟨_, _, _, _, _, _, p0, r0, rfl, rfl⟩)
    walk_at "s"
    refine i2 (fun e0 => ?_) (fun _ => by walk_at "s"; exact ⟨_, _, _, _, _, _, p0, r0, rfl, rfl⟩)
    walk_at "s"
    refine r_lenL (SqL.of h1) ?_
    walk_at "s"
    refine i2 (fun e0 => ?_) (fun _ => by walk_at "s"; exact ⟨_, _, _, _, _, _, p0, r0, rfl, rfl⟩)
    walk_at "s"
    obtain ⟨x, -, ex⟩ := atI_ints (ms := ns) p0 (by rw [List.length_map] at e0; exact e0)
    refine r_ixLc (SqL.of h1) ex ?_
    walk_at "s"
    refine r_setL hs rfl ?_
    rw [upd_upd]
    have h1 := hL (.lst (stL c q (p + 1) r (t + 1) m d))
    have hs : upd H st (.lst (stL c q (p + 1) r (t + 1) m d)) st = some (.lst (stL c q (p + 1) r (t + 1) m d)) := upd_same
    dsimp only
    show tSeq _ _ _ _ (upd H st (.lst (stL c q (p + 1) r (t + 1) m d)))
    walk_at "s"
    refine i2 (fun e0 => ?_) (fun e0 => ?_)
    · walk_at "s"
      refine ⟨(x, t + 1), rfl, trivial, ?_⟩
      rintro _ _ ⟨y, rfl, y0, rfl⟩
      walk_at "s"
      exact fin _ _ _ _ _ _ (by assumption) (by assumption) (by omega) r0
    · have e1 : 0 ≤ x := by
        have : (10 : Int) ^ (18 : Int).toNat = 1000000000000000000 := by decide
        rw [this] at e0
        omega
      walk_at "s"
      refine r_setL hs rfl ?_
      rw [upd_upd]
      have hs : upd H st (.lst (stL c q (p + 1) x (t + 1) m d)) st = some (.lst (stL c q (p + 1) x (t + 1) m d)) := upd_same
      dsimp only
      show tAsg _ _ _ _ (upd H st (.lst (stL c q (p + 1) x (t + 1) m d)))
      walk_at "s"
      refine r_setL hs rfl ?_
      rw [upd_upd]
      exact ⟨_, p + 1, x, t + 1, m, 60, by omega, e1, rfl, rfl⟩
  · rintro σ' H' ⟨x, p, r, t, m, d, p0, r0, rfl, rfl⟩
    have h1 := hL (.lst (stL c q p r t m d))
    have h2 := hM (.lst (stL c q p r t m d))
    have hs : upd H st (.lst (stL c q p r t m d)) st = some (.lst (stL c q p r t m d)) := upd_same
    have hpos : (0 : Int) < ((ns.map V.int).length : Int) := by rw [List.length_map]; omega
    walk_at "s"
    refine i2 (fun e0 => ?_) (fun e0 => ?_)
    · walk_at "s"
      refine r_lenL (SqL.of h1) ?_
      refine r_mod hpos (fun y y0 y1 => ?_)
      obtain ⟨z, -, ez⟩ := atI_ints (ms := ms) y0 (by rw [List.length_map] at y1; rw [hC.len]; exact y1)
      refine r_ixLc (SqL.of h2) ez ?_
      walk_at "s"
      refine ⟨(z, t), rfl, trivial, ?_⟩
      rintro _ _ ⟨y, rfl, y0, rfl⟩
      walk_at "s"
      exact fin _ _ _ _ _ _ (by assumption) (by assumption) (by omega) r0
    walk_at "s"
    refine i2 (fun e0 => ?_) (fun e0 => ?_)
    · walk_at "s"
      refine r_lenL (SqL.of h1) ?_
      refine r_mod hpos (fun y y0 y1 => ?_)
      obtain ⟨z, -, ez⟩ := atI_ints (ms := ms) y0 (by rw [List.length_map] at y1; rw [hC.len]; exact y1)
      refine r_ixLc (SqL.of h2) ez ?_
      walk_at "s"
      refine ⟨(z, t), rfl, trivial, ?_⟩
      rintro _ _ ⟨y, rfl, y0, rfl⟩
      walk_at "s"
      exact fin _ _ _ _ _ _ (by assumption) (by assumption) (by omega) r0
    walk_at "s"
    refine r_setL hs rfl ?_
    rw [upd_upd]
    have hs : upd H st (.lst (stL c q p r t m (d - 1))) st = some (.lst (stL c q p r t m (d - 1))) := upd_same
    dsimp only
    show tSeq _ _ _ _ (upd H st (.lst (stL c q p r t m (d - 1))))
    walk_at "s"
    have hp : ∀ b : Bool, 0 ≤ r / n * (if b = true then 1 else 0) := fun b => Int.mul_nonneg (Int.ediv_nonneg r0 (by omega)) (by cases b <;> decide)
    refine r_setL hs rfl ?_
    rw [upd_upd]
    dsimp only
    show tRet _ _ _ (upd H st (.lst (stL c q p (r / n * if decide (0 < d - 1) = true then 1 else 0) t m (d - 1))))
    walk_at "s"
    exact fin _ _ _ _ _ _ (by assumption) (by assumption) (by omega) (hp _)
end
end Sw

set_option maxHeartbeats 4000000
namespace Sw
open PySem PySem.Spec PyProof.Rows L2 C8
local macro_rules | `(tactic| walk_at "v") => `(tactic| (with_reducible show tVar _ _ _ _; with_unfolding_all refine r_var rfl ?_))
local macro_rules | `(tactic| walk_at "x") => `(tactic| ((first | with_reducible refine r_ixTc (xs := ?xs) (v := ?v) ?hl ?e ?h | with_reducible refine r_ixLc (xs := ?xs) (v := ?v) ?hl ?e ?h); (case hl => first | assumption | exact SqT.of (by assumption) | exact SqL.of (by assumption)); (case e => first | rfl | assumption | exact atI_zero)))
local macro_rules | `(tactic| walk_at "n") => `(tactic| ((first | with_reducible refine r_mod ?hj (fun _ _ _ => ?_) | with_reducible refine r_mul ?hj ?_ | with_reducible refine r_div ?hj ?hd ?_ | with_reducible refine r_pow ?hj ?_); (case hj => first | (with_reducible show (0 : Int) < _; first | decide | omega) | exact ⟨by decide, by decide, by decide⟩ | exact .inr ⟨by decide, by decide⟩ | exact .inl ⟨by decide, by decide⟩ | exact .inl ⟨by omega, by omega⟩ | exact .inr ⟨by omega, by omega⟩); (try case hd => first | decide | omega)))
local macro_rules | `(tactic| walk_at "s0") => `(tactic| first
  | with_reducible refine r_seq ?_ | with_reducible refine r_asg ?_ | ((with_reducible refine r_gname ?_); dsimp only [List.set_cons_succ, List.set_cons_zero, List.set]) | with_reducible refine r_ret ?_ | with_reducible refine r_drop ?_ | with_reducible refine r_if ?_
  | with_reducible refine r_test ?_ | with_reducible refine r_B ?_ | with_reducible refine r_op ?_ | with_reducible refine r_cons ?_ | with_reducible refine r_nil ?_ | with_reducible refine r_c ?_ | walk_at "v"
  | with_reducible refine r_cl ?_ | with_reducible refine r_cb ?_ | with_reducible refine r_I0 ?_ | with_reducible refine r_bl ?_ | ((with_reducible refine r_eq ?hs ?_); (case hs => rfl)) | ((with_reducible refine r_ne ?hs ?_); (case hs => rfl))
  | with_reducible refine r_un ?_ | with_reducible refine r_neg ?_ | with_reducible refine r_int ?_ | with_reducible refine r_intB ?_ | with_reducible refine r_min2 ?_ | with_reducible refine r_max2 ?_
  | with_reducible refine r_tup ?_ | with_reducible refine r_lst ?_ | with_reducible refine r_not ?_ | with_reducible refine r_ifE ?_
  | with_reducible refine r_andV ?_ | with_reducible refine r_orV ?_ | with_reducible refine r_notV ?_ | with_reducible refine r_next ?_ | with_reducible refine r_brk ?_ | with_reducible refine r_for ?_ | with_reducible refine r_slc ?_ | with_reducible refine r_nop ?_ | with_reducible refine r_part ?_ | with_reducible refine r_ei ?_ | with_reducible refine r_bm ?_ | with_reducible refine r_isN ?_ | with_reducible refine r_notN ?_ | with_reducible refine r_m1 ?_ | with_reducible refine r_lc ?_ | with_reducible refine r_rng1 ?_ | with_reducible refine r_rng2 ?_ | with_reducible refine r_ilist ?_ | with_reducible refine r_itup ?_ | with_reducible refine iteT ?_ | with_reducible refine iteF ?_ | with_reducible refine r_sub ?_ | walk_at "n" | walk_at "x")
local macro_rules | `(tactic| walk_at "s1") => `(tactic| first | walk_at "s0" | with_reducible refine r_and ?_ | with_reducible refine r_or ?_)
local macro_rules | `(tactic| walk_at "u") => `(tactic| (try dsimp only); repeat walk_at "s0")
local macro_rules | `(tactic| walk_at "pt") => `(tactic| first
  | ((with_reducible refine r_and2 (a := ?a) (b := ?b) ?h1 ?h2 ?h); (case h1 => intro _ q; walk_at "pt"; exact q); (case h2 => intro _ q; walk_at "pt"; exact q); (try dsimp only))
  | ((with_reducible refine r_or2 (a := ?a) (b := ?b) ?h1 ?h2 ?h); (case h1 => intro _ q; walk_at "pt"; exact q); (case h2 => intro _ q; walk_at "pt"; exact q); (try dsimp only))
  | walk_at "u")
local macro_rules | `(tactic| walk_at "s") => `(tactic| (try dsimp only); repeat walk_at "s1")
local macro_rules | `(tactic| walk_at "go") => `(tactic| (try simp only [cxK, cxK2]); (try simp only [List.map_cons, List.map_nil, List.replicate, List.cons_append, List.nil_append]); walk_at "s")
local macro_rules | `(tactic| walk_at "t") => `(tactic| ((try dsimp only); (try with_reducible refine iteT ?_); (try dsimp only)))

section
variable {P : Program} {w : World} {K : PySem.W.Frag} {mg : Str → Option Value} {base : Heap}
/-! ### _law_near -/
def SpanOk (H : Hp) (a : Addr) (lo n : Int) : Prop := ∃ m ms, H a = some (.lst [.int lo, .int n, .ref m]) ∧ H m = some (.lst (List.map V.int ms)) ∧ ms.length ≤ 1000
theorem SpanOk.up {H H' : Hp} {a : Addr} {lo n : Int} (e : Same H H') (h : SpanOk H a lo n) : SpanOk H' a lo n := let ⟨m, ms, h1, h2, h3⟩ := h; ⟨m, ms, e _ _ h1, e _ _ h2, h3⟩
abbrev N__law_near : List Str := ["_law_state", "_law_span", "_law_k"]
theorem sc__law_near : FnScope N__law_near ["_law_state", "_law_span"] (defScope (topS 20)) := ⟨rfl, rfl, rfl, by decide +kernel, rfl, by decide +kernel, by decide +kernel⟩
def spNear : Sp := Spc (Addr × Addr × Int × Int) (fun z => [.ref z.1, .ref z.2.1]) (fun z H => StOk H z.1 ∧ SpanOk H z.2.1 z.2.2.1 z.2.2.2 ∧ 0 < z.2.2.2 ∧ z.2.2.2 < 1000) fun z H v H' => ∃ x : Int, v = .int x ∧ z.2.2.1 ≤ x ∧ x < z.2.2.1 + z.2.2.2 ∧ H = H'
theorem cl_near (F : Df K mg "_law_near" 20) (B : Bi mg) (c_law_draw : Cl P w K mg base 2 "_law_draw" spDraw) : Cl P w K mg base 3 "_law_near" spNear := by
  refine mk_cl F sc__law_near (fun _ _ _ _ _ _ us hl => match us, hl with | [_, _], _ => rfl) (fun _ => rfl) 1 rfl fun f cdv A outer s H Q z hr hp hq => ?_
  obtain ⟨st, sp, lo, n⟩ := z
  obtain ⟨hst, ⟨m, ms, hsp, hm, hl⟩, n0, n1⟩ := hp
  dsimp only at hst hsp n0 n1 hq
  refine ⟨_, ((pss_cons (ps_set (i := 2) sc__law_near.nd rfl (Or.inl rfl) (pe_cl c_law_draw hr (by decide) (by rfl) (pa_cons (pv 0) (pa_cons (pe_op op_add (pe_ix ix_list (pv 1) pe_int (fun _ _ => rfl)) (pe_callB cl_len (by rfl) B.tlen (by decide +kernel) (pa_cons (pe_ix ix_list (pv 1) pe_int (fun _ _ => rfl)) pa_nil))) pa_nil))))
      (pss_cons (ps_if (pt_cmpR op_lt (pv 2) (pe_ix ix_list (pv 1) pe_int (fun _ _ => rfl)) (nomark _)) (pss_one (ps_ret (pe_op op_add (pe_ix ix_list (pv 1) pe_int (fun _ _ => rfl)) (pv 2)))) pss_nil)
      (pss_one (ps_ret (pe_callB (cl_max2 rfl) (by rfl) B.tmax (by decide +kernel) (pa_cons (pe_callTy cl_int (by rfl) B.tint (by decide +kernel) (pa_cons (pe_ix ix_list (pv 1) pe_int (fun _ _ => rfl)) pa_nil)) (pa_cons (pe_callB (cl_min2 rfl) (by rfl) B.tmin (by decide +kernel) (pa_cons (pe_callTy cl_int (by rfl) B.tint (by decide +kernel) (pa_cons (pe_op op_sub (pe_op op_add (pe_ix ix_list (pv 1) pe_int (fun _ _ => rfl)) (pe_ix ix_list (pv 1) pe_int (fun _ _ => rfl))) pe_int) pa_nil)) (pa_cons (pe_callTy cl_int (by rfl) B.tint (by decide +kernel) (pa_cons (pe_ix ix_list (pe_ix ix_list (pv 1) pe_int (fun _ _ => rfl)) (pe_op op_sub (pv 2) (pe_ix ix_list (pv 1) pe_int (fun _ _ => rfl))) (fun _ _ => rfl)) pa_nil)) pa_nil))) pa_nil)))))))), ?_⟩
  walk_at "go"
  refine r_lenL (SqL.of hm) ?_
  walk_at "s"
  have e : ((List.map V.int ms).length : Int) = ms.length := by rw [List.length_map]
  refine ⟨(st, _), rfl, ⟨hst, by show 0 < n + _; omega, by show n + _ < _; rw [e]; omega⟩, ?_⟩
  rintro _ _ ⟨k, rfl, k0, k1, rfl⟩
  walk_at "s"
  refine i2 (fun h => ?_) (fun h => ?_)
  · walk_at "s"
    exact hq _ _ ⟨_, rfl, by omega, by omega, rfl⟩
  · walk_at "s"
    obtain ⟨y, -, ey⟩ := atI_ints (ms := ms) (x := k - n) (by omega) (by dsimp only at k1; omega)
    refine r_ixLc (SqL.of hm) ey ?_
    walk_at "s"
    refine hq _ _ ⟨_, rfl, ?_, ?_, rfl⟩
    · split <;> split <;> omega
    · split <;> split <;> omega
/-! ### _law_start -/
abbrev N__law_start : List Str := ["_law_script", "_law_state", "_law_cell"]
theorem sc__law_start : FnScope N__law_start ["_law_script"] (defScope (topS 19)) := ⟨rfl, rfl, rfl, by decide +kernel, rfl, by decide +kernel, by decide +kernel⟩
def spStartL (K : PySem.W.Frag) : Sp := Spc (Addr × List Int) (fun z => [.ref z.1]) (fun z H => SqL K H z.1 (List.map V.int z.2) ∧ z.2.length ≤ 63)
  fun z H v H' => ∃ (st c q : Addr) (ns ms : List Int) (p r t m d : Int), v = .ref st ∧ H st = none ∧ Same H (upd H' st (StO st c q)) ∧ H' st = some (.lst (stL c q p r t m d)) ∧ StC H' c q ns ms ∧ 0 ≤ p ∧ 0 ≤ r
def spStart (K : PySem.W.Frag) : Sp := Spc (Addr × List Int) (fun z => [.ref z.1]) (fun z H => SqL K H z.1 (List.map V.int z.2) ∧ z.2.length ≤ 63) fun z H v H' => ∃ st, v = .ref st ∧ Same H H' ∧ StOk H' st
theorem start_view {k : Nat} {f : Addr} {fd : FuncData} {ps : List Str} (F : FnOk P w K mg base L2.CX0 k f fd ps (spStartL K)) : FnOk P w K mg base L2.CX0 k f fd ps (spStart K) := by
  refine ⟨fun vs H Q E ⟨z, e, hp, _⟩ => F.len vs H (fun _ _ => True) E ⟨z, e, hp, fun _ _ _ => trivial⟩, fun A outer s H args us vs Q E hr e0 hb rv ⟨z, e, hp, hq⟩ => ?_⟩
  refine codeAny_mono (F.run A outer s H args us vs (fun v H' => ∃ (st c q : Addr) (p r t m d : Int), H st = none ∧ H' st = some (.lst (stL c q p r t m d)) ∧ 0 ≤ p ∧ 0 ≤ r ∧ Q v (upd H' st (StO st c q))) E hr e0 hb rv ⟨z, e, hp, fun v H' hv => ?_⟩) fun res s' hres => ?_
  · obtain ⟨st, c, q, ns, ms, p, r, t, m, d, rfl, h0, h1, h2, h3, h4, h5⟩ := hv
    have n1 : c ≠ st := fun z => by rw [z] at h3; have := h3.hc; rw [h2] at this; exact stL_ne (Option.some.inj this).symm
    have n2 : q ≠ st := fun z => by rw [z] at h3; have := h3.hq; rw [h2] at this; exact stL_ne (Option.some.inj this).symm
    exact ⟨st, c, q, p, r, t, m, d, h0, h2, h4, h5, hq _ _ ⟨st, rfl, h1, c, q, ns, ms, upd_same, ⟨by rw [upd_ne n1]; exact h3.hc, by rw [upd_ne n2]; exact h3.hq, h3.len, h3.sm⟩⟩⟩
  · cases res with
    | error e => exact hres
    | ok fl =>
      cases fl with
      | next => exact hres
      | brk => exact hres
      | cont => exact hres
      | ret u =>
        obtain ⟨v, H', os, bare, un, hok', r', st, c, q, p, r'', t, m, d, h0, h2, h4, h5, hQ⟩ := hres
        have nst : ∀ {b : Addr} {o : HO}, H' b = some o → (∀ xs, o ≠ .lst xs) → b ≠ st := fun h n z => by rw [z, h2] at h; exact n _ (Option.some.inj h).symm
        refine ⟨v, upd H' st (StO st c q), os, bare, ⟨un.keep, un.slot, fun b o e n hx => ?_, un.there, fun b xs e => ?_, fun b o u e => ?_, fun b ps e => ?_⟩, seal_st hok' h2 h4 h5, r', hQ⟩
        · have h := un.free b o e n hx
          rw [upd_ne fun z => by rw [z, h2] at h; cases h]
          exact h
        · have h := un.tups b xs e
          rw [upd_ne (nst h fun _ z => nomatch z)]
          exact h
        · have h := un.frzs b o u e
          rw [upd_ne (nst h fun _ z => nomatch z)]
          exact h
        · obtain ⟨more, h⟩ := un.tbls b ps e
          exact ⟨more, by rw [upd_ne (nst h fun _ z => nomatch z)]; exact h⟩
theorem Cl.start {k : Nat} (c : Cl P w K mg base k "_law_start" (spStartL K)) : Cl P w K mg base k "_law_start" (spStart K) := by
  obtain ⟨f, fd, ps, F, r⟩ := c.ex
  exact ⟨f, fd, ps, start_view F, r⟩
theorem cl_startL (F : Df K mg "_law_start" 19) (B : Bi mg) (c_law_draw : Cl P w K mg base 2 "_law_draw" spDrawL) : Cl P w K mg base 3 "_law_start" (spStartL K) := by
  refine mk_cl F sc__law_start (fun _ _ _ _ _ _ us hl => match us, hl with | [_], _ => rfl) (fun _ => rfl) 2 rfl fun f cdv A outer s H Q z hr hp hq => ?_
  obtain ⟨a, ns⟩ := z
  obtain ⟨ha, hl⟩ := hp
  dsimp only at ha hl hq
  refine ⟨_, ((pss_cons (ps_set (i := 1) sc__law_start.nd rfl (Or.inl rfl) (pe_lst (pa_cons (pe_callTy cl_list (by rfl) B.tlist (by decide +kernel) (pa_cons (pv 0) pa_nil)) (pa_cons pe_int (pa_cons pe_int (pa_cons pe_int (pa_cons pe_int (pa_cons pe_int (pa_cons (pe_lc (own := [("_law_cell", 2)]) (g := gName 2) rfl sc__law_start.nd (pi_list (pv 0)) (blkOk_by (own := [("_law_cell", 2)]) (N := N__law_start) (sc := defScope (topS 19)) (by decide +kernel)) (fun _ _ _ _ _ => pg_name (i := 2) sc__law_start.nd rfl (Or.inl rfl)) (fun _ _ _ _ _ => pts_nil) (fun _ _ _ _ _ => (pe_op op_mod (pe_callTy cl_int (by rfl) B.tint (by decide +kernel) (pa_cons (pv 2) pa_nil)) pe_int))) pa_nil)))))))))
      (C8.pss_cut (ps_if (PW.pt (pw_or (pt_cmpR op_eq (pe_callB cl_len (by rfl) B.tlen (by decide +kernel) (pa_cons (pv 0) pa_nil)) pe_int (nomark _)) (pw_or1 (pt_cmpR op_eq (pe_op op_mod (pe_callTy cl_int (by rfl) B.tint (by decide +kernel) (pa_cons (pe_ix ix_list (pv 0) pe_int (fun _ _ => rfl)) pa_nil)) pe_int) pe_int (nomark _))))) (pss_one (ps_asg pe_int (pg_sub (pv 1) pe_int set_list))) pss_nil)
      (pss_cons (ps_expr (pe_cl c_law_draw hr (by decide) (by rfl) (pa_cons (pv 1) (pa_cons pe_int pa_nil))))
      (pss_one (ps_ret (pv 1))))))), ?_⟩
  walk_at "go"
  refine r_list (.inl ha) fun c H1 nc s1 hc => ?_
  walk_at "s"
  refine lcL (s1.seq ha) (by rw [List.length_map]; omega) ?_
  refine ⟨fun i v _ _ => ∃ x : Int, v = .int x, fun _ _ _ _ _ _ _ _ _ _ _ h => h, fun _ => rfl, fun i x H' hi hx s Q' hQ' => ?_, fun q H2 ys s2 nq hq2 hy hE => ?_⟩
  · have hx : (List.map V.int ns)[i]? = some x := hx
    rw [List.getElem?_map] at hx
    obtain ⟨y, hy, rfl⟩ := Option.map_eq_some_iff.mp hx
    walk_at "s"
    exact hQ' _ _ (Same.refl _) ⟨_, rfl⟩
  obtain ⟨ms, rfl⟩ : ∃ ms : List Int, ys = List.map V.int ms := ints_of fun y hy' => by
    obtain ⟨i, hi⟩ := List.mem_iff_getElem?.mp hy'
    obtain ⟨_, _, h⟩ := hE i y hi
    exact h
  rw [List.length_map, List.length_map] at hy
  walk_at "s"
  refine n_lst (szr rfl) fun st H3 nst s3 hst => ?_
  have hC : StC H3 c q ns ms := ⟨s3 _ _ (s2 _ _ hc), s3 _ _ hq2, hy, hl⟩
  have h0 : H st = none := s1.free (s2.free nst)
  have sS : Same H H3 := (s1.trans s2).trans s3
  have hst' : H3 st = some (.lst (stL c q 0 0 0 0 0)) := hst
  walk_at "s"
  refine r_cut (Mid := fun σ' H' => ∃ m, σ' = [some (.ref a), some (.ref st), none] ∧ H' = upd H3 st (.lst (stL c q 0 0 0 m 0))) ?_ ?_
  · walk_at "s"
    refine r_lenL (sS.seq ha) ?_
    walk_at "s"
    refine i2 (fun e0 => ?_) (fun e0 => ?_)
    · walk_at "s"
      refine r_setL hst' rfl ?_
      exact ⟨1, rfl, rfl⟩
    · walk_at "s"
      have hn : (0 : Int) < ns.length := by
        cases ns with
        | nil => exact absurd rfl e0
        | cons x r => show (0 : Int) < ((x :: r).length : Nat); rw [List.length_cons]; omega
      obtain ⟨y, -, ey⟩ := atI_ints (ms := ns) (x := 0) (by decide) hn
      refine r_ixLc (sS.seq ha) ey ?_
      walk_at "s"
      refine i2 (fun e0 => ?_) (fun e0 => ?_)
      · walk_at "s"
        refine r_setL hst' rfl ?_
        exact ⟨1, rfl, rfl⟩
      · walk_at "s"
        exact ⟨0, rfl, (upd_eta hst').symm⟩
  · rintro σ' H' ⟨m, rfl, rfl⟩
    have nc : c ≠ st := ne_of hC.hc hst' stL_ne
    have nq : q ≠ st := ne_of hC.hq hst' stL_ne
    have hC' : ∀ o, StC (upd H3 st o) c q ns ms := fun o => ⟨by rw [upd_ne nc]; exact hC.hc, by rw [upd_ne nq]; exact hC.hq, hC.len, hC.sm⟩
    walk_at "s"
    refine ⟨⟨st, c, q, ns, ms, 0, 0, 0, m, 0, 2⟩, rfl, ⟨upd_same, hC' _, by show (0 : Int) ≤ 0; decide, by show (0 : Int) ≤ 0; decide, by show (0 : Int) < 2; decide, by show (2 : Int) < 2 ^ 100; decide⟩, ?_⟩
    rintro _ _ ⟨x, p, r, t, m', d, rfl, x0, x1, p0, r0, rfl⟩
    dsimp only
    rw [upd_upd]
    walk_at "s"
    refine hq _ _ ⟨st, c, q, ns, ms, p, r, t, m', d, rfl, h0, ?_, upd_same, hC' _, p0, r0⟩
    rw [upd_upd]
    exact sS.mut h0
end
end Sw

set_option maxHeartbeats 4000000
namespace Sw
open PySem PySem.Spec PyProof.Rows L2 C8
local macro_rules | `(tactic| walk_at "v") => `(tactic| (with_reducible show tVar _ _ _ _; with_unfolding_all refine r_var rfl ?_))
local macro_rules | `(tactic| walk_at "x") => `(tactic| ((first | with_reducible refine r_ixTc (xs := ?xs) (v := ?v) ?hl ?e ?h | with_reducible refine r_ixLc (xs := ?xs) (v := ?v) ?hl ?e ?h); (case hl => first | assumption | exact SqT.of (by assumption) | exact SqL.of (by assumption)); (case e => first | rfl | assumption | exact atI_zero)))
local macro_rules | `(tactic| walk_at "n") => `(tactic| ((first | with_reducible refine r_mod ?hj (fun _ _ _ => ?_) | with_reducible refine r_mul ?hj ?_ | with_reducible refine r_div ?hj ?hd ?_ | with_reducible refine r_pow ?hj ?_); (case hj => first | (with_reducible show (0 : Int) < _; first | decide | omega) | exact ⟨by decide, by decide, by decide⟩ | exact .inr ⟨by decide, by decide⟩ | exact .inl ⟨by decide, by decide⟩ | exact .inl ⟨by omega, by omega⟩ | exact .inr ⟨by omega, by omega⟩); (try case hd => first | decide | omega)))
local macro_rules | `(tactic| walk_at "s0") => `(tactic| first
  | with_reducible refine r_seq ?_ | with_reducible refine r_asg ?_ | ((with_reducible refine r_gname ?_); dsimp only [List.set_cons_succ, List.set_cons_zero, List.set]) | with_reducible refine r_ret ?_ | with_reducible refine r_drop ?_ | with_reducible refine r_if ?_
  | with_reducible refine r_test ?_ | with_reducible refine r_B ?_ | with_reducible refine r_op ?_ | with_reducible refine r_cons ?_ | with_reducible refine r_nil ?_ | with_reducible refine r_c ?_ | walk_at "v"
  | with_reducible refine r_cl ?_ | with_reducible refine r_cb ?_ | with_reducible refine r_I0 ?_ | with_reducible refine r_bl ?_ | ((with_reducible refine r_eq ?hs ?_); (case hs => rfl)) | ((with_reducible refine r_ne ?hs ?_); (case hs => rfl))
  | with_reducible refine r_un ?_ | with_reducible refine r_neg ?_ | with_reducible refine r_int ?_ | with_reducible refine r_intB ?_ | with_reducible refine r_min2 ?_ | with_reducible refine r_max2 ?_
  | with_reducible refine r_tup ?_ | with_reducible refine r_lst ?_ | with_reducible refine r_not ?_ | with_reducible refine r_ifE ?_
  | with_reducible refine r_andV ?_ | with_reducible refine r_orV ?_ | with_reducible refine r_notV ?_ | with_reducible refine r_next ?_ | with_reducible refine r_brk ?_ | with_reducible refine r_for ?_ | with_reducible refine r_slc ?_ | with_reducible refine r_nop ?_ | with_reducible refine r_part ?_ | with_reducible refine r_ei ?_ | with_reducible refine r_bm ?_ | with_reducible refine r_isN ?_ | with_reducible refine r_notN ?_ | with_reducible refine r_m1 ?_ | with_reducible refine r_lc ?_ | with_reducible refine r_rng1 ?_ | with_reducible refine r_rng2 ?_ | with_reducible refine r_ilist ?_ | with_reducible refine r_itup ?_ | with_reducible refine iteT ?_ | with_reducible refine iteF ?_ | with_reducible refine r_sub ?_ | walk_at "n" | walk_at "x")
local macro_rules | `(tactic| walk_at "s1") => `(tactic| first | walk_at "s0" | with_reducible refine r_and ?_ | with_reducible refine r_or ?_)
local macro_rules | `(tactic| walk_at "u") => `(tactic| (try dsimp only); repeat walk_at "s0")
local macro_rules | `(tactic| walk_at "pt") => `(tactic| first
  | ((with_reducible refine r_and2 (a := ?a) (b := ?b) ?h1 ?h2 ?h); (case h1 => intro _ q; walk_at "pt"; exact q); (case h2 => intro _ q; walk_at "pt"; exact q); (try dsimp only))
  | ((with_reducible refine r_or2 (a := ?a) (b := ?b) ?h1 ?h2 ?h); (case h1 => intro _ q; walk_at "pt"; exact q); (case h2 => intro _ q; walk_at "pt"; exact q); (try dsimp only))
  | walk_at "u")
local macro_rules | `(tactic| walk_at "s") => `(tactic| (try dsimp only); repeat walk_at "s1")
local macro_rules | `(tactic| walk_at "go") => `(tactic| (try simp only [cxK, cxK2]); (try simp only [List.map_cons, List.map_nil, List.replicate, List.cons_append, List.nil_append]); walk_at "s")
local macro_rules | `(tactic| walk_at "t") => `(tactic| ((try dsimp only); (try with_reducible refine iteT ?_); (try dsimp only)))

section
variable {P : Program} {w : World} {K : PySem.W.Frag} {mg : Str → Option Value} {base : Heap}
/-! ### _law_signs -/
abbrev N__law_signs : List Str := ["_law_signs_here"]
theorem sc__law_signs : FnScope N__law_signs [] (defScope (topS 24)) := ⟨rfl, rfl, rfl, by decide +kernel, rfl, by decide +kernel, by decide +kernel⟩
def sgs : Str := (" !\"#$&'()*+,-./0123456789:;<=>?@ABCDEFGHIJKLMNOPQRSTUVWXYZ[\\]^_`" : Str) ++ ("abcdefghijklmnopqrstuvwxyz{|}~" : Str)
theorem sgs_len : sgs.cps.toList.length = 94 := by decide +kernel
theorem sgs_len2 : sgs.length = 94 := by decide +kernel
def spSigns : Sp := Spc Unit (fun _ => []) (fun _ _ => True) fun z H v H' => v = .str sgs ∧ H = H'
theorem cl_signs (F : Df K mg "_law_signs" 24) : Cl P w K mg base 1 "_law_signs" spSigns := by
  refine mk_cl F sc__law_signs (fun _ _ _ _ _ _ us hl => match us, hl with | [], _ => rfl) (fun _ => rfl) 1 rfl fun f cdv A outer s H Q z hr hp hq => ?_
  refine ⟨_, ((pss_cons (ps_set (i := 0) sc__law_signs.nd rfl (Or.inl rfl) pe_str)
      (pss_one (ps_ret (pe_op op_addS (pv 0) pe_str))))), ?_⟩
  walk_at "go"
  refine r_catS (by decide +kernel) ?_
  exact hq _ _ ⟨rfl, rfl⟩
/-! ### _law_text -/
abbrev N__law_text : List Str := ["_law_state", "_law_signs_here", "_law_size_here", "_law_k"]
theorem sc__law_text : FnScope N__law_text ["_law_state"] (defScope (topS 25)) := ⟨rfl, rfl, rfl, by decide +kernel, rfl, by decide +kernel, by decide +kernel⟩
def spText : Sp := Spc Addr (fun z => [.ref z]) (fun z H => StOk H z) fun z H v H' => ∃ x, v = .str x ∧ Same H H'
theorem sum_ones : ∀ {ms : List Str}, (∀ m ∈ ms, m.length = 1) → (ms.map (·.length)).sum = ms.length
  | [], _ => rfl
  | m :: ms, h => by
    rw [List.map_cons, List.sum_cons, sum_ones fun z hz => h z (List.mem_cons_of_mem _ hz), h m List.mem_cons_self, List.length_cons]
    omega
theorem cl_text (F : Df K mg "_law_text" 25) (B : Bi mg) (c_law_draw : Cl P w K mg base 2 "_law_draw" spDraw) (c_law_signs : Cl P w K mg base 1 "_law_signs" spSigns) : Cl P w K mg base 3 "_law_text" spText := by
  refine mk_cl F sc__law_text (fun _ _ _ _ _ _ us hl => match us, hl with | [_], _ => rfl) (fun _ => rfl) 3 rfl fun f cdv A outer s H Q z hr hp hq => ?_
  have hst : StOk H z := hp
  refine ⟨_, ((pss_cons (ps_set (i := 1) sc__law_text.nd rfl (Or.inr rfl) (pe_cl0 c_law_signs hr (by decide) (by rfl)))
      (pss_cons (ps_set (i := 2) sc__law_text.nd rfl (Or.inl rfl) (pe_cl c_law_draw hr (by decide) (by rfl) (pa_cons (pv 0) (pa_cons pe_int pa_nil))))
      (C8.pss_cut (ps_if (pt_cmpR op_eq (pe_cl c_law_draw hr (by decide) (by rfl) (pa_cons (pv 0) (pa_cons pe_int pa_nil))) pe_int (nomark _)) (pss_one (ps_set (i := 2) sc__law_text.nd rfl (Or.inl rfl) (pe_cl c_law_draw hr (by decide) (by rfl) (pa_cons (pv 0) (pa_cons pe_int pa_nil))))) pss_nil)
      (pss_one (ps_ret (pe_join pe_str (pe_lc (own := [("_law_k", 3)]) (g := gName 3) rfl sc__law_text.nd (pi_range1 rfl B.trange (pa_cons (pv 2) pa_nil)) (blkOk_by (own := [("_law_k", 3)]) (N := N__law_text) (sc := defScope (topS 25)) (by decide +kernel)) (fun _ _ _ _ _ => pg_name (i := 3) sc__law_text.nd rfl (Or.inl rfl)) (fun _ _ _ _ _ => pts_nil) (fun _ _ _ _ _ => (pe_ix ix_str (pv 1) (pe_cl c_law_draw hr (by decide) (by rfl) (pa_cons (pv 0) (pa_cons pe_int pa_nil))) (fun _ _ => rfl))))))))))), ?_⟩
  walk_at "go"
  refine ⟨(), rfl, trivial, ?_⟩
  rintro _ _ ⟨rfl, rfl⟩
  walk_at "s"
  refine ⟨(z, 4), rfl, ⟨hst, by show (0 : Int) < 4; decide, by show (4 : Int) < 2 ^ 100; decide⟩, ?_⟩
  rintro _ _ ⟨k, rfl, k0, k1, rfl⟩
  have k1 : k < 4 := k1
  walk_at "s"
  refine r_cut (Mid := fun σ' H' => ∃ n : Int, 0 ≤ n ∧ n < 65 ∧ σ' = [some (.ref z), some (.str sgs), some (.int n), none] ∧ H' = H) ?_ ?_
  · walk_at "s"
    refine ⟨(z, 12), rfl, ⟨hst, by show (0 : Int) < 12; decide, by show (12 : Int) < 2 ^ 100; decide⟩, ?_⟩
    rintro _ _ ⟨x, rfl, x0, x1, rfl⟩
    walk_at "s"
    refine i2 (fun e0 => ?_) (fun e0 => ?_)
    · walk_at "s"
      refine ⟨(z, 65), rfl, ⟨hst, by show (0 : Int) < 65; decide, by show (65 : Int) < 2 ^ 100; decide⟩, ?_⟩
      rintro _ _ ⟨x, rfl, x0, x1, rfl⟩
      have x1 : x < 65 := x1
      walk_at "s"
      exact ⟨x, x0, x1, rfl, rfl⟩
    · walk_at "s"
      exact ⟨k, k0, by omega, rfl, rfl⟩
  · rintro σ' H' ⟨n, n0, n1, rfl, rfl⟩
    walk_at "s"
    refine ⟨⟨_, rfl⟩, ?_⟩
    walk_at "s"
    refine lcR (by omega) (by omega) ⟨fun i v _ _ => ∃ x : Str, v = .str x ∧ x.length = 1, fun _ _ _ _ _ _ _ _ _ _ _ h => h, fun _ => rfl, fun i x H' hi hx s Q' hQ' => ?_, fun p H2 ys s2 np hp2 hy hE => ?_⟩
    · walk_at "s"
      refine ⟨(z, 94), rfl, ⟨s.st hst, by show (0 : Int) < 94; decide, by show (94 : Int) < 2 ^ 100; decide⟩, ?_⟩
      rintro _ _ ⟨x, rfl, x0, x1, rfl⟩
      have x1 : x < 94 := x1
      obtain ⟨c, -, ec⟩ := atI_mem (xs := sgs.cps.toList) x0 (by rw [sgs_len]; exact x1)
      refine r_ixS (by rw [sgs_len2]; decide) ec ?_
      exact hQ' _ _ (Same.refl _) ⟨_, rfl, rfl⟩
    · obtain ⟨ms, rfl, hm⟩ := strs_of (R := fun x => x.length = 1) fun y hy' => by
        obtain ⟨i, hi⟩ := List.mem_iff_getElem?.mp hy'
        obtain ⟨_, _, h⟩ := hE i y hi
        exact h
      rw [List.length_map] at hy
      refine ⟨_, p, ms, rfl, rfl, .inl (SqL.of hp2), ?_, ?_⟩
      · rw [sum_ones hm]
        show ms.length + ms.length * 0 ≤ _
        omega
      · exact hq _ _ ⟨_, rfl, s2⟩
/-! ### _law_amount -/
abbrev N__law_amount : List Str := ["_law_state", "_law_kind"]
theorem sc__law_amount : FnScope N__law_amount ["_law_state"] (defScope (topS 26)) := ⟨rfl, rfl, rfl, by decide +kernel, rfl, by decide +kernel, by decide +kernel⟩
def spAmount : Sp := Spc Addr (fun z => [.ref z]) (fun z H => StOk H z) fun z H v H' => ∃ x : Int, v = .int x ∧ Same H H'
theorem cl_amount (F : Df K mg "_law_amount" 26) (B : Bi mg) (c_law_draw : Cl P w K mg base 2 "_law_draw" spDraw) : Cl P w K mg base 3 "_law_amount" spAmount := by
  refine mk_cl F sc__law_amount (fun _ _ _ _ _ _ us hl => match us, hl with | [_], _ => rfl) (fun _ => rfl) 1 rfl fun f cdv A outer s H Q z hr hp hq => ?_
  have hst : StOk H z := hp
  refine ⟨_, ((pss_cons (ps_set (i := 1) sc__law_amount.nd rfl (Or.inl rfl) (pe_cl c_law_draw hr (by decide) (by rfl) (pa_cons (pv 0) (pa_cons pe_int pa_nil))))
      (pss_cons (ps_if (pt_cmpR op_eq (pv 1) pe_int (nomark _)) (pss_one (ps_ret (pe_ix ix_list (pe_lst (pa_cons pe_int (pa_cons pe_int (pa_cons (pe_op op_pow pe_int pe_int) (pa_cons (pe_op op_sub (pe_op op_pow pe_int pe_int) pe_int) pa_nil))))) (pe_cl c_law_draw hr (by decide) (by rfl) (pa_cons (pv 0) (pa_cons pe_int pa_nil))) (fun _ _ => rfl)))) pss_nil)
      (pss_cons (ps_if (pt_cmpR op_eq (pv 1) pe_int (nomark _)) (pss_one (ps_ret (pe_cl c_law_draw hr (by decide) (by rfl) (pa_cons (pv 0) (pa_cons (pe_op op_pow pe_int pe_int) pa_nil))))) pss_nil)
      (pss_one (ps_ret (pe_op op_mul (pe_op op_pow pe_int pe_int) (pe_cl c_law_draw hr (by decide) (by rfl) (pa_cons (pv 0) (pa_cons pe_int pa_nil)))))))))), ?_⟩
  walk_at "go"
  refine ⟨(z, 4), rfl, ⟨hst, by show (0 : Int) < 4; decide, by show (4 : Int) < 2 ^ 100; decide⟩, ?_⟩
  rintro _ _ ⟨k, rfl, k0, k1, rfl⟩
  walk_at "s"
  refine i2 (fun e0 => ?_) (fun e0 => ?_)
  · walk_at "s"
    refine n_lst (szr rfl) fun p H1 np s1 hp1 => ?_
    walk_at "s"
    refine ⟨(z, 4), rfl, ⟨s1.st hst, by show (0 : Int) < 4; decide, by show (4 : Int) < 2 ^ 100; decide⟩, ?_⟩
    rintro _ _ ⟨x, rfl, x0, x1, rfl⟩
    obtain ⟨y, -, ey⟩ := atI_ints (ms := [0, 1, 10 ^ (6 : Int).toNat, 10 ^ (21 : Int).toNat - 1]) x0 x1
    refine r_ixLc (SqL.of hp1) ey ?_
    exact hq _ _ ⟨_, rfl, s1⟩
  walk_at "s"
  refine i2 (fun e0 => ?_) (fun e0 => ?_)
  · walk_at "s"
    refine ⟨(z, 10 ^ (21 : Int).toNat), rfl, ⟨hst, by show (0 : Int) < 10 ^ (21 : Int).toNat; decide, by show (10 : Int) ^ (21 : Int).toNat < 2 ^ 100; decide⟩, ?_⟩
    rintro _ _ ⟨x, rfl, x0, x1, rfl⟩
    exact hq _ _ ⟨_, rfl, Same.refl _⟩
  · walk_at "s"
    refine ⟨(z, 1000), rfl, ⟨hst, by show (0 : Int) < 1000; decide, by show (1000 : Int) < 2 ^ 100; decide⟩, ?_⟩
    rintro _ _ ⟨x, rfl, x0, x1, rfl⟩
    walk_at "s"
    exact hq _ _ ⟨_, rfl, Same.refl _⟩
end
end Sw

set_option maxHeartbeats 4000000
namespace Sw
open PySem PySem.Spec PyProof.Rows L2 C8
local macro_rules | `(tactic| walk_at "v") => `(tactic| (with_reducible show tVar _ _ _ _; with_unfolding_all refine r_var rfl ?_))
local macro_rules | `(tactic| walk_at "x") => `(tactic| ((first | with_reducible refine r_ixTc (xs := ?xs) (v := ?v) ?hl ?e ?h | with_reducible refine r_ixLc (xs := ?xs) (v := ?v) ?hl ?e ?h); (case hl => first | assumption | exact SqT.of (by assumption) | exact SqL.of (by assumption)); (case e => first | rfl | assumption | exact atI_zero)))
local macro_rules | `(tactic| walk_at "n") => `(tactic| ((first | with_reducible refine r_mod ?hj (fun _ _ _ => ?_) | with_reducible refine r_mul ?hj ?_ | with_reducible refine r_div ?hj ?hd ?_ | with_reducible refine r_pow ?hj ?_); (case hj => first | (with_reducible show (0 : Int) < _; first | decide | omega) | exact ⟨by decide, by decide, by decide⟩ | exact .inr ⟨by decide, by decide⟩ | exact .inl ⟨by decide, by decide⟩ | exact .inl ⟨by omega, by omega⟩ | exact .inr ⟨by omega, by omega⟩); (try case hd => first | decide | omega)))
local macro_rules | `(tactic| walk_at "s0") => `(tactic| first
  | with_reducible refine r_seq ?_ | with_reducible refine r_asg ?_ | ((with_reducible refine r_gname ?_); dsimp only [List.set_cons_succ, List.set_cons_zero, List.set]) | with_reducible refine r_ret ?_ | with_reducible refine r_drop ?_ | with_reducible refine r_if ?_
  | with_reducible refine r_test ?_ | with_reducible refine r_B ?_ | with_reducible refine r_op ?_ | with_reducible refine r_cons ?_ | with_reducible refine r_nil ?_ | with_reducible refine r_c ?_ | walk_at "v"
  | with_reducible refine r_cl ?_ | with_reducible refine r_cb ?_ | with_reducible refine r_I0 ?_ | with_reducible refine r_bl ?_ | ((with_reducible refine r_eq ?hs ?_); (case hs => rfl)) | ((with_reducible refine r_ne ?hs ?_); (case hs => rfl))
  | with_reducible refine r_un ?_ | with_reducible refine r_neg ?_ | with_reducible refine r_int ?_ | with_reducible refine r_intB ?_ | with_reducible refine r_min2 ?_ | with_reducible refine r_max2 ?_
  | with_reducible refine r_tup ?_ | with_reducible refine r_lst ?_ | with_reducible refine r_not ?_ | with_reducible refine r_ifE ?_
  | with_reducible refine r_andV ?_ | with_reducible refine r_orV ?_ | with_reducible refine r_notV ?_ | with_reducible refine r_next ?_ | with_reducible refine r_brk ?_ | with_reducible refine r_for ?_ | with_reducible refine r_slc ?_ | with_reducible refine r_nop ?_ | with_reducible refine r_part ?_ | with_reducible refine r_ei ?_ | with_reducible refine r_bm ?_ | with_reducible refine r_isN ?_ | with_reducible refine r_notN ?_ | with_reducible refine r_m1 ?_ | with_reducible refine r_lc ?_ | with_reducible refine r_rng1 ?_ | with_reducible refine r_rng2 ?_ | with_reducible refine r_ilist ?_ | with_reducible refine r_itup ?_ | with_reducible refine iteT ?_ | with_reducible refine iteF ?_ | with_reducible refine r_sub ?_ | walk_at "n" | walk_at "x")
local macro_rules | `(tactic| walk_at "s1") => `(tactic| first | walk_at "s0" | with_reducible refine r_and ?_ | with_reducible refine r_or ?_)
local macro_rules | `(tactic| walk_at "u") => `(tactic| (try dsimp only); repeat walk_at "s0")
local macro_rules | `(tactic| walk_at "pt") => `(tactic| first
  | ((with_reducible refine r_and2 (a := ?a) (b := ?b) ?h1 ?h2 ?h); (case h1 => intro _ q; walk_at "pt"; exact q); (case h2 => intro _ q; walk_at "pt"; exact q); (try dsimp only))
  | ((with_reducible refine r_or2 (a := ?a) (b := ?b) ?h1 ?h2 ?h); (case h1 => intro _ q; walk_at "pt"; exact q); (case h2 => intro _ q; walk_at "pt"; exact q); (try dsimp only))
  | walk_at "u")
local macro_rules | `(tactic| walk_at "s") => `(tactic| (try dsimp only); repeat walk_at "s1")
local macro_rules | `(tactic| walk_at "go") => `(tactic| (try simp only [cxK, cxK2]); (try simp only [List.map_cons, List.map_nil, List.replicate, List.cons_append, List.nil_append]); walk_at "s")
local macro_rules | `(tactic| walk_at "t") => `(tactic| ((try dsimp only); (try with_reducible refine iteT ?_); (try dsimp only)))

theorem d_draw {st : Addr} {n : Int} {H : Hp} {Q : VK} (hst : StOk H st) (h0 : 0 < n) (h1 : n < 2 ^ 100) (h : ∀ x : Int, 0 ≤ x → x < n → Q (.int x) H) : spDraw [.ref st, .int n] H Q L2.E0 :=
  ⟨(st, n), rfl, ⟨hst, h0, h1⟩, by rintro _ _ ⟨x, rfl, x0, x1, rfl⟩; exact h x x0 x1⟩
theorem d_near {st sp : Addr} {lo n : Int} {H : Hp} {Q : VK} (hst : StOk H st) (hsp : SpanOk H sp lo n) (h0 : 0 < n) (h1 : n < 1000) (h : ∀ x : Int, lo ≤ x → x < lo + n → Q (.int x) H) : spNear [.ref st, .ref sp] H Q L2.E0 :=
  ⟨(st, sp, lo, n), rfl, ⟨hst, hsp, h0, h1⟩, by rintro _ _ ⟨x, rfl, x0, x1, rfl⟩; exact h x x0 x1⟩
section
variable {P : Program} {w : World} {K : PySem.W.Frag} {mg : Str → Option Value} {base : Heap}
/-! ### _law_scalar -/
abbrev N__law_scalar : List Str := ["_law_state", "_law_signed", "_law_kind", "_law_amount_here"]
theorem sc__law_scalar : FnScope N__law_scalar ["_law_state", "_law_signed"] (defScope (topS 27)) := ⟨rfl, rfl, rfl, by decide +kernel, rfl, by decide +kernel, by decide +kernel⟩
def spScalar (K : PySem.W.Frag) : Sp := Spc (Addr × Bool) (fun z => [.ref z.1, .bl z.2]) (fun z H => StOk H z.1) fun z H v H' => Same H H' ∧ ∃ d, Dt K H' v d ∧ ScD d
theorem sc_of {H : Hp} {p : Addr} {k : Str} {x : V} {d : PyData} (h : H p = some (.tup [.str k, x])) (hx : Dt K H x d) (hd : flatD d) (hk : k ∈ leafKinds) : ∃ d, Dt K H (.ref p) d ∧ ScD d :=
  ⟨_, .tup (SqT.of h) (.cons (.str _) (.cons hx .nil)), k, d, rfl, hk, hd⟩
theorem cl_scalar (F : Df K mg "_law_scalar" 27) (B : Bi mg) (c_law_draw : Cl P w K mg base 2 "_law_draw" spDraw) (c_law_text : Cl P w K mg base 3 "_law_text" spText) (c_law_amount : Cl P w K mg base 3 "_law_amount" spAmount) : Cl P w K mg base 4 "_law_scalar" (spScalar K) := by
  refine mk_cl F sc__law_scalar (fun _ _ _ _ _ _ us hl => match us, hl with | [_, _], _ => rfl) (fun _ => rfl) 2 rfl fun f cdv A outer s H Q z hr hp hq => ?_
  obtain ⟨st, sg⟩ := z
  have hst : StOk H st := hp
  refine ⟨_, ((pss_cons (ps_set (i := 2) sc__law_scalar.nd rfl (Or.inl rfl) (pe_cl c_law_draw hr (by decide) (by rfl) (pa_cons (pv 0) (pa_cons pe_int pa_nil))))
      (pss_cons (ps_if (pt_cmpR op_eq (pv 2) pe_int (nomark _)) (pss_one (ps_ret (pe_tup (pa_cons pe_str (pa_cons (pe_cl c_law_text hr (by decide) (by rfl) (pa_cons (pv 0) pa_nil)) pa_nil))))) pss_nil)
      (pss_cons (ps_if (pt_cmpR op_eq (pv 2) pe_int (nomark _)) (pss_one (ps_ret (pe_tup (pa_cons pe_str (pa_cons (pe_cmpR op_eq (pe_cl c_law_draw hr (by decide) (by rfl) (pa_cons (pv 0) (pa_cons pe_int pa_nil))) pe_int (nomark _)) pa_nil))))) pss_nil)
      (pss_cons (ps_if (pt_cmpR op_eq (pv 2) pe_int (nomark _)) (pss_one (ps_ret (pe_tup (pa_cons pe_str (pa_cons (pe_ix ix_list (pe_lst (pa_cons pe_str (pa_cons pe_str (pa_cons pe_str (pa_cons pe_str (pa_cons pe_str (pa_cons pe_str (pa_cons pe_str (pa_cons pe_str (pa_cons pe_str pa_nil)))))))))) (pe_cl c_law_draw hr (by decide) (by rfl) (pa_cons (pv 0) (pa_cons pe_int pa_nil))) (fun _ _ => rfl)) pa_nil))))) pss_nil)
      (pss_cons (ps_set (i := 3) sc__law_scalar.nd rfl (Or.inl rfl) (pe_cl c_law_amount hr (by decide) (by rfl) (pa_cons (pv 0) pa_nil)))
      (C8.pss_cut (ps_if (PW.pt (pw_and (pt_val (pv 1)) (pw_and1 (pt_cmpR op_eq (pe_cl c_law_draw hr (by decide) (by rfl) (pa_cons (pv 0) (pa_cons pe_int pa_nil))) pe_int (nomark _))))) (pss_one (ps_set (i := 3) sc__law_scalar.nd rfl (Or.inl rfl) (pe_un un_neg (pv 3)))) pss_nil)
      (pss_one (ps_ret (pe_tup (pa_cons pe_str (pa_cons (pv 3) pa_nil)))))))))))), ?_⟩
  walk_at "go"
  refine d_draw hst (by decide) (by decide) fun k k0 k1 => ?_
  walk_at "s"
  refine i2 (fun e0 => ?_) (fun e0 => ?_)
  · walk_at "s"
    refine ⟨st, rfl, hst, ?_⟩
    rintro _ H1 ⟨x, rfl, s1⟩
    walk_at "s"
    refine n_tup (szr rfl) fun p H2 np s2 hp2 => ?_
    exact hq _ _ ⟨s1.trans s2, sc_of hp2 (.str _) trivial (by decide)⟩
  walk_at "s"
  refine i2 (fun e0 => ?_) (fun e0 => ?_)
  · walk_at "s"
    refine d_draw hst (by decide) (by decide) fun k k0 k1 => ?_
    walk_at "s"
    refine n_tup (szr rfl) fun p H2 np s2 hp2 => ?_
    exact hq _ _ ⟨s2, sc_of hp2 (.bl _) trivial (by decide)⟩
  walk_at "s"
  refine i2 (fun e0 => ?_) (fun e0 => ?_)
  · walk_at "s"
    refine n_lst (szr rfl) fun p H1 np s1 hp1 => ?_
    walk_at "s"
    refine d_draw (s1.st hst) (by decide) (by decide) fun k k0 k1 => ?_
    obtain ⟨v, hv, ev⟩ := atI_mem (xs := List.map V.str ["DIV", "VALUE", "REF", "NAME", "NUM", "NA", "CALC", "SIZE", "LIMIT"]) k0 k1
    obtain ⟨x, -, rfl⟩ := List.mem_map.mp hv
    refine r_ixLc (SqL.of hp1) ev ?_
    walk_at "s"
    refine n_tup (szr rfl) fun p H2 np s2 hp2 => ?_
    exact hq _ _ ⟨s1.trans s2, sc_of hp2 (.str _) trivial (by decide)⟩
  walk_at "s"
  refine ⟨st, rfl, hst, ?_⟩
  rintro _ H1 ⟨x, rfl, s1⟩
  walk_at "s"
  refine r_cut (Mid := fun σ' H' => ∃ x : Int, σ' = [some (.ref st), some (.bl sg), some (.int k), some (.int x)] ∧ H' = H1) ?_ ?_
  · walk_at "s"
    refine ib (fun e0 => ?_) (fun e0 => ?_)
    · walk_at "s"
      refine d_draw (s1.st hst) (by decide) (by decide) fun k k0 k1 => ?_
      walk_at "s"
      refine i2 (fun e0 => ?_) (fun e0 => ?_)
      · walk_at "s"
        exact ⟨_, rfl, rfl⟩
      · walk_at "s"
        exact ⟨_, rfl, rfl⟩
    · walk_at "s"
      exact ⟨_, rfl, rfl⟩
  · rintro σ' H' ⟨x, rfl, rfl⟩
    walk_at "s"
    refine n_tup (szr rfl) fun p H2 np s2 hp2 => ?_
    exact hq _ _ ⟨s1.trans s2, sc_of hp2 (.int _) trivial (by decide)⟩
/-! ### _law_array -/
abbrev N__law_array : List Str := ["_law_state", "_law_height", "_law_width", "_law_i", "_law_j"]
theorem sc__law_array : FnScope N__law_array ["_law_state"] (defScope (topS 28)) := ⟨rfl, rfl, rfl, by decide +kernel, rfl, by decide +kernel, by decide +kernel⟩
def spArray (K : PySem.W.Frag) : Sp := Spc Addr (fun z => [.ref z]) (fun z H => StOk H z) fun z H v H' => Same H H' ∧ ∃ d, Dt K H' v d ∧ LeafD d
def RowD (d : PyData) : Prop := ∃ ds, d = .tuple ds ∧ ∀ e ∈ ds, ScD e
theorem RowD.pl {d : PyData} (h : RowD d) : Pl 3 d := by
  obtain ⟨ds, rfl, h⟩ := h
  refine Pl.tup ?_ fun e he => (h e he).pl
  cases ds with
  | nil => trivial
  | cons a r =>
    obtain ⟨k, x, rfl, _⟩ := h a List.mem_cons_self
    trivial
theorem array_leaf {ds : List PyData} (h : ∀ d ∈ ds, RowD d) : LeafD (.tuple [.str "array", .tuple ds]) := by
  refine ⟨_, _, rfl, by decide, Pl.tup (n := 4) (leaf_not (by decide)) fun e he => ?_⟩
  rcases List.mem_cons.mp he with rfl | he
  · exact Pl.flat trivial
  · rcases List.mem_cons.mp he with rfl | he
    · refine Pl.tup ?_ fun e he => (h e he).pl
      cases ds with
      | nil => trivial
      | cons a r =>
        obtain ⟨x, rfl, _⟩ := h a List.mem_cons_self
        trivial
    · cases he
/-- what a comprehension's items are, as data -/
theorem data_of {R : PyData → Prop} {H H' : Hp} {ys : List V} (hE : ∀ (i : Nat) (y : V), ys[i]? = some y → ∃ H0, Same H H0 ∧ (fun (_ : Nat) (v : V) (_ H1 : Hp) => ∃ d, Dt K H1 v d ∧ R d) i y H0 H') : ∃ ds, DtA K H' ys ds ∧ ∀ d ∈ ds, R d :=
  DtA.of fun v hv => by
    obtain ⟨i, hi⟩ := List.mem_iff_getElem?.mp hv
    obtain ⟨_, _, h⟩ := hE i v hi
    exact h
theorem data_mono {R : PyData → Prop} : ∀ (i : Nat) (v : V) (H0 H1 H2 : Hp) (D : Addr) (xs0 xs : List V), H0 D = some (.lst xs0) → H1 D = some (.lst xs) → SB D H1 H2 → (fun (_ : Nat) (v : V) (_ H1 : Hp) => ∃ d, Dt K H1 v d ∧ R d) i v H0 H1 → (fun (_ : Nat) (v : V) (_ H1 : Hp) => ∃ d, Dt K H1 v d ∧ R d) i v H0 H2 :=
  fun _ _ _ _ _ _ _ _ _ h1 sb ⟨d, h, hr⟩ => ⟨d, h.ts (sb.ts h1), hr⟩
theorem cl_array (F : Df K mg "_law_array" 28) (B : Bi mg) (c_law_draw : Cl P w K mg base 2 "_law_draw" spDraw) (c_law_scalar : Cl P w K mg base 4 "_law_scalar" (spScalar K)) : Cl P w K mg base 5 "_law_array" (spArray K) := by
  refine mk_cl F sc__law_array (fun _ _ _ _ _ _ us hl => match us, hl with | [_], _ => rfl) (fun _ => rfl) 4 rfl fun f cdv A outer s H Q z hr hp hq => ?_
  have hst : StOk H z := hp
  refine ⟨_, ((pss_cons (ps_set (i := 1) sc__law_array.nd rfl (Or.inl rfl) (pe_op op_add pe_int (pe_cl c_law_draw hr (by decide) (by rfl) (pa_cons (pv 0) (pa_cons pe_int pa_nil)))))
      (pss_cons (ps_set (i := 2) sc__law_array.nd rfl (Or.inr rfl) (pe_op op_add pe_int (pe_cl c_law_draw hr (by decide) (by rfl) (pa_cons (pv 0) (pa_cons pe_int pa_nil)))))
      (C8.pss_cut (ps_if (pt_cmpR op_eq (pe_cl c_law_draw hr (by decide) (by rfl) (pa_cons (pv 0) (pa_cons pe_int pa_nil))) pe_int (nomark _)) (pss_cons (ps_set (i := 1) sc__law_array.nd rfl (Or.inl rfl) (pe_op op_add pe_int (pe_cl c_law_draw hr (by decide) (by rfl) (pa_cons (pv 0) (pa_cons pe_int pa_nil)))))
      (pss_one (ps_set (i := 2) sc__law_array.nd rfl (Or.inr rfl) (pe_callB (cl_min2 rfl) (by rfl) B.tmin (by decide +kernel) (pa_cons (pe_callTy cl_int (by rfl) B.tint (by decide +kernel) (pa_cons (pe_op op_add pe_int (pe_cl c_law_draw hr (by decide) (by rfl) (pa_cons (pv 0) (pa_cons pe_int pa_nil)))) pa_nil)) (pa_cons (pe_callTy cl_int (by rfl) B.tint (by decide +kernel) (pa_cons (pe_op op_fdivW pe_int (pv 1)) pa_nil)) pa_nil)))))) pss_nil)
      (pss_one (ps_ret (pe_tup (pa_cons pe_str (pa_cons (pe_callTy cl_tuple (by rfl) B.ttuple (by decide +kernel) (pa_cons (pe_lc (own := [("_law_i", 3)]) (g := gName 3) rfl sc__law_array.nd (pi_range1 rfl B.trange (pa_cons (pv 1) pa_nil)) (blkOk_by (own := [("_law_i", 3)]) (N := N__law_array) (sc := defScope (topS 28)) (by decide +kernel)) (fun _ _ _ _ _ => pg_name (i := 3) sc__law_array.nd rfl (Or.inl rfl)) (fun _ _ _ _ _ => pts_nil) (fun _ _ _ _ _ => (pe_callTy (cl_tuple : CallR _ _ (rTupOf K)) (by rfl) B.ttuple (by decide +kernel) (pa_cons (pe_lc (own := [("_law_j", 4)]) (g := gName 4) rfl sc__law_array.nd (pi_range1 rfl B.trange (pa_cons (pv 2) pa_nil)) (blkOk_by (own := [("_law_j", 4)]) (N := N__law_array) (by rfl)) (fun _ _ _ _ _ => pg_name (i := 4) sc__law_array.nd rfl (Or.inl rfl)) (fun _ _ _ _ _ => pts_nil) (fun _ _ _ _ _ => (pe_cl c_law_scalar hr (by decide) (by rfl) (pa_cons (pv 0) (pa_cons pe_bl pa_nil))))) pa_nil)))) pa_nil)) pa_nil))))))))), ?_⟩
  walk_at "go"
  refine d_draw hst (by decide) (by decide) fun a a0 a1 => ?_
  walk_at "s"
  refine d_draw hst (by decide) (by decide) fun b b0 b1 => ?_
  walk_at "s"
  refine r_cut (Mid := fun σ' H' => ∃ h w : Int, 1 ≤ h ∧ h ≤ 20 ∧ 0 ≤ w ∧ w ≤ 20 ∧ σ' = [some (.ref z), some (.int h), some (.int w), none, none] ∧ H' = H) ?_ ?_
  · walk_at "s"
    refine d_draw hst (by decide) (by decide) fun c c0 c1 => ?_
    walk_at "s"
    refine i2 (fun e0 => ?_) (fun e0 => ?_)
    · walk_at "s"
      refine d_draw hst (by decide) (by decide) fun d d0 d1 => ?_
      walk_at "s"
      refine d_draw hst (by decide) (by decide) fun e e0 e1 => ?_
      walk_at "s"
      have hd : 0 ≤ 64 / (1 + d) := Int.ediv_nonneg (by decide) (by omega)
      refine ⟨_, _, ?_, ?_, ?_, ?_, rfl, rfl⟩
      · omega
      · omega
      · generalize 64 / (1 + d) = q at hd
        split <;> omega
      · generalize 64 / (1 + d) = q at hd
        split <;> omega
    · walk_at "s"
      exact ⟨_, _, by omega, by omega, by omega, by omega, rfl, rfl⟩
  · rintro σ' H' ⟨h, w', h1, h2, w0, w1, rfl, rfl⟩
    walk_at "s"
    refine lcR (by omega) (by omega) ⟨fun i v _ H1 => ∃ d, Dt K H1 v d ∧ RowD d, data_mono, fun _ => rfl, fun i x H1 hi hx s Q' hQ' => ?_, fun p H2 ys s2 np hp2 hy hE => ?_⟩
    · walk_at "s"
      refine lcR (by omega) (by omega) ⟨fun i v _ H1 => ∃ d, Dt K H1 v d ∧ ScD d, data_mono, fun _ => rfl, fun j x H2 hj hx s' Q2 hQ2 => ?_, fun p H2 ys s2 np hp2 hy hE => ?_⟩
      · walk_at "s"
        refine ⟨(z, true), rfl, s'.st (s.st hst), ?_⟩
        rintro v H3 ⟨s3, hd⟩
        exact hQ2 _ _ s3 hd
      · obtain ⟨ds, hds, hr⟩ := data_of hE
        walk_at "s"
        refine r_tupL (SqL.of hp2) fun t H3 nt s3 ht => ?_
        exact hQ' _ _ (s2.trans s3) ⟨_, .tup (SqT.of ht) (hds.up s3), ds, rfl, hr⟩
    · obtain ⟨ds, hds, hr⟩ := data_of hE
      walk_at "s"
      refine r_tupL (SqL.of hp2) fun t H3 nt s3 ht => ?_
      walk_at "s"
      refine n_tup (szr rfl) fun p2 H4 np2 s4 hp4 => ?_
      exact hq _ _ ⟨(s2.trans s3).trans s4, _, .tup (SqT.of hp4) (.cons (.str _) (.cons (.tup (SqT.of (s4 _ _ ht)) ((hds.up s3).up s4)) .nil)), array_leaf hr⟩
end
end Sw

set_option maxHeartbeats 4000000
namespace Sw
open PySem PySem.Spec PyProof.Rows L2 C8
local macro_rules | `(tactic| walk_at "v") => `(tactic| (with_reducible show tVar _ _ _ _; with_unfolding_all refine r_var rfl ?_))
local macro_rules | `(tactic| walk_at "x") => `(tactic| ((first | with_reducible refine r_ixTc (xs := ?xs) (v := ?v) ?hl ?e ?h | with_reducible refine r_ixLc (xs := ?xs) (v := ?v) ?hl ?e ?h); (case hl => first | assumption | exact SqT.of (by assumption) | exact SqL.of (by assumption)); (case e => first | rfl | assumption | exact atI_zero)))
local macro_rules | `(tactic| walk_at "n") => `(tactic| ((first | with_reducible refine r_mod ?hj (fun _ _ _ => ?_) | with_reducible refine r_mul ?hj ?_ | with_reducible refine r_div ?hj ?hd ?_ | with_reducible refine r_pow ?hj ?_); (case hj => first | (with_reducible show (0 : Int) < _; first | decide | omega) | exact ⟨by decide, by decide, by decide⟩ | exact .inr ⟨by decide, by decide⟩ | exact .inl ⟨by decide, by decide⟩ | exact .inl ⟨by omega, by omega⟩ | exact .inr ⟨by omega, by omega⟩); (try case hd => first | decide | omega)))
local macro_rules | `(tactic| walk_at "s0") => `(tactic| first
  | with_reducible refine r_seq ?_ | with_reducible refine r_asg ?_ | ((with_reducible refine r_gname ?_); dsimp only [List.set_cons_succ, List.set_cons_zero, List.set]) | with_reducible refine r_ret ?_ | with_reducible refine r_drop ?_ | with_reducible refine r_if ?_
  | with_reducible refine r_test ?_ | with_reducible refine r_B ?_ | with_reducible refine r_op ?_ | with_reducible refine r_cons ?_ | with_reducible refine r_nil ?_ | with_reducible refine r_c ?_ | walk_at "v"
  | with_reducible refine r_cl ?_ | with_reducible refine r_cb ?_ | with_reducible refine r_I0 ?_ | with_reducible refine r_bl ?_ | ((with_reducible refine r_eq ?hs ?_); (case hs => rfl)) | ((with_reducible refine r_ne ?hs ?_); (case hs => rfl))
  | with_reducible refine r_un ?_ | with_reducible refine r_neg ?_ | with_reducible refine r_int ?_ | with_reducible refine r_intB ?_ | with_reducible refine r_min2 ?_ | with_reducible refine r_max2 ?_
  | with_reducible refine r_tup ?_ | with_reducible refine r_lst ?_ | with_reducible refine r_not ?_ | with_reducible refine r_ifE ?_
  | with_reducible refine r_andV ?_ | with_reducible refine r_orV ?_ | with_reducible refine r_notV ?_ | with_reducible refine r_next ?_ | with_reducible refine r_brk ?_ | with_reducible refine r_for ?_ | with_reducible refine r_slc ?_ | with_reducible refine r_nop ?_ | with_reducible refine r_part ?_ | with_reducible refine r_ei ?_ | with_reducible refine r_bm ?_ | with_reducible refine r_isN ?_ | with_reducible refine r_notN ?_ | with_reducible refine r_m1 ?_ | with_reducible refine r_lc ?_ | with_reducible refine r_rng1 ?_ | with_reducible refine r_rng2 ?_ | with_reducible refine r_ilist ?_ | with_reducible refine r_itup ?_ | with_reducible refine iteT ?_ | with_reducible refine iteF ?_ | with_reducible refine r_sub ?_ | walk_at "n" | walk_at "x")
local macro_rules | `(tactic| walk_at "s1") => `(tactic| first | walk_at "s0" | with_reducible refine r_and ?_ | with_reducible refine r_or ?_)
local macro_rules | `(tactic| walk_at "u") => `(tactic| (try dsimp only); repeat walk_at "s0")
local macro_rules | `(tactic| walk_at "pt") => `(tactic| first
  | ((with_reducible refine r_and2 (a := ?a) (b := ?b) ?h1 ?h2 ?h); (case h1 => intro _ q; walk_at "pt"; exact q); (case h2 => intro _ q; walk_at "pt"; exact q); (try dsimp only))
  | ((with_reducible refine r_or2 (a := ?a) (b := ?b) ?h1 ?h2 ?h); (case h1 => intro _ q; walk_at "pt"; exact q); (case h2 => intro _ q; walk_at "pt"; exact q); (try dsimp only))
  | walk_at "u")
local macro_rules | `(tactic| walk_at "s") => `(tactic| (try dsimp only); repeat walk_at "s1")
local macro_rules | `(tactic| walk_at "go") => `(tactic| (try simp only [cxK, cxK2]); (try simp only [List.map_cons, List.map_nil, List.replicate, List.cons_append, List.nil_append]); walk_at "s")
local macro_rules | `(tactic| walk_at "t") => `(tactic| ((try dsimp only); (try with_reducible refine iteT ?_); (try dsimp only)))

/-! ### the plan -/
structure Rw where
  a : Addr
  x : Str
  lo : Int
  hi : Int
structure WsF (H : Hp) (ws : Addr) (rows : List Rw) : Prop where
  ws : H ws = some (.lst (rows.map fun r => .ref r.a))
  row : ∀ r ∈ rows, H r.a = some (.tup [.str r.x, .int r.lo, .int r.hi]) ∧ 0 ≤ r.lo ∧ r.lo ≤ r.hi ∧ r.hi ≤ 16
  len : rows.length ≤ 200
  top : ∃ r ∈ rows, r.hi = 16
theorem WsF.up {H H' : Hp} {ws : Addr} {rows : List Rw} (e : Same H H') (h : WsF H ws rows) : WsF H' ws rows := ⟨e _ _ h.ws, fun r hr => ⟨e _ _ (h.row r hr).1, (h.row r hr).2⟩, h.len, h.top⟩
structure PlanF (H : Hp) (pl a0 a1 ks ws : Addr) (m : Int) (kv : List V) (rows : List Rw) : Prop where
  pl : H pl = some (.lst [.ref a0, .ref a1, .ref ks, .ref ws, .int m])
  s0 : SpanOk H a0 0 20
  s1 : SpanOk H a1 0 10
  ks : H ks = some (.lst kv)
  kn : 0 < kv.length
  kl : kv.length ≤ 100
  kv : ∀ v ∈ kv, v = .non ∨ ∃ i, v = .int i
  ws : WsF H ws rows
def PlanOk (H : Hp) (pl : Addr) : Prop := ∃ a0 a1 ks ws m kv rows, PlanF H pl a0 a1 ks ws m kv rows
theorem PlanF.up {H H' : Hp} {pl a0 a1 ks ws : Addr} {m : Int} {kv : List V} {rows : List Rw} (e : Same H H') (h : PlanF H pl a0 a1 ks ws m kv rows) : PlanF H' pl a0 a1 ks ws m kv rows :=
  ⟨e _ _ h.pl, h.s0.up e, h.s1.up e, e _ _ h.ks, h.kn, h.kl, h.kv, h.ws.up e⟩
theorem PlanOk.up {H H' : Hp} {pl : Addr} (e : Same H H') (h : PlanOk H pl) : PlanOk H' pl := let ⟨a0, a1, ks, ws, m, kv, rows, h⟩ := h; ⟨a0, a1, ks, ws, m, kv, rows, h.up e⟩
theorem perm2 {ns : List Int} {a b : Int} (h : ns.Perm [a, b]) (hp : ns.Pairwise (· ≤ ·)) : ∃ x y, ns = [x, y] ∧ x ≤ y ∧ (x = a ∨ x = b) ∧ (y = a ∨ y = b) := by
  have hl := h.length_eq
  match ns, hl with
  | [x, y], _ =>
    have h1 : x ∈ [a, b] := h.mem_iff.mp (by simp)
    have h2 : y ∈ [a, b] := h.mem_iff.mp (by simp)
    simp at h1 h2
    refine ⟨x, y, rfl, ?_, h1, h2⟩
    have := (List.pairwise_cons.mp hp).1 y (by simp)
    exact this
theorem bools4 {ys : List V} (hl : ys.length = 4) (h : ∀ y ∈ ys, ∃ b, y = V.bl b) : ∃ a b c d, ys = [.bl a, .bl b, .bl c, .bl d] := by
  match ys, hl with
  | [y0, y1, y2, y3], _ =>
    obtain ⟨a, rfl⟩ := h y0 (by simp)
    obtain ⟨b, rfl⟩ := h y1 (by simp)
    obtain ⟨c, rfl⟩ := h y2 (by simp)
    obtain ⟨d, rfl⟩ := h y3 (by simp)
    exact ⟨a, b, c, d, rfl⟩
section
variable {P : Program} {w : World} {K : PySem.W.Frag} {mg : Str → Option Value} {base : Heap}
theorem r_sorted2 {H : Hp} {Q : VK} {p : Addr} {a b : Int} (h : H p = some (.lst [.int a, .int b])) (k : ∀ (x y : Int) (l : Addr) (H1 : Hp), x ≤ y → (x = a ∨ x = b) → (y = a ∨ y = b) → H l = none → Same H H1 → H1 l = some (.lst [.int x, .int y]) → Q (.ref l) H1) : rSorted K [.ref p] H Q :=
  ⟨p, [a, b], rfl, SqL.of h, (show 2 < 64 by decide), fun ns l hp hs hl => by
    obtain ⟨x, y, rfl, hxy, hx, hy⟩ := perm2 hp hs
    exact k x y l _ hxy hx hy hl (Same.new hl) upd_same⟩
/-! ### _law_area -/
abbrev N__law_area : List Str := ["_law_state", "_law_plan", "_law_sheet", "_law_tops", "_law_lefts", "_law_marks_here", "_law_kind", "_law_k"]
theorem sc__law_area : FnScope N__law_area ["_law_state", "_law_plan"] (defScope (topS 29)) := ⟨rfl, rfl, rfl, by decide +kernel, rfl, by decide +kernel, by decide +kernel⟩
def spArea (K : PySem.W.Frag) : Sp := Spc (Addr × Addr) (fun z => [.ref z.1, .ref z.2]) (fun z H => StOk H z.1 ∧ PlanOk H z.2) fun z H v H' => Same H H' ∧ ∃ d, Dt K H' v d ∧ AreaD d
theorem shD {H : Hp} {v : V} (h : v = .non ∨ ∃ i, v = .int i) : ∃ d, Dt K H v d ∧ (d = .none ∨ ∃ i, d = .int i) := by
  rcases h with rfl | ⟨i, rfl⟩
  · exact ⟨_, .non, .inl rfl⟩
  · exact ⟨_, .int i, .inr ⟨i, rfl⟩⟩
theorem cl_area (F : Df K mg "_law_area" 29) (B : Bi mg) (c_law_draw : Cl P w K mg base 2 "_law_draw" spDraw) (c_law_near : Cl P w K mg base 3 "_law_near" spNear) : Cl P w K mg base 4 "_law_area" (spArea K) := by
  refine mk_cl F sc__law_area (fun _ _ _ _ _ _ us hl => match us, hl with | [_, _], _ => rfl) (fun _ => rfl) 6 rfl fun f cdv A outer s H Q z hr hp hq => ?_
  obtain ⟨st, pl⟩ := z
  obtain ⟨hst, a0, a1, ks, ws, m, kv, rows, hpl⟩ := hp
  have hst : StOk H st := hst
  have hpl : PlanF H pl a0 a1 ks ws m kv rows := hpl
  refine ⟨_, ((pss_cons (ps_set (i := 2) sc__law_area.nd rfl (Or.inl rfl) (pe_ix ix_list (pe_ix ix_list (pv 1) pe_int (fun _ _ => rfl)) (pe_cl c_law_draw hr (by decide) (by rfl) (pa_cons (pv 0) (pa_cons (pe_callB cl_len (by rfl) B.tlen (by decide +kernel) (pa_cons (pe_ix ix_list (pv 1) pe_int (fun _ _ => rfl)) pa_nil)) pa_nil))) (fun _ _ => rfl)))
      (pss_cons (ps_set (i := 3) sc__law_area.nd rfl (Or.inl rfl) (pe_callB cr_sorted (by rfl) B.tsorted (by decide +kernel) (pa_cons (pe_lst (pa_cons (pe_callTy cl_int (by rfl) B.tint (by decide +kernel) (pa_cons (pe_cl c_law_near hr (by decide) (by rfl) (pa_cons (pv 0) (pa_cons (pe_ix ix_list (pv 1) pe_int (fun _ _ => rfl)) pa_nil))) pa_nil)) (pa_cons (pe_callTy cl_int (by rfl) B.tint (by decide +kernel) (pa_cons (pe_cl c_law_near hr (by decide) (by rfl) (pa_cons (pv 0) (pa_cons (pe_ix ix_list (pv 1) pe_int (fun _ _ => rfl)) pa_nil))) pa_nil)) pa_nil))) pa_nil)))
      (pss_cons (ps_set (i := 4) sc__law_area.nd rfl (Or.inl rfl) (pe_callB cr_sorted (by rfl) B.tsorted (by decide +kernel) (pa_cons (pe_lst (pa_cons (pe_callTy cl_int (by rfl) B.tint (by decide +kernel) (pa_cons (pe_cl c_law_near hr (by decide) (by rfl) (pa_cons (pv 0) (pa_cons (pe_ix ix_list (pv 1) pe_int (fun _ _ => rfl)) pa_nil))) pa_nil)) (pa_cons (pe_callTy cl_int (by rfl) B.tint (by decide +kernel) (pa_cons (pe_cl c_law_near hr (by decide) (by rfl) (pa_cons (pv 0) (pa_cons (pe_ix ix_list (pv 1) pe_int (fun _ _ => rfl)) pa_nil))) pa_nil)) pa_nil))) pa_nil)))
      (pss_cons (ps_setLc (i := 5) (own := [("_law_k", 7)]) (g := gName 7) rfl sc__law_area.nd rfl rfl (sw_true rfl rfl rfl (by decide +kernel)) (pi_range1 rfl B.trange (pa_cons pe_int pa_nil)) (blkOk_by (own := [("_law_k", 7)]) (N := N__law_area) (sc := defScope (topS 29)) (by decide +kernel)) (fun _ _ _ _ _ => pg_name (i := 7) sc__law_area.nd rfl (Or.inl rfl)) (fun _ _ _ _ _ => pts_nil) (fun _ _ _ _ _ => (pe_or (pe_cmpR op_eq (pe_ix (ix_list : IxR _ (rIxL K)) (pv 1) pe_int (fun _ _ => rfl)) pe_int (nomark _)) (pe_one (pe_and (pe_cmpR op_eq (pe_cl c_law_draw hr (by decide) (by rfl) (pa_cons (pv 0) (pa_cons pe_int pa_nil))) pe_int (nomark _)) (pe_one (pe_cmpR op_ne (pe_ix (ix_list : IxR _ (rIxL K)) (pv 1) pe_int (fun _ _ => rfl)) pe_int (nomark _))))))))
      (C8.pss_cut (ps_if (pt_cmpR op_eq (pe_ix ix_list (pv 1) pe_int (fun _ _ => rfl)) pe_int (nomark _)) (pss_one (ps_set (i := 5) sc__law_area.nd rfl (Or.inl rfl) (pe_lst (pa_cons (pe_ix ix_list (pv 5) pe_int (fun _ _ => rfl)) (pa_cons (pe_ix ix_list (pv 5) pe_int (fun _ _ => rfl)) (pa_cons (pe_ix ix_list (pv 5) pe_int (fun _ _ => rfl)) (pa_cons (pe_ix ix_list (pv 5) pe_int (fun _ _ => rfl)) pa_nil))))))) pss_nil)
      (pss_cons (ps_set (i := 6) sc__law_area.nd rfl (Or.inl rfl) (pe_cl c_law_draw hr (by decide) (by rfl) (pa_cons (pv 0) (pa_cons pe_int pa_nil))))
      (pss_cons (ps_if (pt_cmpR op_lt (pv 6) pe_int (nomark _)) (pss_one (ps_ret (pe_tup (pa_cons pe_str (pa_cons (pv 2) (pa_cons (pe_ix ix_list (pv 3) pe_int (fun _ _ => rfl)) (pa_cons (pe_ix ix_list (pv 4) pe_int (fun _ _ => rfl)) (pa_cons (pe_ix ix_list (pv 5) pe_int (fun _ _ => rfl)) (pa_cons (pe_ix ix_list (pv 5) pe_int (fun _ _ => rfl)) pa_nil))))))))) pss_nil)
      (pss_cons (ps_if (pt_cmpR op_lt (pv 6) pe_int (nomark _)) (pss_one (ps_ret (pe_tup (pa_cons pe_str (pa_cons (pv 2) (pa_cons (pe_ix ix_list (pv 3) pe_int (fun _ _ => rfl)) (pa_cons (pe_ix ix_list (pv 4) pe_int (fun _ _ => rfl)) (pa_cons (pe_ix ix_list (pv 3) pe_int (fun _ _ => rfl)) (pa_cons (pe_ix ix_list (pv 4) pe_int (fun _ _ => rfl)) (pa_cons (pe_ix ix_list (pv 5) pe_int (fun _ _ => rfl)) (pa_cons (pe_ix ix_list (pv 5) pe_int (fun _ _ => rfl)) (pa_cons (pe_ix ix_list (pv 5) pe_int (fun _ _ => rfl)) (pa_cons (pe_ix ix_list (pv 5) pe_int (fun _ _ => rfl)) pa_nil))))))))))))) pss_nil)
      (pss_cons (ps_if (pt_cmpR op_eq (pv 6) pe_int (nomark _)) (pss_one (ps_ret (pe_tup (pa_cons pe_str (pa_cons (pv 2) (pa_cons (pe_ix ix_list (pv 3) pe_int (fun _ _ => rfl)) (pa_cons (pe_ix ix_list (pv 3) pe_int (fun _ _ => rfl)) (pa_cons (pe_ix ix_list (pv 5) pe_int (fun _ _ => rfl)) (pa_cons (pe_ix ix_list (pv 5) pe_int (fun _ _ => rfl)) pa_nil))))))))) pss_nil)
      (pss_one (ps_ret (pe_tup (pa_cons pe_str (pa_cons (pv 2) (pa_cons (pe_ix ix_list (pv 4) pe_int (fun _ _ => rfl)) (pa_cons (pe_ix ix_list (pv 4) pe_int (fun _ _ => rfl)) (pa_cons (pe_ix ix_list (pv 5) pe_int (fun _ _ => rfl)) (pa_cons (pe_ix ix_list (pv 5) pe_int (fun _ _ => rfl)) pa_nil))))))))))))))))))), ?_⟩
  have h1 := hpl.pl
  have h2 := hpl.ks
  walk_at "go"
  refine r_lenL (SqL.of h2) ?_
  walk_at "s"
  have := hpl.kl
  have := hpl.kn
  refine d_draw hst (by omega) (by omega) fun k k0 k1 => ?_
  obtain ⟨sh, hsh, esh⟩ := atI_mem k0 k1
  refine r_ixLc (SqL.of h2) esh ?_
  walk_at "s"
  refine d_near hst hpl.s0 (by decide) (by decide) fun t t0 t1 => ?_
  walk_at "s"
  refine d_near hst hpl.s0 (by decide) (by decide) fun b b0 b1 => ?_
  walk_at "s"
  refine n_lst (szr rfl) fun p H1 np s1 hp1 => ?_
  walk_at "s"
  refine r_sorted2 hp1 fun t' b' tp H2 htb ht hb ntp s2 htp => ?_
  have s02 := s1.trans s2
  have h1 := s02 _ _ h1
  walk_at "s"
  refine d_near (s02.st hst) (hpl.s1.up s02) (by decide) (by decide) fun l l0 l1 => ?_
  walk_at "s"
  refine d_near (s02.st hst) (hpl.s1.up s02) (by decide) (by decide) fun r r0 r1 => ?_
  walk_at "s"
  refine n_lst (szr rfl) fun p3 H3 np3 s3 hp3 => ?_
  walk_at "s"
  refine r_sorted2 hp3 fun l' r' lp H4 hlr hl hr nlp s4 hlp => ?_
  have s24 := s3.trans s4
  have s04 := s02.trans s24
  walk_at "s"
  refine lcR (by decide) (by decide) ⟨fun i v _ _ => ∃ b, v = .bl b, fun _ _ _ _ _ _ _ _ _ _ _ h => h, fun _ => rfl, fun i x H5 hi hx s Q' hQ' => ?_, fun mp H5 ys s5 nmp hmp hy hE => ?_⟩
  · have h1 := s _ _ (s24 _ _ h1)
    walk_at "s"
    refine i2 (fun e0 => ?_) (fun e0 => ?_)
    · exact hQ' _ _ (Same.refl _) ⟨_, rfl⟩
    walk_at "s"
    refine d_draw (s.st (s04.st hst)) (by decide) (by decide) fun k k0 k1 => ?_
    walk_at "s"
    refine i2 (fun e0 => ?_) (fun e0 => ?_)
    · walk_at "s"
      exact hQ' _ _ (Same.refl _) ⟨_, rfl⟩
    · exact hQ' _ _ (Same.refl _) ⟨_, rfl⟩
  obtain ⟨ma, mb, mc, md, rfl⟩ := bools4 hy fun y hy' => by
    obtain ⟨i, hi⟩ := List.mem_iff_getElem?.mp hy'
    obtain ⟨_, _, h⟩ := hE i y hi
    exact h
  have s05 := s04.trans s5
  have h1 := s5 _ _ (s24 _ _ h1)
  have htp := s5 _ _ (s24 _ _ htp)
  have hlp := s5 _ _ hlp
  walk_at "s"
  refine r_cut (Mid := fun σ' H' => ∃ mp ma mb mc md, σ' = [some (.ref st), some (.ref pl), some sh, some (.ref tp), some (.ref lp), some (.ref mp), none, none] ∧ Same H5 H' ∧ H' mp = some (.lst [.bl ma, .bl mb, .bl mc, .bl md])) ?_ ?_
  · walk_at "s"
    refine i2 (fun e0 => ?_) (fun e0 => ?_)
    · walk_at "s"
      refine n_lst (szr rfl) fun p6 H6 np6 s6 hp6 => ?_
      walk_at "s"
      exact ⟨_, _, _, _, _, rfl, s6, hp6⟩
    · walk_at "s"
      exact ⟨_, _, _, _, _, rfl, Same.refl _, hmp⟩
  · rintro σ' H' ⟨mp, ma, mb, mc, md, rfl, s6, hmp⟩
    have htp := s6 _ _ htp
    have hlp := s6 _ _ hlp
    have s06 := s05.trans s6
    obtain ⟨shd, hshd, hshk⟩ := shD (K := K) (H := H') (hpl.kv _ hsh)
    obtain ⟨t, rfl⟩ := Int.eq_ofNat_of_zero_le (show 0 ≤ t' by omega)
    obtain ⟨b, rfl⟩ := Int.eq_ofNat_of_zero_le (show 0 ≤ b' by omega)
    obtain ⟨l, rfl⟩ := Int.eq_ofNat_of_zero_le (show 0 ≤ l' by omega)
    obtain ⟨r, rfl⟩ := Int.eq_ofNat_of_zero_le (show 0 ≤ r' by omega)
    walk_at "s"
    refine d_draw (s06.st hst) (by decide) (by decide) fun k k0 k1 => ?_
    walk_at "s"
    refine i2 (fun e0 => ?_) (fun e0 => ?_)
    · walk_at "s"
      refine n_tup (szr rfl) fun p7 H7 np7 s7 hp7 => ?_
      exact hq _ _ ⟨s06.trans s7, _, .tup (SqT.of hp7) (.cons (.str _) (.cons (hshd.up s7) (.cons (.int _) (.cons (.int _) (.cons (.bl _) (.cons (.bl _) .nil)))))), .cell _ _ _ _ _ hshk (by omega) (by omega)⟩
    walk_at "s"
    refine i2 (fun e0 => ?_) (fun e0 => ?_)
    · walk_at "s"
      refine n_tup (szr rfl) fun p7 H7 np7 s7 hp7 => ?_
      exact hq _ _ ⟨s06.trans s7, _, .tup (SqT.of hp7) (.cons (.str _) (.cons (hshd.up s7) (.cons (.int _) (.cons (.int _) (.cons (.int _) (.cons (.int _) (.cons (.bl _) (.cons (.bl _) (.cons (.bl _) (.cons (.bl _) .nil)))))))))), .range _ _ _ _ _ _ _ _ _ hshk (by omega) (by omega) (by omega) (by omega)⟩
    walk_at "s"
    refine i2 (fun e0 => ?_) (fun e0 => ?_)
    · walk_at "s"
      refine n_tup (szr rfl) fun p7 H7 np7 s7 hp7 => ?_
      exact hq _ _ ⟨s06.trans s7, _, .tup (SqT.of hp7) (.cons (.str _) (.cons (hshd.up s7) (.cons (.int _) (.cons (.int _) (.cons (.bl _) (.cons (.bl _) .nil)))))), .rows _ _ _ _ _ hshk (by omega) (by omega)⟩
    · walk_at "s"
      refine n_tup (szr rfl) fun p7 H7 np7 s7 hp7 => ?_
      exact hq _ _ ⟨s06.trans s7, _, .tup (SqT.of hp7) (.cons (.str _) (.cons (hshd.up s7) (.cons (.int _) (.cons (.int _) (.cons (.bl _) (.cons (.bl _) .nil)))))), .cols _ _ _ _ _ hshk (by omega) (by omega)⟩
end
end Sw

set_option maxHeartbeats 4000000
namespace Sw
open PySem PySem.Spec PyProof.Rows L2 C8
local macro_rules | `(tactic| walk_at "v") => `(tactic| (with_reducible show tVar _ _ _ _; with_unfolding_all refine r_var rfl ?_))
local macro_rules | `(tactic| walk_at "x") => `(tactic| ((first | with_reducible refine r_ixTc (xs := ?xs) (v := ?v) ?hl ?e ?h | with_reducible refine r_ixLc (xs := ?xs) (v := ?v) ?hl ?e ?h); (case hl => first | assumption | exact SqT.of (by assumption) | exact SqL.of (by assumption)); (case e => first | rfl | assumption | exact atI_zero)))
local macro_rules | `(tactic| walk_at "n") => `(tactic| ((first | with_reducible refine r_mod ?hj (fun _ _ _ => ?_) | with_reducible refine r_mul ?hj ?_ | with_reducible refine r_div ?hj ?hd ?_ | with_reducible refine r_pow ?hj ?_); (case hj => first | (with_reducible show (0 : Int) < _; first | decide | omega) | exact ⟨by decide, by decide, by decide⟩ | exact .inr ⟨by decide, by decide⟩ | exact .inl ⟨by decide, by decide⟩ | exact .inl ⟨by omega, by omega⟩ | exact .inr ⟨by omega, by omega⟩); (try case hd => first | decide | omega)))
local macro_rules | `(tactic| walk_at "s0") => `(tactic| first
  | with_reducible refine r_seq ?_ | with_reducible refine r_asg ?_ | ((with_reducible refine r_gname ?_); dsimp only [List.set_cons_succ, List.set_cons_zero, List.set]) | with_reducible refine r_ret ?_ | with_reducible refine r_drop ?_ | with_reducible refine r_if ?_
  | with_reducible refine r_test ?_ | with_reducible refine r_B ?_ | with_reducible refine r_op ?_ | with_reducible refine r_cons ?_ | with_reducible refine r_nil ?_ | with_reducible refine r_c ?_ | walk_at "v"
  | with_reducible refine r_cl ?_ | with_reducible refine r_cb ?_ | with_reducible refine r_I0 ?_ | with_reducible refine r_bl ?_ | ((with_reducible refine r_eq ?hs ?_); (case hs => rfl)) | ((with_reducible refine r_ne ?hs ?_); (case hs => rfl))
  | with_reducible refine r_un ?_ | with_reducible refine r_neg ?_ | with_reducible refine r_int ?_ | with_reducible refine r_intB ?_ | with_reducible refine r_min2 ?_ | with_reducible refine r_max2 ?_
  | with_reducible refine r_tup ?_ | with_reducible refine r_lst ?_ | with_reducible refine r_not ?_ | with_reducible refine r_ifE ?_
  | with_reducible refine r_andV ?_ | with_reducible refine r_orV ?_ | with_reducible refine r_notV ?_ | with_reducible refine r_next ?_ | with_reducible refine r_brk ?_ | with_reducible refine r_for ?_ | with_reducible refine r_slc ?_ | with_reducible refine r_nop ?_ | with_reducible refine r_part ?_ | with_reducible refine r_ei ?_ | with_reducible refine r_bm ?_ | with_reducible refine r_isN ?_ | with_reducible refine r_notN ?_ | with_reducible refine r_m1 ?_ | with_reducible refine r_lc ?_ | with_reducible refine r_rng1 ?_ | with_reducible refine r_rng2 ?_ | with_reducible refine r_ilist ?_ | with_reducible refine r_itup ?_ | with_reducible refine iteT ?_ | with_reducible refine iteF ?_ | with_reducible refine r_sub ?_ | walk_at "n" | walk_at "x")
local macro_rules | `(tactic| walk_at "s1") => `(tactic| first | walk_at "s0" | with_reducible refine r_and ?_ | with_reducible refine r_or ?_)
local macro_rules | `(tactic| walk_at "u") => `(tactic| (try dsimp only); repeat walk_at "s0")
local macro_rules | `(tactic| walk_at "pt") => `(tactic| first
  | ((with_reducible refine r_and2 (a := ?a) (b := ?b) ?h1 ?h2 ?h); (case h1 => intro _ q; walk_at "pt"; exact q); (case h2 => intro _ q; walk_at "pt"; exact q); (try dsimp only))
  | ((with_reducible refine r_or2 (a := ?a) (b := ?b) ?h1 ?h2 ?h); (case h1 => intro _ q; walk_at "pt"; exact q); (case h2 => intro _ q; walk_at "pt"; exact q); (try dsimp only))
  | walk_at "u")
local macro_rules | `(tactic| walk_at "s") => `(tactic| (try dsimp only); repeat walk_at "s1")
local macro_rules | `(tactic| walk_at "go") => `(tactic| (try simp only [cxK, cxK2]); (try simp only [List.map_cons, List.map_nil, List.replicate, List.cons_append, List.nil_append]); walk_at "s")
local macro_rules | `(tactic| walk_at "t") => `(tactic| ((try dsimp only); (try with_reducible refine iteT ?_); (try dsimp only)))

section
variable {P : Program} {w : World} {K : PySem.W.Frag} {mg : Str → Option Value} {base : Heap}
theorem cap_nm {s : Str} (h : FirstCap s) : NmOk s := by
  obtain ⟨c, r, e, hc⟩ := h
  intro hm
  unfold kinds4 at hm
  simp only [List.mem_cons, List.not_mem_nil, or_false] at hm
  have key : ∀ t : Str, s = t → (∃ c r, t.cps.toList = c :: r ∧ 97 ≤ c) → False := fun t et ⟨c', r', e', h'⟩ => by
    rw [et, e'] at e
    injection e with e1 _
    omega
  rcases hm with h | h | h | h
  · exact key _ h ⟨99, _, rfl, by decide⟩
  · exact key _ h ⟨114, _, rfl, by decide⟩
  · exact key _ h ⟨114, _, rfl, by decide⟩
  · exact key _ h ⟨99, _, rfl, by decide⟩
theorem flat_strs {ys : List V} (h : ∀ y ∈ ys, ∃ x : Str, y = .str x) : ys.all flatV = true := List.all_eq_true.mpr fun y hy => by
  obtain ⟨x, rfl⟩ := h y hy
  rfl
/-! ### _law_is_cell -/
abbrev N__law_is_cell : List Str := ["_law_word", "_law_k"]
theorem sc__law_is_cell : FnScope N__law_is_cell ["_law_word"] (defScope (topS 22)) := ⟨rfl, rfl, rfl, by decide +kernel, rfl, by decide +kernel, by decide +kernel⟩
def spIsCell : Sp := Spc Str (fun z => [.str z]) (fun z _ => FirstCap z ∧ z.length ≤ 100) fun z H v H' => ∃ b, v = .bl b ∧ Same H H'
theorem cl_is_cell (F : Df K mg "_law_is_cell" 22) (B : Bi mg) : Cl P w K mg base 1 "_law_is_cell" spIsCell := by
  refine mk_cl F sc__law_is_cell (fun _ _ _ _ _ _ us hl => match us, hl with | [_], _ => rfl) (fun _ => rfl) 1 rfl fun f cdv A outer s H Q z hr hp hq => ?_
  obtain ⟨hz, hl⟩ := hp
  refine ⟨_, ((pss_one (ps_ret (pe_and (pe_cmpR op_in_seq (pe_callB cl_str (by rfl) B.tlen (by decide +kernel) (pa_cons (pv 0) pa_nil)) (pe_tup (pa_cons pe_int (pa_cons pe_int pa_nil))) (by rfl)) (pe_and (pe_cmpR op_inSg (pe_ix ix_str (pv 0) pe_int (fun _ _ => rfl)) pe_str (by rfl)) (pe_one (pe_cmpR op_in_seq (pe_slice sl_str (pv 0) (po_some pe_int) po_none) (pe_lc (own := [("_law_k", 1)]) (g := gName 1) rfl sc__law_is_cell.nd (pi_range2 rfl B.trange (pa_cons pe_int (pa_cons pe_int pa_nil))) (blkOk_by (own := [("_law_k", 1)]) (N := N__law_is_cell) (sc := defScope (topS 22)) (by decide +kernel)) (fun _ _ _ _ _ => pg_name (i := 1) sc__law_is_cell.nd rfl (Or.inl rfl)) (fun _ _ _ _ _ => pts_nil) (fun _ _ _ _ _ => (pe_callTy cl_strI (by rfl) B.tstr (by decide +kernel) (pa_cons (pv 1) pa_nil)))) (by rfl)))))))), ?_⟩
  walk_at "go"
  refine r_lenS (sz (by omega)) ?_
  walk_at "s"
  refine n_tup (szr rfl) fun p H1 np s1 hp1 => ?_
  refine r_inT (SqT.of hp1) rfl rfl fun b1 => ?_
  walk_at "s"
  refine ib (fun _ => ?_) (fun _ => hq _ _ ⟨_, rfl, s1⟩)
  obtain ⟨c, -, ec⟩ := atI_mem (xs := z.cps.toList) (x := 0) (by decide) (by have := hz.pos; omega)
  walk_at "s"
  refine r_ixS (sz (by omega)) ec ?_
  walk_at "s"
  refine r_inSg fun b2 => ?_
  walk_at "s"
  refine ib (fun _ => ?_) (fun _ => hq _ _ ⟨_, rfl, s1⟩)
  walk_at "s"
  refine r_slS (sz (by omega)) ?_
  walk_at "s"
  refine lcR2 (by decide) (by decide) ⟨fun i v _ _ => ∃ x : Str, v = .str x, fun _ _ _ _ _ _ _ _ _ _ _ h => h, fun _ => rfl, fun i x H5 hi hx s Q' hQ' => ?_, fun mp H5 ys s5 nmp hmp hy hE => ?_⟩
  · have hx : x = .int ((1 : Int) + (i : Int)) := hx
    have hi : i < (21 - 1 : Int).toNat := hi
    subst hx
    walk_at "s"
    refine ⟨_, rfl, ?_, hQ' _ _ (Same.refl _) ⟨_, rfl⟩⟩
    refine Nat.lt_of_le_of_lt (Nat.log2_le_self _) ?_
    have : (21 - 1 : Int).toNat = 20 := by decide
    omega
  · refine r_inL (SqL.of hmp) rfl (flat_strs fun y hy' => by
      obtain ⟨i, hi⟩ := List.mem_iff_getElem?.mp hy'
      obtain ⟨_, _, h⟩ := hE i y hi
      exact h) fun b3 => ?_
    exact hq _ _ ⟨_, rfl, s1.trans s5⟩
/-! ### _law_name -/
abbrev N__law_name : List Str := ["_law_state", "_law_plan", "_law_signs_here", "_law_word", "_law_k", "_law_row"]
theorem sc__law_name : FnScope N__law_name ["_law_state", "_law_plan"] (defScope (topS 23)) := ⟨rfl, rfl, rfl, by decide +kernel, rfl, by decide +kernel, by decide +kernel⟩
def spName : Sp := Spc (Addr × Addr) (fun z => [.ref z.1, .ref z.2]) (fun z H => StOk H z.1 ∧ PlanOk H z.2) fun z H v H' => Same H H' ∧ ∃ x, v = .str x ∧ NmOk x
def nmSigns : Str := "ABCDEFGHIJKLMNOPQRSTUVWXYZ0123456789_"
theorem nmSigns_len : nmSigns.cps.toList.length = 37 := by decide +kernel
theorem nmSigns_len2 : nmSigns.length = 37 := by decide +kernel
theorem nmSigns_lt : ∀ c ∈ nmSigns.cps.toList, c < 97 := by decide +kernel
theorem cl_name (F : Df K mg "_law_name" 23) (B : Bi mg) (c_law_draw : Cl P w K mg base 2 "_law_draw" spDraw) (c_law_is_cell : Cl P w K mg base 1 "_law_is_cell" spIsCell) : Cl P w K mg base 3 "_law_name" spName := by
  refine mk_cl F sc__law_name (fun _ _ _ _ _ _ us hl => match us, hl with | [_, _], _ => rfl) (fun _ => rfl) 4 rfl fun f cdv A outer s H Q z hr hp hq => ?_
  obtain ⟨st, pl⟩ := z
  obtain ⟨hst, hpl⟩ := hp
  have hst : StOk H st := hst
  have hpl : PlanOk H pl := hpl
  refine ⟨_, ((pss_cons (ps_set (i := 2) sc__law_name.nd rfl (Or.inl rfl) pe_str)
      (pss_cons (ps_set (i := 3) sc__law_name.nd rfl (Or.inl rfl) (pe_ix ix_str (pv 2) (pe_cl c_law_draw hr (by decide) (by rfl) (pa_cons (pv 0) (pa_cons pe_int pa_nil))) (fun _ _ => rfl)))
      (pss_cons (ps_for PassesOwn.never rfl (pi_range1 rfl B.trange (pa_cons (pe_cl c_law_draw hr (by decide) (by rfl) (pa_cons (pv 0) (pa_cons pe_int pa_nil))) pa_nil)) (pg_name (i := 4) sc__law_name.nd rfl (Or.inl rfl)) (pss_one (ps_set (i := 3) sc__law_name.nd rfl (Or.inl rfl) (pe_op op_addS (pv 3) (pe_ix ix_str (pv 2) (pe_cl c_law_draw hr (by decide) (by rfl) (pa_cons (pv 0) (pa_cons pe_int pa_nil))) (fun _ _ => rfl))))))
      (pss_cons (ps_if (PW.pt (pw_or (pt_cmpR op_in_seq (pv 3) (pe_tup (pa_cons pe_str (pa_cons pe_str (pa_cons pe_str (pa_cons pe_str pa_nil))))) (by rfl)) (pw_or (pt_cmpR op_in_seq (pv 3) (pe_lc (own := [("_law_row", 5)]) (g := gName 5) rfl sc__law_name.nd (pi_list (pe_ix ix_list (pv 1) pe_int (fun _ _ => rfl))) (blkOk_by (own := [("_law_row", 5)]) (N := N__law_name) (sc := defScope (topS 23)) (by decide +kernel)) (fun _ _ _ _ _ => pg_name (i := 5) sc__law_name.nd rfl (Or.inl rfl)) (fun _ _ _ _ _ => pts_nil) (fun _ _ _ _ _ => (pe_ix (ix_tup : IxR _ (rIxT K)) (pv 5) pe_int (fun _ _ => rfl)))) (by rfl)) (pw_or1 (pt_val (pe_cl c_law_is_cell hr (by decide) (by rfl) (pa_cons (pv 3) pa_nil))))))) (pss_one (ps_ret (pe_op op_addS pe_str (pe_slice sl_str (pv 3) (po_some pe_int) po_none)))) pss_nil)
      (pss_one (ps_ret (pv 3)))))))), ?_⟩
  walk_at "go"
  rw [show Str.ofString "ABCDEFGHIJKLMNOPQRSTUVWXYZ0123456789_" = nmSigns from rfl]
  refine d_draw hst (by decide) (by decide) fun k k0 k1 => ?_
  obtain ⟨c, hc, ec⟩ := atI_mem (xs := nmSigns.cps.toList) k0 (by rw [nmSigns_len]; omega)
  refine r_ixS (by rw [nmSigns_len2]; decide) ec ?_
  walk_at "s"
  refine d_draw hst (by decide) (by decide) fun n n0 n1 => ?_
  walk_at "s"
  refine foR (by omega) (by omega) (fun i σ' H' => H' = H ∧ ∃ (x : Str) (o : Option V), FirstCap x ∧ x.length ≤ 1 + i ∧ σ' = [some (.ref st), some (.ref pl), some (.str nmSigns), some (.str x), o, none]) ⟨rfl, _, _, ⟨c, [], rfl, nmSigns_lt c hc⟩, by show 1 ≤ 1; decide, rfl⟩ ?_ ?_
  · rintro i σ' H' hi ⟨rfl, x, o, hx, hl, rfl⟩
    walk_at "s"
    refine d_draw hst (by decide) (by decide) fun k k0 k1 => ?_
    obtain ⟨c, hc, ec⟩ := atI_mem (xs := nmSigns.cps.toList) k0 (by rw [nmSigns_len]; omega)
    refine r_ixS (by rw [nmSigns_len2]; decide) ec ?_
    refine r_catS (sz (by show x.length + 1 ≤ 100000; omega)) ?_
    walk_at "s"
    refine ⟨rfl, _, _, hx.app, ?_, rfl⟩
    rw [Str.length_append]
    show x.length + 1 ≤ _
    omega
  · rintro σ' H' ⟨rfl, x, o, hx, hl, rfl⟩
    have hl9 : x.length ≤ 100 := by omega
    have hZ : ∀ H'', Same H' H'' → tRet (tOp rCatS (tC (.str "Z")) (tSl rSlS (tVar 3) (tPart (tC (.int 1))) tNoPart)) { nx := fun _ H'' => Q .non H'', rt := Q } [some (.ref st), some (.ref pl), some (.str nmSigns), some (.str x), o, none] H'' := fun H'' s => by
      walk_at "s"
      refine r_slS (sz (by omega)) ?_
      refine r_catS (sz (by have := cutS_len x (some 1) none; show 1 + _ ≤ _; omega)) ?_
      exact hq _ _ ⟨s, _, rfl, cap_nm (FirstCap.app ⟨90, [], rfl, by decide⟩)⟩
    walk_at "s"
    refine n_tup (szr rfl) fun p H1 np s1 hp1 => ?_
    refine r_inT (SqT.of hp1) rfl rfl fun b1 => ?_
    walk_at "s"
    refine ib (fun _ => ?_) (fun _ => ?_)
    · walk_at "t"
      exact hZ _ s1
    obtain ⟨a0, a1, ks, ws, m, kv, rows, hpl⟩ := hpl
    have h1 := s1 _ _ hpl.pl
    walk_at "s"
    have hws := hpl.ws.up s1
    refine lcL (SqL.of hws.ws) (by rw [List.length_map]; have := hws.len; omega) ⟨fun i v _ _ => ∃ x : Str, v = .str x, fun _ _ _ _ _ _ _ _ _ _ _ h => h, fun _ => rfl, fun i x H5 hi hx s Q' hQ' => ?_, fun mp H5 ys s5 nmp hmp hy hE => ?_⟩
    · have hx : (rows.map fun r => V.ref r.a)[i]? = some x := hx
      rw [List.getElem?_map] at hx
      obtain ⟨r, hr, rfl⟩ := Option.map_eq_some_iff.mp hx
      have hrow := s _ _ (hws.row r (List.mem_of_getElem? hr)).1
      walk_at "s"
      exact hQ' _ _ (Same.refl _) ⟨_, rfl⟩
    · refine r_inL (SqL.of hmp) rfl (flat_strs fun y hy' => by
        obtain ⟨i, hi⟩ := List.mem_iff_getElem?.mp hy'
        obtain ⟨_, _, h⟩ := hE i y hi
        exact h) fun b2 => ?_
      walk_at "s"
      refine ib (fun _ => ?_) (fun _ => ?_)
      · walk_at "t"
        exact hZ _ (s1.trans s5)
      walk_at "s"
      refine ⟨x, rfl, ⟨hx, hl9⟩, ?_⟩
      rintro _ H6 ⟨b3, rfl, s6⟩
      walk_at "s"
      have s06 := (s1.trans s5).trans s6
      refine ib (fun _ => ?_) (fun _ => ?_)
      · exact hZ _ s06
      · walk_at "s"
        exact hq _ _ ⟨s06, _, rfl, cap_nm hx⟩
end
end Sw

set_option maxHeartbeats 4000000
namespace Sw
open PySem PySem.Spec PyProof.Rows L2 C8
local macro_rules | `(tactic| walk_at "v") => `(tactic| (with_reducible show tVar _ _ _ _; with_unfolding_all refine r_var rfl ?_))
local macro_rules | `(tactic| walk_at "x") => `(tactic| ((first | with_reducible refine r_ixTc (xs := ?xs) (v := ?v) ?hl ?e ?h | with_reducible refine r_ixLc (xs := ?xs) (v := ?v) ?hl ?e ?h); (case hl => first | assumption | exact SqT.of (by assumption) | exact SqL.of (by assumption)); (case e => first | rfl | assumption | exact atI_zero)))
local macro_rules | `(tactic| walk_at "n") => `(tactic| ((first | with_reducible refine r_mod ?hj (fun _ _ _ => ?_) | with_reducible refine r_mul ?hj ?_ | with_reducible refine r_div ?hj ?hd ?_ | with_reducible refine r_pow ?hj ?_); (case hj => first | (with_reducible show (0 : Int) < _; first | decide | omega) | exact ⟨by decide, by decide, by decide⟩ | exact .inr ⟨by decide, by decide⟩ | exact .inl ⟨by decide, by decide⟩ | exact .inl ⟨by omega, by omega⟩ | exact .inr ⟨by omega, by omega⟩); (try case hd => first | decide | omega)))
local macro_rules | `(tactic| walk_at "s0") => `(tactic| first
  | with_reducible refine r_seq ?_ | with_reducible refine r_asg ?_ | ((with_reducible refine r_gname ?_); dsimp only [List.set_cons_succ, List.set_cons_zero, List.set]) | with_reducible refine r_ret ?_ | with_reducible refine r_drop ?_ | with_reducible refine r_if ?_
  | with_reducible refine r_test ?_ | with_reducible refine r_B ?_ | with_reducible refine r_op ?_ | with_reducible refine r_cons ?_ | with_reducible refine r_nil ?_ | with_reducible refine r_c ?_ | walk_at "v"
  | with_reducible refine r_cl ?_ | with_reducible refine r_cb ?_ | with_reducible refine r_I0 ?_ | with_reducible refine r_bl ?_ | ((with_reducible refine r_eq ?hs ?_); (case hs => rfl)) | ((with_reducible refine r_ne ?hs ?_); (case hs => rfl))
  | with_reducible refine r_un ?_ | with_reducible refine r_neg ?_ | with_reducible refine r_int ?_ | with_reducible refine r_intB ?_ | with_reducible refine r_min2 ?_ | with_reducible refine r_max2 ?_
  | with_reducible refine r_tup ?_ | with_reducible refine r_lst ?_ | with_reducible refine r_not ?_ | with_reducible refine r_ifE ?_
  | with_reducible refine r_andV ?_ | with_reducible refine r_orV ?_ | with_reducible refine r_notV ?_ | with_reducible refine r_next ?_ | with_reducible refine r_brk ?_ | with_reducible refine r_for ?_ | with_reducible refine r_slc ?_ | with_reducible refine r_nop ?_ | with_reducible refine r_part ?_ | with_reducible refine r_ei ?_ | with_reducible refine r_bm ?_ | with_reducible refine r_isN ?_ | with_reducible refine r_notN ?_ | with_reducible refine r_m1 ?_ | with_reducible refine r_lc ?_ | with_reducible refine r_rng1 ?_ | with_reducible refine r_rng2 ?_ | with_reducible refine r_ilist ?_ | with_reducible refine r_itup ?_ | with_reducible refine iteT ?_ | with_reducible refine iteF ?_ | with_reducible refine r_sub ?_ | walk_at "n" | walk_at "x")
local macro_rules | `(tactic| walk_at "s1") => `(tactic| first | walk_at "s0" | with_reducible refine r_and ?_ | with_reducible refine r_or ?_)
local macro_rules | `(tactic| walk_at "u") => `(tactic| (try dsimp only); repeat walk_at "s0")
local macro_rules | `(tactic| walk_at "pt") => `(tactic| first
  | ((with_reducible refine r_and2 (a := ?a) (b := ?b) ?h1 ?h2 ?h); (case h1 => intro _ q; walk_at "pt"; exact q); (case h2 => intro _ q; walk_at "pt"; exact q); (try dsimp only))
  | ((with_reducible refine r_or2 (a := ?a) (b := ?b) ?h1 ?h2 ?h); (case h1 => intro _ q; walk_at "pt"; exact q); (case h2 => intro _ q; walk_at "pt"; exact q); (try dsimp only))
  | walk_at "u")
local macro_rules | `(tactic| walk_at "s") => `(tactic| (try dsimp only); repeat walk_at "s1")
local macro_rules | `(tactic| walk_at "go") => `(tactic| (try simp only [cxK, cxK2]); (try simp only [List.map_cons, List.map_nil, List.replicate, List.cons_append, List.nil_append]); walk_at "s")
local macro_rules | `(tactic| walk_at "t") => `(tactic| ((try dsimp only); (try with_reducible refine iteT ?_); (try dsimp only)))

section
variable {P : Program} {w : World} {K : PySem.W.Frag} {mg : Str → Option Value} {base : Heap}
/-! ### _law_filled -/
abbrev N__law_filled : List Str := ["_law_state", "_law_trees", "_law_many", "_law_row", "_law_k"]
theorem sc__law_filled : FnScope N__law_filled ["_law_state", "_law_trees", "_law_many"] (defScope (topS 31)) := ⟨rfl, rfl, rfl, by decide +kernel, rfl, by decide +kernel, by decide +kernel⟩
structure ZF where
  st : Addr
  tr : Addr
  vs : List V
  m : Int
  n : Nat
def spFilled (K : PySem.W.Frag) : Sp := Spc ZF (fun z => [.ref z.st, .ref z.tr, .int z.m]) (fun z H => StOk H z.st ∧ H z.tr = some (.lst z.vs) ∧ (z.vs.length : Int) ≤ z.m ∧ z.m ≤ 100 ∧ ∀ v ∈ z.vs, Tr K (z.n + 1) H v)
  fun z H v H' => Same H H' ∧ ∃ a ws, v = .ref a ∧ H' a = some (.tup ws) ∧ (ws.length : Int) = z.m ∧ ∀ v ∈ ws, Tr K (z.n + 1) H' v
theorem cl_filled (F : Df K mg "_law_filled" 31) (B : Bi mg) (c_law_draw : Cl P w K mg base 2 "_law_draw" spDraw) : Cl P w K mg base 3 "_law_filled" (spFilled K) := by
  refine mk_cl F sc__law_filled (fun _ _ _ _ _ _ us hl => match us, hl with | [_, _, _], _ => rfl) (fun _ => rfl) 2 rfl fun f cdv A outer s H Q z hr hp hq => ?_
  obtain ⟨st, tr, vs, m, n⟩ := z
  obtain ⟨hst, htr, hl, hm, hv⟩ := hp
  dsimp only at hst htr hl hm hv hq
  refine ⟨_, ((pss_cons (ps_set (i := 3) sc__law_filled.nd rfl (Or.inl rfl) (pe_callTy cl_list (by rfl) B.tlist (by decide +kernel) (pa_cons (pv 1) pa_nil)))
      (pss_cons (ps_for PassesOwn.never rfl (pi_range1 rfl B.trange (pa_cons (pe_op op_sub (pv 2) (pe_callB cl_len (by rfl) B.tlen (by decide +kernel) (pa_cons (pv 1) pa_nil))) pa_nil)) (pg_name (i := 4) sc__law_filled.nd rfl (Or.inl rfl)) (pss_one (ps_expr (pe_bm PySem.F.plainAttrs_list PySem.F.slot_list_insert PySem.F.type_list_insert mt_ins (pv 3) (pa_cons (pe_cl c_law_draw hr (by decide) (by rfl) (pa_cons (pv 0) (pa_cons (pe_op op_add (pe_callB cl_len (by rfl) B.tlen (by decide +kernel) (pa_cons (pv 3) pa_nil)) pe_int) pa_nil))) (pa_cons (pe_tup (pa_cons pe_str pa_nil)) pa_nil))))))
      (pss_one (ps_ret (pe_callTy cl_tuple (by rfl) B.ttuple (by decide +kernel) (pa_cons (pv 3) pa_nil))))))), ?_⟩
  walk_at "go"
  refine r_list (.inl (SqL.of htr)) fun l H1 nl s1 hl1 => ?_
  walk_at "s"
  refine r_lenL (SqL.of (s1 _ _ htr)) ?_
  walk_at "s"
  refine foR (by omega) (by omega) (fun i σ' H' => Same H H' ∧ ∃ (ws : List V) (o : Option V), H' l = some (.lst ws) ∧ ws.length = vs.length + i ∧ (∀ v ∈ ws, Tr K (n + 1) H' v) ∧ σ' = [some (.ref st), some (.ref tr), some (.int m), some (.ref l), o]) ⟨s1, _, _, hl1, rfl, fun v hv' => (hv v hv').up s1, rfl⟩ ?_ ?_
  · rintro i σ' H' hi ⟨s, ws, o, hw, hwl, hwt, rfl⟩
    walk_at "s"
    refine ⟨ty_list hw, ?_⟩
    walk_at "s"
    refine r_lenL (SqL.of hw) ?_
    walk_at "s"
    refine d_draw (s.st hst) (by omega) (by omega) fun k k0 k1 => ?_
    walk_at "s"
    refine n_tup (szr rfl) fun p H2 np s2 hp2 => ?_
    walk_at "s"
    have hw2 := s2 _ _ hw
    refine r_ins hw2 (by omega) k0 (by omega) ?_
    have ts := ts_upd (K := K) (o := .lst (ws.take k.toNat ++ [.ref p] ++ ws.drop k.toNat)) hw2
    walk_at "s"
    refine ⟨(s.trans s2).mut nl, _, _, upd_same, ?_, fun v hv' => ?_, rfl⟩
    · simp only [List.length_append, List.length_take, List.length_drop, List.length_singleton]
      omega
    · rcases List.mem_append.mp hv' with hv' | hv'
      · rcases List.mem_append.mp hv' with hv' | hv'
        · exact ((hwt v (List.mem_of_mem_take hv')).up s2).ts ts
        · rw [List.mem_singleton.mp hv']
          exact Tr.ts ts (mk_empty hp2)
      · exact ((hwt v (List.mem_of_mem_drop hv')).up s2).ts ts
  · rintro σ' H' ⟨s, ws, o, hw, hwl, hwt, rfl⟩
    walk_at "s"
    refine r_tupL (SqL.of hw) fun t H3 nt s3 ht => ?_
    refine hq _ _ ⟨s.trans s3, t, ws, rfl, ht, by omega, fun v hv' => (hwt v hv').up s3⟩
/-! ### _law_apply -/
abbrev N__law_apply : List Str := ["_law_state", "_law_trees", "_law_many"]
theorem sc__law_apply : FnScope N__law_apply ["_law_state", "_law_trees"] (defScope (topS 33)) := ⟨rfl, rfl, rfl, by decide +kernel, rfl, by decide +kernel, by decide +kernel⟩
structure ZT where
  st : Addr
  tr : Addr
  vs : List V
  n : Nat
def spApply (K : PySem.W.Frag) : Sp := Spc ZT (fun z => [.ref z.st, .ref z.tr]) (fun z H => StOk H z.st ∧ H z.tr = some (.lst z.vs) ∧ 0 < z.vs.length ∧ z.vs.length ≤ 17 ∧ ∀ v ∈ z.vs, Tr K (z.n + 1) H v)
  fun z H v H' => Same H H' ∧ Tr K (z.n + 2) H' v
theorem cl_apply (F : Df K mg "_law_apply" 33) (B : Bi mg) (c_law_draw : Cl P w K mg base 2 "_law_draw" spDraw) (c_law_filled : Cl P w K mg base 3 "_law_filled" (spFilled K)) : Cl P w K mg base 4 "_law_apply" (spApply K) := by
  refine mk_cl F sc__law_apply (fun _ _ _ _ _ _ us hl => match us, hl with | [_, _], _ => rfl) (fun _ => rfl) 1 rfl fun f cdv A outer s H Q z hr hp hq => ?_
  obtain ⟨st, tr, vs, n⟩ := z
  obtain ⟨hst, htr, h0, hl, hv⟩ := hp
  dsimp only at hst htr h0 hl hv hq
  refine ⟨_, ((pss_cons (ps_set (i := 2) sc__law_apply.nd rfl (Or.inl rfl) (pe_op op_sub (pe_callB cl_len (by rfl) B.tlen (by decide +kernel) (pa_cons (pv 1) pa_nil)) pe_int))
      (C8.pss_cut (ps_if (pt_cmpR op_eq (pe_cl c_law_draw hr (by decide) (by rfl) (pa_cons (pv 0) (pa_cons pe_int pa_nil))) pe_int (nomark _)) (pss_one (ps_set (i := 2) sc__law_apply.nd rfl (Or.inl rfl) (pe_op op_add (pv 2) (pe_cl c_law_draw hr (by decide) (by rfl) (pa_cons (pv 0) (pa_cons (pe_op op_sub pe_int (pv 2)) pa_nil)))))) pss_nil)
      (C8.pss_cut (ps_if (PW.pt (pw_and (pt_cmpR op_eq (pv 2) pe_int (nomark _)) (pw_and1 (pt_cmpR op_eq (pe_callB cl_len (by rfl) B.tlen (by decide +kernel) (pa_cons (pv 1) pa_nil)) pe_int (nomark _))))) (pss_one (ps_set (i := 2) sc__law_apply.nd rfl (Or.inl rfl) pe_int)) pss_nil)
      (pss_one (ps_ret (pe_tup (pa_cons pe_str (pa_cons (pe_ix ix_list (pv 1) pe_int (fun _ _ => rfl)) (pa_cons (pe_cl c_law_filled hr (by decide) (by rfl) (pa_cons (pv 0) (pa_cons (pe_slice sl_list (pv 1) (po_some pe_int) po_none) (pa_cons (pv 2) pa_nil)))) pa_nil)))))))))), ?_⟩
  walk_at "go"
  refine r_lenL (SqL.of htr) ?_
  walk_at "s"
  refine r_cut (Mid := fun σ' H' => ∃ m : Int, (vs.length : Int) - 1 ≤ m ∧ m ≤ 16 ∧ σ' = [some (.ref st), some (.ref tr), some (.int m)] ∧ H' = H) ?_ ?_
  · walk_at "s"
    refine d_draw hst (by decide) (by decide) fun k k0 k1 => ?_
    walk_at "s"
    refine i2 (fun e0 => ?_) (fun e0 => ?_)
    · walk_at "s"
      refine d_draw hst (by omega) (by omega) fun k k0 k1 => ?_
      walk_at "s"
      exact ⟨_, by omega, by omega, rfl, rfl⟩
    · walk_at "s"
      exact ⟨_, by omega, by omega, rfl, rfl⟩
  rintro σ' H' ⟨m, m0, m1, rfl, rfl⟩
  refine r_cut (Mid := fun σ' H1 => ∃ m : Int, (vs.length : Int) - 1 ≤ m ∧ m ≤ 16 ∧ σ' = [some (.ref st), some (.ref tr), some (.int m)] ∧ H1 = H') ?_ ?_
  · walk_at "s"
    refine i2 (fun e0 => ?_) (fun e0 => ?_)
    · walk_at "s"
      refine r_lenL (SqL.of htr) ?_
      walk_at "s"
      refine i2 (fun e0 => ?_) (fun e0 => ?_)
      · walk_at "s"
        have e1 : (vs.length : Int) = 1 := V.int.inj e0
        exact ⟨_, by omega, by omega, rfl, rfl⟩
      · walk_at "s"
        exact ⟨_, by omega, by omega, rfl, rfl⟩
    · walk_at "s"
      exact ⟨_, by omega, by omega, rfl, rfl⟩
  rintro σ' H1 ⟨m, m0, m1, rfl, rfl⟩
  obtain ⟨b, hb, eb⟩ := atI_mem (xs := vs) (x := 0) (by decide) (by omega)
  walk_at "s"
  refine r_slL (SqL.of htr) fun l H2 nl s2 hl2 => ?_
  walk_at "s"
  refine ⟨⟨st, l, _, m, n⟩, rfl, ⟨s2.st hst, hl2, ?_, by show m ≤ 100; omega, fun v hv' => (hv v (mem_cutV hv')).up s2⟩, ?_⟩
  · show ((cutV vs (some 1) none).length : Int) ≤ m
    rw [cut1, List.length_drop]
    omega
  · rintro _ H3 ⟨s3, a, ws, rfl, ha, hwl, hwt⟩
    dsimp only at hwl hwt
    walk_at "s"
    refine n_tup (szr rfl) fun p H4 np s4 hp4 => ?_
    refine hq _ _ ⟨(s2.trans s3).trans s4, mk_apply hp4 (((hv b hb).up s2).up (s3.trans s4)) (SqT.of (s4 _ _ ha)) (by omega) fun v hv' => (hwt v hv').up s4⟩
end
end Sw

set_option maxHeartbeats 4000000
namespace Sw
open PySem PySem.Spec PyProof.Rows L2 C8
local macro_rules | `(tactic| walk_at "v") => `(tactic| (with_reducible show tVar _ _ _ _; with_unfolding_all refine r_var rfl ?_))
local macro_rules | `(tactic| walk_at "x") => `(tactic| ((first | with_reducible refine r_ixTc (xs := ?xs) (v := ?v) ?hl ?e ?h | with_reducible refine r_ixLc (xs := ?xs) (v := ?v) ?hl ?e ?h); (case hl => first | assumption | exact SqT.of (by assumption) | exact SqL.of (by assumption)); (case e => first | rfl | assumption | exact atI_zero)))
local macro_rules | `(tactic| walk_at "n") => `(tactic| ((first | with_reducible refine r_mod ?hj (fun _ _ _ => ?_) | with_reducible refine r_mul ?hj ?_ | with_reducible refine r_div ?hj ?hd ?_ | with_reducible refine r_pow ?hj ?_); (case hj => first | (with_reducible show (0 : Int) < _; first | decide | omega) | exact ⟨by decide, by decide, by decide⟩ | exact .inr ⟨by decide, by decide⟩ | exact .inl ⟨by decide, by decide⟩ | exact .inl ⟨by omega, by omega⟩ | exact .inr ⟨by omega, by omega⟩); (try case hd => first | decide | omega)))
local macro_rules | `(tactic| walk_at "s0") => `(tactic| first
  | with_reducible refine r_seq ?_ | with_reducible refine r_asg ?_ | ((with_reducible refine r_gname ?_); dsimp only [List.set_cons_succ, List.set_cons_zero, List.set]) | with_reducible refine r_ret ?_ | with_reducible refine r_drop ?_ | with_reducible refine r_if ?_
  | with_reducible refine r_test ?_ | with_reducible refine r_B ?_ | with_reducible refine r_op ?_ | with_reducible refine r_cons ?_ | with_reducible refine r_nil ?_ | with_reducible refine r_c ?_ | walk_at "v"
  | with_reducible refine r_cl ?_ | with_reducible refine r_cb ?_ | with_reducible refine r_I0 ?_ | with_reducible refine r_bl ?_ | ((with_reducible refine r_eq ?hs ?_); (case hs => rfl)) | ((with_reducible refine r_ne ?hs ?_); (case hs => rfl))
  | with_reducible refine r_un ?_ | with_reducible refine r_neg ?_ | with_reducible refine r_int ?_ | with_reducible refine r_intB ?_ | with_reducible refine r_min2 ?_ | with_reducible refine r_max2 ?_
  | with_reducible refine r_tup ?_ | with_reducible refine r_lst ?_ | with_reducible refine r_not ?_ | with_reducible refine r_ifE ?_
  | with_reducible refine r_andV ?_ | with_reducible refine r_orV ?_ | with_reducible refine r_notV ?_ | with_reducible refine r_next ?_ | with_reducible refine r_brk ?_ | with_reducible refine r_for ?_ | with_reducible refine r_slc ?_ | with_reducible refine r_nop ?_ | with_reducible refine r_part ?_ | with_reducible refine r_ei ?_ | with_reducible refine r_bm ?_ | with_reducible refine r_isN ?_ | with_reducible refine r_notN ?_ | with_reducible refine r_m1 ?_ | with_reducible refine r_lc ?_ | with_reducible refine r_rng1 ?_ | with_reducible refine r_rng2 ?_ | with_reducible refine r_ilist ?_ | with_reducible refine r_itup ?_ | with_reducible refine iteT ?_ | with_reducible refine iteF ?_ | with_reducible refine r_sub ?_ | walk_at "n" | walk_at "x")
local macro_rules | `(tactic| walk_at "s1") => `(tactic| first | walk_at "s0" | with_reducible refine r_and ?_ | with_reducible refine r_or ?_)
local macro_rules | `(tactic| walk_at "u") => `(tactic| (try dsimp only); repeat walk_at "s0")
local macro_rules | `(tactic| walk_at "pt") => `(tactic| first
  | ((with_reducible refine r_and2 (a := ?a) (b := ?b) ?h1 ?h2 ?h); (case h1 => intro _ q; walk_at "pt"; exact q); (case h2 => intro _ q; walk_at "pt"; exact q); (try dsimp only))
  | ((with_reducible refine r_or2 (a := ?a) (b := ?b) ?h1 ?h2 ?h); (case h1 => intro _ q; walk_at "pt"; exact q); (case h2 => intro _ q; walk_at "pt"; exact q); (try dsimp only))
  | walk_at "u")
local macro_rules | `(tactic| walk_at "s") => `(tactic| (try dsimp only); repeat walk_at "s1")
local macro_rules | `(tactic| walk_at "go") => `(tactic| (try simp only [cxK, cxK2]); (try simp only [List.map_cons, List.map_nil, List.replicate, List.cons_append, List.nil_append]); walk_at "s")
local macro_rules | `(tactic| walk_at "t") => `(tactic| ((try dsimp only); (try with_reducible refine iteT ?_); (try dsimp only)))

section
variable {P : Program} {w : World} {K : PySem.W.Frag} {mg : Str → Option Value} {base : Heap}
theorem Tr.hd {n : Nat} {H : Hp} {v : V} (h : Tr K n H v) : ∃ a k xs, v = .ref a ∧ SqT K H a (.str k :: xs) := by
  obtain ⟨d, h1, h2⟩ := h
  obtain ⟨k, r, rfl⟩ := h2.head
  cases h1 with
  | tup hs hd =>
    cases hd with
    | cons h t =>
      cases h
      exact ⟨_, _, _, rfl, hs⟩
/-! ### _law_let -/
abbrev N__law_let : List Str := ["_law_state", "_law_plan", "_law_trees", "_law_many", "_law_row", "_law_k"]
theorem sc__law_let : FnScope N__law_let ["_law_state", "_law_plan", "_law_trees"] (defScope (topS 34)) := ⟨rfl, rfl, rfl, by decide +kernel, rfl, by decide +kernel, by decide +kernel⟩
structure ZL where
  st : Addr
  pl : Addr
  tr : Addr
  vs : List V
  n : Nat
def spLet (K : PySem.W.Frag) : Sp := Spc ZL (fun z => [.ref z.st, .ref z.pl, .ref z.tr]) (fun z H => StOk H z.st ∧ PlanOk H z.pl ∧ H z.tr = some (.lst z.vs) ∧ z.vs.length ≤ 8 ∧ ∀ v ∈ z.vs, Tr K (z.n + 1) H v)
  fun z H v H' => Same H H' ∧ Tr K (z.n + 2) H' v
theorem cl_let (F : Df K mg "_law_let" 34) (B : Bi mg) (c_law_draw : Cl P w K mg base 2 "_law_draw" spDraw) (c_law_name : Cl P w K mg base 3 "_law_name" spName) (c_law_filled : Cl P w K mg base 3 "_law_filled" (spFilled K)) : Cl P w K mg base 4 "_law_let" (spLet K) := by
  refine mk_cl F sc__law_let (fun _ _ _ _ _ _ us hl => match us, hl with | [_, _, _], _ => rfl) (fun _ => rfl) 3 rfl fun f cdv A outer s H Q z hr hp hq => ?_
  obtain ⟨st, pl, tr, vs, n⟩ := z
  obtain ⟨hst, hpl, htr, hl, hv⟩ := hp
  dsimp only at hst hpl htr hl hv hq
  refine ⟨_, ((pss_cons (ps_set (i := 3) sc__law_let.nd rfl (Or.inl rfl) (pe_callB cl_len (by rfl) B.tlen (by decide +kernel) (pa_cons (pv 2) pa_nil)))
      (C8.pss_cut (ps_if (PW.pt (pw_or (pt_cmpR op_lt (pv 3) pe_int (nomark _)) (pw_or1 (pt_cmpR op_eq (pe_cl c_law_draw hr (by decide) (by rfl) (pa_cons (pv 0) (pa_cons pe_int pa_nil))) pe_int (nomark _))))) (pss_one (ps_set (i := 3) sc__law_let.nd rfl (Or.inl rfl) (pe_callB (cl_max2 rfl) (by rfl) B.tmax (by decide +kernel) (pa_cons pe_int (pa_cons (pe_callTy cl_int (by rfl) B.tint (by decide +kernel) (pa_cons (pe_op op_add (pv 3) (pe_cl c_law_draw hr (by decide) (by rfl) (pa_cons (pv 0) (pa_cons (pe_op op_sub pe_int (pv 3)) pa_nil)))) pa_nil)) pa_nil))))) pss_nil)
      (pss_cons (ps_set (i := 4) sc__law_let.nd rfl (Or.inl rfl) (pe_cl c_law_filled hr (by decide) (by rfl) (pa_cons (pv 0) (pa_cons (pv 2) (pa_cons (pv 3) pa_nil)))))
      (pss_one (ps_ret (pe_tup (pa_cons pe_str (pa_cons (pe_callTy cl_tuple (by rfl) B.ttuple (by decide +kernel) (pa_cons (pe_lc (own := [("_law_k", 5)]) (g := gName 5) rfl sc__law_let.nd (pi_range1 rfl B.trange (pa_cons (pe_op op_sub (pv 3) pe_int) pa_nil)) (blkOk_by (own := [("_law_k", 5)]) (N := N__law_let) (sc := defScope (topS 34)) (by decide +kernel)) (fun _ _ _ _ _ => pg_name (i := 5) sc__law_let.nd rfl (Or.inl rfl)) (fun _ _ _ _ _ => pts_nil) (fun _ _ _ _ _ => (pe_cl c_law_name hr (by decide) (by rfl) (pa_cons (pv 0) (pa_cons (pv 1) pa_nil))))) pa_nil)) (pa_cons (pe_slice sl_tupA (pv 4) po_none (po_some (pe_un un_neg pe_int))) (pa_cons (pe_ix ix_tup (pv 4) (pe_un un_neg pe_int) (fun _ _ => rfl)) pa_nil))))))))))), ?_⟩
  walk_at "go"
  refine r_lenL (SqL.of htr) ?_
  walk_at "s"
  refine r_cut (Mid := fun σ' H' => ∃ m : Int, (vs.length : Int) ≤ m ∧ 2 ≤ m ∧ m ≤ 16 ∧ σ' = [some (.ref st), some (.ref pl), some (.ref tr), some (.int m), none, none] ∧ H' = H) ?_ ?_
  · walk_at "s"
    refine i2 (fun e0 => ?_) (fun e0 => ?_)
    · walk_at "s"
      refine d_draw hst (by omega) (by omega) fun k k0 k1 => ?_
      walk_at "s"
      refine ⟨_, ?_, ?_, ?_, rfl, rfl⟩ <;> (split <;> omega)
    · walk_at "s"
      refine d_draw hst (by omega) (by omega) fun k k0 k1 => ?_
      walk_at "s"
      refine i2 (fun e1 => ?_) (fun e1 => ?_)
      · walk_at "s"
        refine d_draw hst (by omega) (by omega) fun k k0 k1 => ?_
        walk_at "s"
        refine ⟨_, ?_, ?_, ?_, rfl, rfl⟩ <;> (split <;> omega)
      · walk_at "s"
        exact ⟨_, by omega, by omega, by omega, rfl, rfl⟩
  rintro σ' H' ⟨m, m0, m1, m2, rfl, rfl⟩
  walk_at "s"
  refine ⟨⟨st, tr, vs, m, n⟩, rfl, ⟨hst, htr, m0, by show m ≤ 100; omega, hv⟩, ?_⟩
  rintro _ H1 ⟨s1, a, ws, rfl, ha, hwl, hwt⟩
  dsimp only at hwl hwt
  walk_at "s"
  refine lcR (by omega) (by omega) ⟨fun i v _ _ => ∃ x : Str, v = .str x ∧ NmOk x, fun _ _ _ _ _ _ _ _ _ _ _ h => h, fun _ => rfl, fun i x H5 hi hx s Q' hQ' => ?_, fun mp H2 ys s2 nmp hmp hy hE => ?_⟩
  · walk_at "s"
    refine ⟨(st, pl), rfl, ⟨(s1.trans s).st hst, hpl.up (s1.trans s)⟩, ?_⟩
    rintro v H6 ⟨s6, x, rfl, hx⟩
    exact hQ' _ _ s6 ⟨x, rfl, hx⟩
  obtain ⟨ms, rfl, hms⟩ := strs_of (R := NmOk) fun y hy' => by
    obtain ⟨i, hi⟩ := List.mem_iff_getElem?.mp hy'
    obtain ⟨_, _, h⟩ := hE i y hi
    exact h
  walk_at "s"
  refine r_tupL (SqL.of hmp) fun t1 H3 nt1 s3 ht1 => ?_
  have ha3 := (s2.trans s3) _ _ ha
  have s03 := (s1.trans s2).trans s3
  have hwt3 : ∀ v ∈ ws, Tr K (n + 1) H3 v := fun v hv => (hwt v hv).up (s2.trans s3)
  obtain ⟨b, hb, eb⟩ := atI_neg1 (xs := ws) (by omega)
  have key : ∀ (t2 : Addr) (us : List V) (H4 : Hp), Same H3 H4 → H4 t2 = some (.tup us) → us.length ≤ 1000 → (∀ v ∈ us, v ∈ ws) → ∀ (p : Addr) (H5 : Hp), Same H4 H5 → H5 p = some (.tup [.str "let", .ref t1, .ref t2, b]) → Q (.ref p) H5 := fun t2 us H4 s4 ht2 hu hm p H5 s5 hp5 =>
    hq _ _ ⟨(s03.trans s4).trans s5, mk_let hp5 (SqT.of (s5 _ _ (s4 _ _ ht1))) hms (SqT.of (s5 _ _ ht2)) hu (fun v hv => (hwt3 v (hm v hv)).up (s4.trans s5)) ((hwt3 b hb).up (s4.trans s5))⟩
  walk_at "s"
  refine r_slA (SqT.of ha3) ?_ fun t2 H4 nt2 s4 ht2 => ?_
  · walk_at "s"
    refine n_tup (szr rfl) fun p H5 np s5 hp5 => ?_
    exact key a ws H3 (Same.refl _) ha3 (by omega) (fun v h => h) p H5 s5 hp5
  · have ha4 := s4 _ _ ha3
    walk_at "s"
    refine n_tup (szr rfl) fun p H5 np s5 hp5 => ?_
    exact key t2 _ H4 s4 ht2 (by have := cutV_length ws none (some (-1)); omega) (fun v h => mem_cutV h) p H5 s5 hp5
/-! ### _law_lambda -/
abbrev N__law_lambda : List Str := ["_law_state", "_law_plan", "_law_body", "_law_words_here", "_law_k", "_law_word"]
theorem sc__law_lambda : FnScope N__law_lambda ["_law_state", "_law_plan", "_law_body"] (defScope (topS 35)) := ⟨rfl, rfl, rfl, by decide +kernel, rfl, by decide +kernel, by decide +kernel⟩
def spLambda (K : PySem.W.Frag) : Sp := Spc (Addr × Addr × V × Nat) (fun z => [.ref z.1, .ref z.2.1, z.2.2.1]) (fun z H => StOk H z.1 ∧ PlanOk H z.2.1 ∧ Tr K (z.2.2.2 + 1) H z.2.2.1)
  fun z H v H' => Same H H' ∧ Tr K (z.2.2.2 + 2) H' v
theorem cl_lambda (F : Df K mg "_law_lambda" 35) (B : Bi mg) (c_law_draw : Cl P w K mg base 2 "_law_draw" spDraw) (c_law_name : Cl P w K mg base 3 "_law_name" spName) : Cl P w K mg base 4 "_law_lambda" (spLambda K) := by
  refine mk_cl F sc__law_lambda (fun _ _ _ _ _ _ us hl => match us, hl with | [_, _, _], _ => rfl) (fun _ => rfl) 3 rfl fun f cdv A outer s H Q z hr hp hq => ?_
  obtain ⟨st, pl, bv, n⟩ := z
  obtain ⟨hst, hpl, hb⟩ := hp
  dsimp only at hst hpl hb hq
  obtain ⟨ba, bk, bx, rfl, hbs⟩ := hb.hd
  refine ⟨_, ((pss_cons (ps_set (i := 3) sc__law_lambda.nd rfl (Or.inl rfl) (pe_lst pa_nil))
      (pss_cons (ps_for PassesOwn.never rfl (pi_range1 rfl B.trange (pa_cons (pe_cl c_law_draw hr (by decide) (by rfl) (pa_cons (pv 0) (pa_cons pe_int pa_nil))) pa_nil)) (pg_name (i := 4) sc__law_lambda.nd rfl (Or.inl rfl)) (pss_cons (ps_set (i := 5) sc__law_lambda.nd rfl (Or.inl rfl) (pe_cl c_law_name hr (by decide) (by rfl) (pa_cons (pv 0) (pa_cons (pv 1) pa_nil))))
      (pss_one (ps_if (pt_cmpR op_notIn_seq (pv 5) (pv 3) (by rfl)) (pss_one (ps_expr (pe_bm PySem.F.plainAttrs_list PySem.F.slot_list_append PySem.F.type_list_append mt_append (pv 3) (pa_cons (pv 5) pa_nil)))) pss_nil))))
      (C8.pss_cut (ps_if (PW.pt (pw_and (pt_cmpR op_eq (pe_callB cl_len (by rfl) B.tlen (by decide +kernel) (pa_cons (pv 3) pa_nil)) pe_int (nomark _)) (pw_and1 (pt_cmpR op_eq (pe_ix ix_tup (pv 2) pe_int (fun _ _ => rfl)) pe_str (nomark _))))) (pss_one (ps_expr (pe_bm PySem.F.plainAttrs_list PySem.F.slot_list_append PySem.F.type_list_append mt_append (pv 3) (pa_cons (pe_cl c_law_name hr (by decide) (by rfl) (pa_cons (pv 0) (pa_cons (pv 1) pa_nil))) pa_nil)))) pss_nil)
      (pss_one (ps_ret (pe_tup (pa_cons pe_str (pa_cons (pe_callTy cl_tuple (by rfl) B.ttuple (by decide +kernel) (pa_cons (pv 3) pa_nil)) (pa_cons (pv 2) pa_nil)))))))))), ?_⟩
  walk_at "go"
  refine n_lst (szr rfl) fun l H1 nl s1 hl1 => ?_
  walk_at "s"
  refine d_draw (s1.st hst) (by decide) (by decide) fun k k0 k1 => ?_
  walk_at "s"
  have step : ∀ {H2 : Hp} {ms : List Str} {x : Str}, H2 l = some (.lst (ms.map V.str)) → Same H H2 → upd H2 l (.lst (ms.map V.str ++ [.str x])) l = some (.lst ((ms ++ [x]).map V.str)) ∧ Same H (upd H2 l (.lst (ms.map V.str ++ [.str x]))) := fun h s => ⟨by rw [upd_same, List.map_append]; rfl, s.mut nl⟩
  refine foR (by omega) (by omega) (fun i σ' H' => Same H H' ∧ ∃ (ms : List Str) (o1 o2 : Option V), H' l = some (.lst (ms.map V.str)) ∧ ms.length ≤ i ∧ (∀ m ∈ ms, NmOk m) ∧ σ' = [some (.ref st), some (.ref pl), some (.ref ba), some (.ref l), o1, o2]) ⟨s1, [], _, _, hl1, Nat.le_refl _, fun _ h => (by cases h), rfl⟩ ?_ ?_
  · rintro i σ' H' hi ⟨s, ms, o1, o2, hl, hz, hm, rfl⟩
    walk_at "s"
    refine ⟨(st, pl), rfl, ⟨s.st hst, hpl.up s⟩, ?_⟩
    rintro v H6 ⟨s6, x, rfl, hx⟩
    have hl6 := s6 _ _ hl
    walk_at "s"
    refine r_inL (SqL.of hl6) rfl (flat_strs fun y hy => by obtain ⟨x, _, rfl⟩ := List.mem_map.mp hy; exact ⟨x, rfl⟩) fun b => ?_
    walk_at "s"
    refine ib (fun _ => ?_) (fun _ => ?_)
    · walk_at "s"
      refine ⟨ty_list hl6, ?_⟩
      walk_at "s"
      refine r_app hl6 (by rw [List.length_map]; omega) ?_
      obtain ⟨h1, h2⟩ := step (x := x) hl6 (s.trans s6)
      walk_at "s"
      refine ⟨h2, ms ++ [x], _, _, h1, by simp only [List.length_append, List.length_singleton]; omega, fun m hm' => ?_, rfl⟩
      rcases List.mem_append.mp hm' with h | h
      · exact hm m h
      · rw [List.mem_singleton.mp h]; exact hx
    · walk_at "s"
      exact ⟨s.trans s6, ms, _, _, hl6, by omega, hm, rfl⟩
  · rintro σ' H' ⟨s, ms, o1, o2, hl, hz, hm, rfl⟩
    refine r_cut (Mid := fun σ2 H2 => Same H H2 ∧ ∃ ms : List Str, H2 l = some (.lst (ms.map V.str)) ∧ (∀ m ∈ ms, NmOk m) ∧ σ2 = [some (.ref st), some (.ref pl), some (.ref ba), some (.ref l), o1, o2]) ?_ ?_
    · walk_at "s"
      refine r_lenL (SqL.of hl) ?_
      walk_at "s"
      refine i2 (fun e0 => ?_) (fun e0 => by walk_at "s"; exact ⟨s, ms, hl, hm, rfl⟩)
      have hbs' := Same.seqT s hbs
      walk_at "s"
      refine i2 (fun e0 => ?_) (fun e0 => by walk_at "s"; exact ⟨s, ms, hl, hm, rfl⟩)
      walk_at "s"
      refine ⟨ty_list hl, ?_⟩
      walk_at "s"
      refine ⟨(st, pl), rfl, ⟨s.st hst, hpl.up s⟩, ?_⟩
      rintro v H6 ⟨s6, x, rfl, hx⟩
      have hl6 := s6 _ _ hl
      walk_at "s"
      refine r_app hl6 (by rw [List.length_map]; omega) ?_
      obtain ⟨h1, h2⟩ := step (x := x) hl6 (s.trans s6)
      walk_at "s"
      refine ⟨h2, ms ++ [x], h1, fun m hm' => ?_, rfl⟩
      rcases List.mem_append.mp hm' with h | h
      · exact hm m h
      · rw [List.mem_singleton.mp h]; exact hx
    · rintro σ2 H2 ⟨s2, ms, hl2, hm, rfl⟩
      walk_at "s"
      refine r_tupL (SqL.of hl2) fun t H3 nt s3 ht => ?_
      walk_at "s"
      refine n_tup (szr rfl) fun p H4 np s4 hp4 => ?_
      exact hq _ _ ⟨(s2.trans s3).trans s4, mk_lambda hp4 (SqT.of (s4 _ _ ht)) hm (hb.up ((s2.trans s3).trans s4))⟩
end
end Sw

set_option maxHeartbeats 4000000
namespace Sw
open PySem PySem.Spec PyProof.Rows L2 C8
local macro_rules | `(tactic| walk_at "v") => `(tactic| (with_reducible show tVar _ _ _ _; with_unfolding_all refine r_var rfl ?_))
local macro_rules | `(tactic| walk_at "x") => `(tactic| ((first | with_reducible refine r_ixTc (xs := ?xs) (v := ?v) ?hl ?e ?h | with_reducible refine r_ixLc (xs := ?xs) (v := ?v) ?hl ?e ?h); (case hl => first | assumption | exact SqT.of (by assumption) | exact SqL.of (by assumption)); (case e => first | rfl | assumption | exact atI_zero)))
local macro_rules | `(tactic| walk_at "n") => `(tactic| ((first | with_reducible refine r_mod ?hj (fun _ _ _ => ?_) | with_reducible refine r_mul ?hj ?_ | with_reducible refine r_div ?hj ?hd ?_ | with_reducible refine r_pow ?hj ?_); (case hj => first | (with_reducible show (0 : Int) < _; first | decide | omega) | exact ⟨by decide, by decide, by decide⟩ | exact .inr ⟨by decide, by decide⟩ | exact .inl ⟨by decide, by decide⟩ | exact .inl ⟨by omega, by omega⟩ | exact .inr ⟨by omega, by omega⟩); (try case hd => first | decide | omega)))
local macro_rules | `(tactic| walk_at "s0") => `(tactic| first
  | with_reducible refine r_seq ?_ | with_reducible refine r_asg ?_ | ((with_reducible refine r_gname ?_); dsimp only [List.set_cons_succ, List.set_cons_zero, List.set]) | with_reducible refine r_ret ?_ | with_reducible refine r_drop ?_ | with_reducible refine r_if ?_
  | with_reducible refine r_test ?_ | with_reducible refine r_B ?_ | with_reducible refine r_op ?_ | with_reducible refine r_cons ?_ | with_reducible refine r_nil ?_ | with_reducible refine r_c ?_ | walk_at "v"
  | with_reducible refine r_cl ?_ | with_reducible refine r_cb ?_ | with_reducible refine r_I0 ?_ | with_reducible refine r_bl ?_ | ((with_reducible refine r_eq ?hs ?_); (case hs => rfl)) | ((with_reducible refine r_ne ?hs ?_); (case hs => rfl))
  | with_reducible refine r_un ?_ | with_reducible refine r_neg ?_ | with_reducible refine r_int ?_ | with_reducible refine r_intB ?_ | with_reducible refine r_min2 ?_ | with_reducible refine r_max2 ?_
  | with_reducible refine r_tup ?_ | with_reducible refine r_lst ?_ | with_reducible refine r_not ?_ | with_reducible refine r_ifE ?_
  | with_reducible refine r_andV ?_ | with_reducible refine r_orV ?_ | with_reducible refine r_notV ?_ | with_reducible refine r_next ?_ | with_reducible refine r_brk ?_ | with_reducible refine r_for ?_ | with_reducible refine r_slc ?_ | with_reducible refine r_nop ?_ | with_reducible refine r_part ?_ | with_reducible refine r_ei ?_ | with_reducible refine r_bm ?_ | with_reducible refine r_isN ?_ | with_reducible refine r_notN ?_ | with_reducible refine r_m1 ?_ | with_reducible refine r_lc ?_ | with_reducible refine r_rng1 ?_ | with_reducible refine r_rng2 ?_ | with_reducible refine r_ilist ?_ | with_reducible refine r_itup ?_ | with_reducible refine iteT ?_ | with_reducible refine iteF ?_ | with_reducible refine r_sub ?_ | walk_at "n" | walk_at "x")
local macro_rules | `(tactic| walk_at "s1") => `(tactic| first | walk_at "s0" | with_reducible refine r_and ?_ | with_reducible refine r_or ?_)
local macro_rules | `(tactic| walk_at "u") => `(tactic| (try dsimp only); repeat walk_at "s0")
local macro_rules | `(tactic| walk_at "pt") => `(tactic| first
  | ((with_reducible refine r_and2 (a := ?a) (b := ?b) ?h1 ?h2 ?h); (case h1 => intro _ q; walk_at "pt"; exact q); (case h2 => intro _ q; walk_at "pt"; exact q); (try dsimp only))
  | ((with_reducible refine r_or2 (a := ?a) (b := ?b) ?h1 ?h2 ?h); (case h1 => intro _ q; walk_at "pt"; exact q); (case h2 => intro _ q; walk_at "pt"; exact q); (try dsimp only))
  | walk_at "u")
local macro_rules | `(tactic| walk_at "s") => `(tactic| (try dsimp only); repeat walk_at "s1")
local macro_rules | `(tactic| walk_at "go") => `(tactic| (try simp only [cxK, cxK2]); (try simp only [List.map_cons, List.map_nil, List.replicate, List.cons_append, List.nil_append]); walk_at "s")
local macro_rules | `(tactic| walk_at "t") => `(tactic| ((try dsimp only); (try with_reducible refine iteT ?_); (try dsimp only)))

section
variable {P : Program} {w : World} {K : PySem.W.Frag} {mg : Str → Option Value} {base : Heap}
/-! ### _law_call -/
abbrev N__law_call : List Str := ["_law_state", "_law_plan", "_law_trees", "_law_start_here", "_law_many", "_law_word", "_law_k"]
theorem sc__law_call : FnScope N__law_call ["_law_state", "_law_plan", "_law_trees"] (defScope (topS 32)) := ⟨rfl, rfl, rfl, by decide +kernel, rfl, by decide +kernel, by decide +kernel⟩
def spCall (K : PySem.W.Frag) : Sp := Spc ZL (fun z => [.ref z.st, .ref z.pl, .ref z.tr]) (fun z H => StOk H z.st ∧ PlanOk H z.pl ∧ H z.tr = some (.lst z.vs) ∧ z.vs.length ≤ 16 ∧ ∀ v ∈ z.vs, Tr K (z.n + 1) H v)
  fun z H v H' => Same H H' ∧ Tr K (z.n + 2) H' v
theorem cyc {N s t : Nat} (hN : 0 < N) (ht : t < N) (hs : s < N) : ∃ j, j < N ∧ (s + j) % N = t := by
  by_cases h : s ≤ t
  · exact ⟨t - s, by omega, by rw [show s + (t - s) = t by omega]; exact Nat.mod_eq_of_lt ht⟩
  · exact ⟨t + N - s, by omega, by rw [show s + (t + N - s) = t + N by omega, Nat.add_mod_right]; exact Nat.mod_eq_of_lt ht⟩
theorem row_at {rows : List Rw} {k : Nat} {r : Rw} (h : rows[k]? = some r) : atI (rows.map fun r => V.ref r.a) (k : Int) = some (.ref r.a) := atI_nat (by rw [List.getElem?_map, h]; rfl)
theorem cl_call (F : Df K mg "_law_call" 32) (B : Bi mg) (c_law_draw : Cl P w K mg base 2 "_law_draw" spDraw) (c_law_filled : Cl P w K mg base 3 "_law_filled" (spFilled K)) : Cl P w K mg base 4 "_law_call" (spCall K) := by
  refine mk_cl F sc__law_call (fun _ _ _ _ _ _ us hl => match us, hl with | [_, _, _], _ => rfl) (fun _ => rfl) 4 rfl fun f cdv A outer s H Q z hr hp hq => ?_
  obtain ⟨st, pl, tr, vs, n⟩ := z
  obtain ⟨hst, ⟨a0, a1, ks, ws, pm, kv, rows, hpl⟩, htr, hl, hv⟩ := hp
  dsimp only at hst hpl htr hl hv hq
  have h1 := hpl.pl
  have h2 := hpl.ws.ws
  obtain ⟨top, htop, htop16⟩ := hpl.ws.top
  have hN : 0 < rows.length := List.length_pos_of_mem htop
  have hNl := hpl.ws.len
  have eN : ((rows.map fun r => V.ref r.a).length : Int) = (rows.length : Int) := by rw [List.length_map]
  refine ⟨_, ((pss_cons (ps_set (i := 3) sc__law_call.nd rfl (Or.inl rfl) (pe_cl c_law_draw hr (by decide) (by rfl) (pa_cons (pv 0) (pa_cons (pe_callB cl_len (by rfl) B.tlen (by decide +kernel) (pa_cons (pe_ix ix_list (pv 1) pe_int (fun _ _ => rfl)) pa_nil)) pa_nil))))
      (pss_cons (ps_set (i := 4) sc__law_call.nd rfl (Or.inl rfl) (pe_callB cl_len (by rfl) B.tlen (by decide +kernel) (pa_cons (pv 2) pa_nil)))
      (C8.pss_cut (ps_if (pt_cmpR op_eq (pv 4) pe_int (nomark _)) (pss_one (ps_set (i := 4) sc__law_call.nd rfl (Or.inl rfl) pe_int)) pss_nil)
      (pss_cons (ps_set (i := 5) sc__law_call.nd rfl (Or.inl rfl) (pe_ix ix_list (pe_ix ix_list (pv 1) pe_int (fun _ _ => rfl)) (pv 3) (fun _ _ => rfl)))
      (pss_cons (ps_for PassesOwn.never rfl (pi_range1 rfl B.trange (pa_cons (pe_callB cl_len (by rfl) B.tlen (by decide +kernel) (pa_cons (pe_ix ix_list (pv 1) pe_int (fun _ _ => rfl)) pa_nil)) pa_nil)) (pg_name (i := 6) sc__law_call.nd rfl (Or.inl rfl)) (pss_cons (ps_if (pt_cmpR op_ge (pe_ix ix_tup (pv 5) pe_int (fun _ _ => rfl)) (pv 4) (nomark _)) (pss_one ps_break) pss_nil)
      (pss_one (ps_set (i := 5) sc__law_call.nd rfl (Or.inl rfl) (pe_ix ix_list (pe_ix ix_list (pv 1) pe_int (fun _ _ => rfl)) (pe_op op_mod (pe_callTy cl_int (by rfl) B.tint (by decide +kernel) (pa_cons (pe_op op_add (pe_op op_add (pv 3) (pv 6)) pe_int) pa_nil)) (pe_callB cl_len (by rfl) B.tlen (by decide +kernel) (pa_cons (pe_ix ix_list (pv 1) pe_int (fun _ _ => rfl)) pa_nil))) (fun _ _ => rfl))))))
      (pss_cons (ps_set (i := 4) sc__law_call.nd rfl (Or.inl rfl) (pe_callB (cl_max2 rfl) (by rfl) B.tmax (by decide +kernel) (pa_cons (pe_callTy cl_int (by rfl) B.tint (by decide +kernel) (pa_cons (pe_ix ix_tup (pv 5) pe_int (fun _ _ => rfl)) pa_nil)) (pa_cons (pe_callTy cl_int (by rfl) B.tint (by decide +kernel) (pa_cons (pv 4) pa_nil)) pa_nil))))
      (C8.pss_cut (ps_if (pt_cmpR op_eq (pe_cl c_law_draw hr (by decide) (by rfl) (pa_cons (pv 0) (pa_cons pe_int pa_nil))) pe_int (nomark _)) (pss_one (ps_set (i := 4) sc__law_call.nd rfl (Or.inl rfl) (pe_op op_add (pv 4) (pe_cl c_law_draw hr (by decide) (by rfl) (pa_cons (pv 0) (pa_cons (pe_op op_add (pe_op op_sub (pe_ix ix_tup (pv 5) pe_int (fun _ _ => rfl)) (pv 4)) pe_int) pa_nil)))))) pss_nil)
      (pss_one (ps_ret (pe_tup (pa_cons pe_str (pa_cons (pe_ix ix_tup (pv 5) pe_int (fun _ _ => rfl)) (pa_cons (pe_cl c_law_filled hr (by decide) (by rfl) (pa_cons (pv 0) (pa_cons (pv 2) (pa_cons (pv 4) pa_nil)))) pa_nil)))))))))))))), ?_⟩
  walk_at "go"
  refine r_lenL (SqL.of h2) ?_
  rw [eN]
  walk_at "s"
  refine d_draw hst (by omega) (by omega) fun k k0 k1 => ?_
  obtain ⟨s, rfl⟩ := Int.eq_ofNat_of_zero_le k0
  walk_at "s"
  refine r_lenL (SqL.of htr) ?_
  walk_at "s"
  refine r_cut (Mid := fun σ' H' => ∃ m : Int, (vs.length : Int) ≤ m ∧ m ≤ 16 ∧ σ' = [some (.ref st), some (.ref pl), some (.ref tr), some (.int s), some (.int m), none, none] ∧ H' = H) ?_ ?_
  · walk_at "s"
    refine i2 (fun e0 => ?_) (fun e0 => ?_)
    · walk_at "s"
      have e0 : (vs.length : Int) = 0 := V.int.inj e0
      exact ⟨_, by omega, by omega, rfl, rfl⟩
    · walk_at "s"
      exact ⟨_, by omega, by omega, rfl, rfl⟩
  rintro σ' H' ⟨m, m0, m1, rfl, rfl⟩
  have hs : s < rows.length := by omega
  walk_at "s"
  refine r_ixLc (SqL.of h2) (row_at (List.getElem?_eq_getElem hs)) ?_
  walk_at "s"
  refine r_lenL (SqL.of h2) ?_
  rw [eN]
  walk_at "s"
  refine foR (by omega) (by omega) (fun i σ1 H1 => H1 = H' ∧ ∃ (r : Rw) (o : Option V), rows[(s + i) % rows.length]? = some r ∧ (∀ j, j < i → ∀ q, rows[(s + j) % rows.length]? = some q → q.hi < m) ∧ σ1 = [some (.ref st), some (.ref pl), some (.ref tr), some (.int s), some (.int m), some (.ref r.a), o]) ⟨rfl, _, _, by rw [Nat.add_zero, Nat.mod_eq_of_lt hs]; exact List.getElem?_eq_getElem hs, fun j hj => absurd hj (Nat.not_lt_zero _), rfl⟩ ?_ ?_
  · rintro i σ1 H1 hi ⟨rfl, r, o, hr, hj, rfl⟩
    obtain ⟨hra, r0, r1, r2⟩ := hpl.ws.row r (List.mem_of_getElem? hr)
    walk_at "s"
    refine i2 (fun e0 => ?_) (fun e0 => ?_)
    · -- found
      walk_at "s"
      refine r_cut (Mid := fun σ2 H2 => ∃ m : Int, (vs.length : Int) ≤ m ∧ m ≤ 16 ∧ σ2 = [some (.ref st), some (.ref pl), some (.ref tr), some (.int s), some (.int m), some (.ref r.a), some (.int ((0 : Int) + (i : Int)))] ∧ H2 = H1) ?_ ?_
      · walk_at "s"
        refine d_draw hst (by omega) (by omega) fun k k0 k1 => ?_
        walk_at "s"
        refine i2 (fun e1 => ?_) (fun e1 => ?_)
        · walk_at "s"
          refine d_draw hst (by split <;> omega) (by split <;> omega) fun k k0 k1 => ?_
          walk_at "s"
          refine ⟨_, ?_, ?_, rfl, rfl⟩
          · split <;> omega
          · split at k1 <;> split <;> omega
        · walk_at "s"
          refine ⟨_, ?_, ?_, rfl, rfl⟩ <;> (split <;> omega)
      · rintro σ2 H2 ⟨m3, n0, n1, rfl, rfl⟩
        walk_at "s"
        refine ⟨⟨st, tr, vs, m3, n⟩, rfl, ⟨hst, htr, n0, by show m3 ≤ 100; omega, hv⟩, ?_⟩
        rintro _ H3 ⟨s3, a, us, rfl, ha, hwl, hwt⟩
        dsimp only at hwl hwt
        walk_at "s"
        refine n_tup (szr rfl) fun p H4 np s4 hp4 => ?_
        exact hq _ _ ⟨s3.trans s4, mk_call hp4 (SqT.of (s4 _ _ ha)) (by omega) fun v hv' => (hwt v hv').up s4⟩
    · -- the next row
      have hlt : (s + (i + 1)) % rows.length < rows.length := Nat.mod_lt _ hN
      walk_at "s"
      refine r_lenL (SqL.of h2) ?_
      rw [eN]
      refine r_I (show (0 : Int) < (rows.length : Int) by omega) ?_
      have ei : ((s : Int) + (0 + (i : Int)) + 1) % (rows.length : Int) = (((s + (i + 1)) % rows.length : Nat) : Int) := by
        rw [show (s : Int) + (0 + (i : Int)) + 1 = ((s + (i + 1) : Nat) : Int) by omega]
        rfl
      rw [ei]
      refine r_ixLc (SqL.of h2) (row_at (List.getElem?_eq_getElem hlt)) ?_
      walk_at "s"
      refine ⟨rfl, _, _, List.getElem?_eq_getElem hlt, fun j hj' q hq' => ?_, rfl⟩
      by_cases hji : j < i
      · exact hj j hji q hq'
      · have : j = i := by omega
        subst this
        rw [hr] at hq'
        cases hq'
        omega
  · rintro σ1 H1 ⟨rfl, r, o, hr, hj, rfl⟩
    obtain ⟨t, ht, et⟩ := List.mem_iff_getElem.mp htop
    obtain ⟨j, hjN, ej⟩ := cyc hN ht hs
    have := hj j (by omega) top (by rw [ej, List.getElem?_eq_getElem ht, et])
    omega
/-! ### _law_node -/
abbrev N__law_node : List Str := ["_law_state", "_law_plan", "_law_trees", "_law_many", "_law_kind", "_law_signs_here"]
theorem sc__law_node : FnScope N__law_node ["_law_state", "_law_plan", "_law_trees"] (defScope (topS 36)) := ⟨rfl, rfl, rfl, by decide +kernel, rfl, by decide +kernel, by decide +kernel⟩
def spNode (K : PySem.W.Frag) : Sp := Spc ZL (fun z => [.ref z.st, .ref z.pl, .ref z.tr]) (fun z H => StOk H z.st ∧ PlanOk H z.pl ∧ H z.tr = some (.lst z.vs) ∧ 0 < z.vs.length ∧ z.vs.length ≤ 17 ∧ ∀ v ∈ z.vs, Tr K (z.n + 1) H v)
  fun z H v H' => Same H H' ∧ Tr K (z.n + 2) H' v
theorem r_ixV {H : Hp} {Q : VK} {l : Addr} {vs : List V} {j : Nat} {v : V} (h : H l = some (.lst vs)) (e : vs[j]? = some v) (k : Q v H) : rIxL K (.ref l) (.int (j : Nat)) H Q := ⟨l, vs, _, v, rfl, rfl, SqL.of h, atI_nat e, k⟩
theorem cl_node (F : Df K mg "_law_node" 36) (B : Bi mg) (c_law_draw : Cl P w K mg base 2 "_law_draw" spDraw) (c_law_apply : Cl P w K mg base 4 "_law_apply" (spApply K)) (c_law_call : Cl P w K mg base 4 "_law_call" (spCall K)) (c_law_lambda : Cl P w K mg base 4 "_law_lambda" (spLambda K)) (c_law_let : Cl P w K mg base 4 "_law_let" (spLet K)) : Cl P w K mg base 5 "_law_node" (spNode K) := by
  refine mk_cl F sc__law_node (fun _ _ _ _ _ _ us hl => match us, hl with | [_, _, _], _ => rfl) (fun _ => rfl) 3 rfl fun f cdv A outer s H Q z hr hp hq => ?_
  obtain ⟨st, pl, tr, vs, n⟩ := z
  obtain ⟨hst, hpl, htr, h0, hl, hv⟩ := hp
  dsimp only at hst hpl htr h0 hl hv hq
  -- the ends
  have eL : vs.length ≤ 8 → spLet K [.ref st, .ref pl, .ref tr] H Q L2.E0 := fun h => ⟨⟨st, pl, tr, vs, n⟩, rfl, ⟨hst, hpl, htr, h, hv⟩, hq⟩
  have eA : spApply K [.ref st, .ref tr] H Q L2.E0 := ⟨⟨st, tr, vs, n⟩, rfl, ⟨hst, htr, h0, hl, hv⟩, hq⟩
  have eC : vs.length ≤ 16 → spCall K [.ref st, .ref pl, .ref tr] H Q L2.E0 := fun h => ⟨⟨st, pl, tr, vs, n⟩, rfl, ⟨hst, hpl, htr, h, hv⟩, hq⟩
  refine ⟨_, ((pss_cons (ps_set (i := 3) sc__law_node.nd rfl (Or.inl rfl) (pe_callB cl_len (by rfl) B.tlen (by decide +kernel) (pa_cons (pv 2) pa_nil)))
      (pss_cons (ps_set (i := 4) sc__law_node.nd rfl (Or.inl rfl) (pe_cl c_law_draw hr (by decide) (by rfl) (pa_cons (pv 0) (pa_cons pe_int pa_nil))))
      (pss_cons (ps_if (PW.pt (pw_and (pt_cmpR op_lt (pv 4) pe_int (nomark _)) (pw_and1 (pt_cmpR op_eq (pv 3) pe_int (nomark _))))) (pss_one (ps_ret (pe_tup (pa_cons pe_str (pa_cons (pe_ix ix_str pe_str (pe_cl c_law_draw hr (by decide) (by rfl) (pa_cons (pv 0) (pa_cons pe_int pa_nil))) (fun _ _ => rfl)) (pa_cons (pe_ix ix_list (pv 2) pe_int (fun _ _ => rfl)) pa_nil)))))) pss_nil)
      (pss_cons (ps_if (PW.pt (pw_and (pt_cmpR op_lt (pv 4) pe_int (nomark _)) (pw_and1 (pt_cmpR op_eq (pv 3) pe_int (nomark _))))) (pss_cons (ps_set (i := 5) sc__law_node.nd rfl (Or.inl rfl) (pe_lst (pa_cons pe_str (pa_cons pe_str (pa_cons pe_str (pa_cons pe_str (pa_cons pe_str (pa_cons pe_str (pa_cons pe_str (pa_cons pe_str (pa_cons pe_str (pa_cons pe_str (pa_cons pe_str (pa_cons pe_str pa_nil))))))))))))))
      (pss_one (ps_ret (pe_tup (pa_cons pe_str (pa_cons (pe_ix ix_list (pv 5) (pe_cl c_law_draw hr (by decide) (by rfl) (pa_cons (pv 0) (pa_cons pe_int pa_nil))) (fun _ _ => rfl)) (pa_cons (pe_ix ix_list (pv 2) pe_int (fun _ _ => rfl)) (pa_cons (pe_ix ix_list (pv 2) pe_int (fun _ _ => rfl)) pa_nil)))))))) pss_nil)
      (pss_cons (ps_if (PW.pt (pw_and (pt_cmpR op_eq (pv 4) pe_int (nomark _)) (pw_and1 (pt_cmpR op_eq (pv 3) pe_int (nomark _))))) (pss_one (ps_ret (pe_cl c_law_lambda hr (by decide) (by rfl) (pa_cons (pv 0) (pa_cons (pv 1) (pa_cons (pe_ix ix_list (pv 2) pe_int (fun _ _ => rfl)) pa_nil)))))) pss_nil)
      (pss_cons (ps_if (PW.pt (pw_or (PW.pt (pw_and (pt_cmpR op_eq (pv 4) pe_int (nomark _)) (pw_and1 (pt_cmpR op_le (pv 3) pe_int (nomark _))))) (pw_or1 (PW.pt (pw_and (pt_cmpR op_eq (pv 4) pe_int (nomark _)) (pw_and1 (pt_cmpR op_eq (pv 3) pe_int (nomark _)))))))) (pss_one (ps_ret (pe_cl c_law_let hr (by decide) (by rfl) (pa_cons (pv 0) (pa_cons (pv 1) (pa_cons (pv 2) pa_nil)))))) pss_nil)
      (pss_cons (ps_if (PW.pt (pw_or (pt_cmpR op_eq (pv 4) pe_int (nomark _)) (pw_or1 (pt_cmpR op_eq (pv 3) pe_int (nomark _))))) (pss_one (ps_ret (pe_cl c_law_apply hr (by decide) (by rfl) (pa_cons (pv 0) (pa_cons (pv 2) pa_nil))))) pss_nil)
      (pss_one (ps_ret (pe_cl c_law_call hr (by decide) (by rfl) (pa_cons (pv 0) (pa_cons (pv 1) (pa_cons (pv 2) pa_nil)))))))))))))), ?_⟩
  have tr' : ∀ {v : V} {j : Nat}, vs[j]? = some v → Tr K (n + 1) H v := fun h => hv _ (List.mem_of_getElem? h)
  (try simp only [cxK, cxK2]); (try simp only [List.map_cons, List.map_nil, List.replicate, List.cons_append, List.nil_append])
  walk_at "u"
  refine r_lenL (SqL.of htr) ?_
  walk_at "u"
  refine d_draw hst (by decide) (by decide) fun k k0 k1 => ?_
  walk_at "u"
  walk_at "pt"
  refine ib (fun e => ?_) (fun e1 => ?_)
  · simp only [Bool.and_eq_true, decide_eq_true_eq, V.int.injEq] at e
    obtain ⟨x, hx⟩ : ∃ x, vs[0]? = some x := ⟨vs[0], List.getElem?_eq_getElem h0⟩
    have ex := atI_nat hx
    walk_at "u"
    refine d_draw hst (by decide) (by decide) fun j j0 j1 => ?_
    obtain ⟨c, -, ec⟩ := atI_mem (xs := ("+-" : Str).cps.toList) j0 j1
    refine r_ixS (by decide) ec ?_
    walk_at "u"
    refine n_tup (szr rfl) fun p H2 np s2 hp2 => ?_
    exact hq _ _ ⟨s2, mk_sign hp2 ((tr' hx).up s2)⟩
  walk_at "u"
  walk_at "pt"
  refine ib (fun e => ?_) (fun e2 => ?_)
  · simp only [Bool.and_eq_true, decide_eq_true_eq, V.int.injEq] at e
    obtain ⟨x, hx⟩ : ∃ x, vs[0]? = some x := ⟨vs[0], List.getElem?_eq_getElem h0⟩
    obtain ⟨y, hy⟩ : ∃ x, vs[1]? = some x := ⟨vs[1]'(by omega), List.getElem?_eq_getElem _⟩
    walk_at "u"
    refine n_lst (szr rfl) fun p1 H1 np1 s1 hp1 => ?_
    walk_at "u"
    refine d_draw (s1.st hst) (by decide) (by decide) fun j j0 j1 => ?_
    obtain ⟨v, hv', ev⟩ := atI_mem (xs := List.map V.str ["+", "-", "*", "/", "^", "&", "=", "<>", "<", "<=", ">", ">="]) j0 j1
    obtain ⟨c, -, rfl⟩ := List.mem_map.mp hv'
    have ex := atI_nat hx
    have ey := atI_nat hy
    have htr1 := s1 _ _ htr
    refine r_ixLc (SqL.of hp1) ev ?_
    walk_at "u"
    refine n_tup (szr rfl) fun p H2 np s2 hp2 => ?_
    exact hq _ _ ⟨s1.trans s2, mk_binary hp2 ((tr' hx).up (s1.trans s2)) ((tr' hy).up (s1.trans s2))⟩
  walk_at "u"
  walk_at "pt"
  refine ib (fun e => ?_) (fun e3 => ?_)
  · obtain ⟨x, hx⟩ : ∃ x, vs[0]? = some x := ⟨vs[0], List.getElem?_eq_getElem h0⟩
    have ex := atI_nat hx
    walk_at "u"
    exact ⟨(st, pl, x, n), rfl, ⟨hst, hpl, tr' hx⟩, hq⟩
  walk_at "u"
  walk_at "pt"
  refine ib (fun e => ?_) (fun e4 => ?_)
  · simp only [Bool.and_eq_true, Bool.or_eq_true, decide_eq_true_eq, V.int.injEq] at e
    walk_at "u"
    exact eL (by omega)
  walk_at "u"
  walk_at "pt"
  refine ib (fun e => ?_) (fun e5 => ?_)
  · walk_at "u"
    exact eA
  · simp only [Bool.or_eq_false_iff, decide_eq_false_iff_not, V.int.injEq] at e5
    walk_at "u"
    exact eC (by omega)
end
end Sw

set_option maxHeartbeats 4000000
namespace Sw
open PySem PySem.Spec PyProof.Rows L2 C8
local macro_rules | `(tactic| walk_at "v") => `(tactic| (with_reducible show tVar _ _ _ _; with_unfolding_all refine r_var rfl ?_))
local macro_rules | `(tactic| walk_at "x") => `(tactic| ((first | with_reducible refine r_ixTc (xs := ?xs) (v := ?v) ?hl ?e ?h | with_reducible refine r_ixLc (xs := ?xs) (v := ?v) ?hl ?e ?h); (case hl => first | assumption | exact SqT.of (by assumption) | exact SqL.of (by assumption)); (case e => first | rfl | assumption | exact atI_zero)))
local macro_rules | `(tactic| walk_at "n") => `(tactic| ((first | with_reducible refine r_mod ?hj (fun _ _ _ => ?_) | with_reducible refine r_mul ?hj ?_ | with_reducible refine r_div ?hj ?hd ?_ | with_reducible refine r_pow ?hj ?_); (case hj => first | (with_reducible show (0 : Int) < _; first | decide | omega) | exact ⟨by decide, by decide, by decide⟩ | exact .inr ⟨by decide, by decide⟩ | exact .inl ⟨by decide, by decide⟩ | exact .inl ⟨by omega, by omega⟩ | exact .inr ⟨by omega, by omega⟩); (try case hd => first | decide | omega)))
local macro_rules | `(tactic| walk_at "s0") => `(tactic| first
  | with_reducible refine r_seq ?_ | with_reducible refine r_asg ?_ | ((with_reducible refine r_gname ?_); dsimp only [List.set_cons_succ, List.set_cons_zero, List.set]) | with_reducible refine r_ret ?_ | with_reducible refine r_drop ?_ | with_reducible refine r_if ?_
  | with_reducible refine r_test ?_ | with_reducible refine r_B ?_ | with_reducible refine r_op ?_ | with_reducible refine r_cons ?_ | with_reducible refine r_nil ?_ | with_reducible refine r_c ?_ | walk_at "v"
  | with_reducible refine r_cl ?_ | with_reducible refine r_cb ?_ | with_reducible refine r_I0 ?_ | with_reducible refine r_bl ?_ | ((with_reducible refine r_eq ?hs ?_); (case hs => rfl)) | ((with_reducible refine r_ne ?hs ?_); (case hs => rfl))
  | with_reducible refine r_un ?_ | with_reducible refine r_neg ?_ | with_reducible refine r_int ?_ | with_reducible refine r_intB ?_ | with_reducible refine r_min2 ?_ | with_reducible refine r_max2 ?_
  | with_reducible refine r_tup ?_ | with_reducible refine r_lst ?_ | with_reducible refine r_not ?_ | with_reducible refine r_ifE ?_
  | with_reducible refine r_andV ?_ | with_reducible refine r_orV ?_ | with_reducible refine r_notV ?_ | with_reducible refine r_next ?_ | with_reducible refine r_brk ?_ | with_reducible refine r_for ?_ | with_reducible refine r_slc ?_ | with_reducible refine r_nop ?_ | with_reducible refine r_part ?_ | with_reducible refine r_ei ?_ | with_reducible refine r_bm ?_ | with_reducible refine r_isN ?_ | with_reducible refine r_notN ?_ | with_reducible refine r_m1 ?_ | with_reducible refine r_lc ?_ | with_reducible refine r_rng1 ?_ | with_reducible refine r_rng2 ?_ | with_reducible refine r_ilist ?_ | with_reducible refine r_itup ?_ | with_reducible refine iteT ?_ | with_reducible refine iteF ?_ | with_reducible refine r_sub ?_ | walk_at "n" | walk_at "x")
local macro_rules | `(tactic| walk_at "s1") => `(tactic| first | walk_at "s0" | with_reducible refine r_and ?_ | with_reducible refine r_or ?_)
local macro_rules | `(tactic| walk_at "u") => `(tactic| (try dsimp only); repeat walk_at "s0")
local macro_rules | `(tactic| walk_at "pt") => `(tactic| first
  | ((with_reducible refine r_and2 (a := ?a) (b := ?b) ?h1 ?h2 ?h); (case h1 => intro _ q; walk_at "pt"; exact q); (case h2 => intro _ q; walk_at "pt"; exact q); (try dsimp only))
  | ((with_reducible refine r_or2 (a := ?a) (b := ?b) ?h1 ?h2 ?h); (case h1 => intro _ q; walk_at "pt"; exact q); (case h2 => intro _ q; walk_at "pt"; exact q); (try dsimp only))
  | walk_at "u")
local macro_rules | `(tactic| walk_at "s") => `(tactic| (try dsimp only); repeat walk_at "s1")
local macro_rules | `(tactic| walk_at "go") => `(tactic| (try simp only [cxK, cxK2]); (try simp only [List.map_cons, List.map_nil, List.replicate, List.cons_append, List.nil_append]); walk_at "s")
local macro_rules | `(tactic| walk_at "t") => `(tactic| ((try dsimp only); (try with_reducible refine iteT ?_); (try dsimp only)))

section
variable {P : Program} {w : World} {K : PySem.W.Frag} {mg : Str → Option Value} {base : Heap}
/-! ### _law_leaf -/
abbrev N__law_leaf : List Str := ["_law_state", "_law_plan", "_law_kind", "_law_empty"]
theorem sc__law_leaf : FnScope N__law_leaf ["_law_state", "_law_plan"] (defScope (topS 30)) := ⟨rfl, rfl, rfl, by decide +kernel, rfl, by decide +kernel, by decide +kernel⟩
def spLeaf (K : PySem.W.Frag) : Sp := Spc (Addr × Addr) (fun z => [.ref z.1, .ref z.2]) (fun z H => StOk H z.1 ∧ PlanOk H z.2) fun z H v H' => Same H H' ∧ Tr K 2 H' v
theorem cl_leaf (F : Df K mg "_law_leaf" 30) (B : Bi mg) (c_law_draw : Cl P w K mg base 2 "_law_draw" spDraw) (c_law_area : Cl P w K mg base 4 "_law_area" (spArea K)) (c_law_array : Cl P w K mg base 5 "_law_array" (spArray K)) (c_law_call : Cl P w K mg base 4 "_law_call" (spCall K)) (c_law_lambda : Cl P w K mg base 4 "_law_lambda" (spLambda K)) (c_law_let : Cl P w K mg base 4 "_law_let" (spLet K)) (c_law_name : Cl P w K mg base 3 "_law_name" spName) (c_law_scalar : Cl P w K mg base 4 "_law_scalar" (spScalar K)) : Cl P w K mg base 6 "_law_leaf" (spLeaf K) := by
  refine mk_cl F sc__law_leaf (fun _ _ _ _ _ _ us hl => match us, hl with | [_, _], _ => rfl) (fun _ => rfl) 2 rfl fun f cdv A outer s H Q z hr hp hq => ?_
  obtain ⟨st, pl⟩ := z
  obtain ⟨hst, hpl⟩ := hp
  have hst : StOk H st := hst
  have hpl : PlanOk H pl := hpl
  refine ⟨_, ((pss_cons (ps_set (i := 2) sc__law_leaf.nd rfl (Or.inl rfl) (pe_cl c_law_draw hr (by decide) (by rfl) (pa_cons (pv 0) (pa_cons pe_int pa_nil))))
      (pss_cons (ps_if (pt_cmpR op_lt (pv 2) pe_int (nomark _)) (pss_one (ps_ret (pe_cl c_law_area hr (by decide) (by rfl) (pa_cons (pv 0) (pa_cons (pv 1) pa_nil))))) pss_nil)
      (pss_cons (ps_if (pt_cmpR op_eq (pv 2) pe_int (nomark _)) (pss_one (ps_ret (pe_tup (pa_cons pe_str (pa_cons (pe_cl c_law_name hr (by decide) (by rfl) (pa_cons (pv 0) (pa_cons (pv 1) pa_nil))) pa_nil))))) pss_nil)
      (pss_cons (ps_if (pt_cmpR op_eq (pv 2) pe_int (nomark _)) (pss_one (ps_ret (pe_cl c_law_array hr (by decide) (by rfl) (pa_cons (pv 0) pa_nil)))) pss_nil)
      (C8.pss_cut (ps_if (pt_cmpR op_eq (pv 2) pe_int (nomark _)) (pss_cons (ps_set (i := 3) sc__law_leaf.nd rfl (Or.inl rfl) (pe_cl c_law_draw hr (by decide) (by rfl) (pa_cons (pv 0) (pa_cons pe_int pa_nil))))
      (pss_cons (ps_if (pt_cmpR op_lt (pv 3) pe_int (nomark _)) (pss_one (ps_ret (pe_tup (pa_cons pe_str (pa_cons pe_str (pa_cons (pe_tup pa_nil) pa_nil)))))) pss_nil)
      (pss_cons (ps_if (pt_cmpR op_eq (pv 3) pe_int (nomark _)) (pss_one (ps_ret (pe_cl c_law_call hr (by decide) (by rfl) (pa_cons (pv 0) (pa_cons (pv 1) (pa_cons (pe_lst pa_nil) pa_nil)))))) pss_nil)
      (pss_cons (ps_if (pt_cmpR op_eq (pv 3) pe_int (nomark _)) (pss_one (ps_ret (pe_cl c_law_let hr (by decide) (by rfl) (pa_cons (pv 0) (pa_cons (pv 1) (pa_cons (pe_lst pa_nil) pa_nil)))))) pss_nil)
      (pss_one (ps_if (pt_cmpR op_eq (pv 3) pe_int (nomark _)) (pss_one (ps_ret (pe_cl c_law_lambda hr (by decide) (by rfl) (pa_cons (pv 0) (pa_cons (pv 1) (pa_cons (pe_tup (pa_cons pe_str pa_nil)) pa_nil)))))) pss_nil)))))) pss_nil)
      (pss_one (ps_ret (pe_cl c_law_scalar hr (by decide) (by rfl) (pa_cons (pv 0) (pa_cons pe_bl pa_nil))))))))))), ?_⟩
  walk_at "go"
  refine d_draw hst (by decide) (by decide) fun k k0 k1 => ?_
  walk_at "s"
  refine i2 (fun e => ?_) (fun e => ?_)
  · walk_at "s"
    exact ⟨(st, pl), rfl, ⟨hst, hpl⟩, fun v H' ⟨s, d, h1, h2⟩ => hq _ _ ⟨s, mk_area h1 h2⟩⟩
  walk_at "s"
  refine i2 (fun e => ?_) (fun e => ?_)
  · walk_at "s"
    refine ⟨(st, pl), rfl, ⟨hst, hpl⟩, ?_⟩
    rintro _ H1 ⟨s1, x, rfl, hx⟩
    walk_at "s"
    refine n_tup (szr rfl) fun p H2 np s2 hp2 => ?_
    obtain ⟨d, h1, h2⟩ := sc_of (K := K) hp2 (.str _) trivial (by decide)
    exact hq _ _ ⟨s1.trans s2, mk_leaf h1 h2.leaf⟩
  walk_at "s"
  refine i2 (fun e => ?_) (fun e => ?_)
  · walk_at "s"
    exact ⟨st, rfl, hst, fun v H' ⟨s, d, h1, h2⟩ => hq _ _ ⟨s, mk_leaf h1 h2⟩⟩
  refine r_cut (Mid := fun σ' H' => (∃ o, σ' = [some (.ref st), some (.ref pl), some (.int k), o]) ∧ H' = H) ?_ ?_
  · walk_at "s"
    refine i2 (fun e => ?_) (fun e => by walk_at "s"; exact ⟨⟨_, rfl⟩, rfl⟩)
    walk_at "s"
    refine d_draw hst (by decide) (by decide) fun j j0 j1 => ?_
    walk_at "s"
    refine i2 (fun e => ?_) (fun e => ?_)
    · walk_at "s"
      refine n_tup (szr rfl) fun p1 H1 np1 s1 hp1 => ?_
      walk_at "s"
      refine n_tup (szr rfl) fun p H2 np s2 hp2 => ?_
      exact hq _ _ ⟨s1.trans s2, mk_call hp2 (SqT.of (s2 _ _ hp1)) (Nat.zero_le _) fun v hv => by cases hv⟩
    walk_at "s"
    refine i2 (fun e => ?_) (fun e => ?_)
    · walk_at "s"
      refine n_lst (szr rfl) fun p1 H1 np1 s1 hp1 => ?_
      walk_at "s"
      exact ⟨⟨st, pl, p1, [], 0⟩, rfl, ⟨s1.st hst, hpl.up s1, hp1, Nat.zero_le _, fun v hv => by cases hv⟩, fun v H' ⟨s, h⟩ => hq _ _ ⟨s1.trans s, h⟩⟩
    walk_at "s"
    refine i2 (fun e => ?_) (fun e => ?_)
    · walk_at "s"
      refine n_lst (szr rfl) fun p1 H1 np1 s1 hp1 => ?_
      walk_at "s"
      exact ⟨⟨st, pl, p1, [], 0⟩, rfl, ⟨s1.st hst, hpl.up s1, hp1, Nat.zero_le _, fun v hv => by cases hv⟩, fun v H' ⟨s, h⟩ => hq _ _ ⟨s1.trans s, h⟩⟩
    walk_at "s"
    refine i2 (fun e => ?_) (fun e => by walk_at "s"; exact ⟨⟨_, rfl⟩, rfl⟩)
    walk_at "s"
    refine n_tup (szr rfl) fun p1 H1 np1 s1 hp1 => ?_
    walk_at "s"
    exact ⟨(st, pl, .ref p1, 0), rfl, ⟨s1.st hst, hpl.up s1, mk_empty hp1⟩, fun v H' ⟨s, h⟩ => hq _ _ ⟨s1.trans s, h⟩⟩
  · rintro σ' H' ⟨⟨o, rfl⟩, rfl⟩
    walk_at "s"
    exact ⟨(st, false), rfl, hst, fun v H1 ⟨s, d, h1, h2⟩ => hq _ _ ⟨s, mk_leaf h1 h2.leaf⟩⟩
end
end Sw

set_option maxHeartbeats 4000000
namespace Sw
open PySem PySem.Spec PyProof.Rows L2 C8
local macro_rules | `(tactic| walk_at "v") => `(tactic| (with_reducible show tVar _ _ _ _; with_unfolding_all refine r_var rfl ?_))
local macro_rules | `(tactic| walk_at "x") => `(tactic| ((first | with_reducible refine r_ixTc (xs := ?xs) (v := ?v) ?hl ?e ?h | with_reducible refine r_ixLc (xs := ?xs) (v := ?v) ?hl ?e ?h); (case hl => first | assumption | exact SqT.of (by assumption) | exact SqL.of (by assumption)); (case e => first | rfl | assumption | exact atI_zero)))
local macro_rules | `(tactic| walk_at "n") => `(tactic| ((first | with_reducible refine r_mod ?hj (fun _ _ _ => ?_) | with_reducible refine r_mul ?hj ?_ | with_reducible refine r_div ?hj ?hd ?_ | with_reducible refine r_pow ?hj ?_); (case hj => first | (with_reducible show (0 : Int) < _; first | decide | omega) | exact ⟨by decide, by decide, by decide⟩ | exact .inr ⟨by decide, by decide⟩ | exact .inl ⟨by decide, by decide⟩ | exact .inl ⟨by omega, by omega⟩ | exact .inr ⟨by omega, by omega⟩); (try case hd => first | decide | omega)))
local macro_rules | `(tactic| walk_at "s0") => `(tactic| first
  | with_reducible refine r_seq ?_ | with_reducible refine r_asg ?_ | ((with_reducible refine r_gname ?_); dsimp only [List.set_cons_succ, List.set_cons_zero, List.set]) | with_reducible refine r_ret ?_ | with_reducible refine r_drop ?_ | with_reducible refine r_if ?_
  | with_reducible refine r_test ?_ | with_reducible refine r_B ?_ | with_reducible refine r_op ?_ | with_reducible refine r_cons ?_ | with_reducible refine r_nil ?_ | with_reducible refine r_c ?_ | walk_at "v"
  | with_reducible refine r_cl ?_ | with_reducible refine r_cb ?_ | with_reducible refine r_I0 ?_ | with_reducible refine r_bl ?_ | ((with_reducible refine r_eq ?hs ?_); (case hs => rfl)) | ((with_reducible refine r_ne ?hs ?_); (case hs => rfl))
  | with_reducible refine r_un ?_ | with_reducible refine r_neg ?_ | with_reducible refine r_int ?_ | with_reducible refine r_intB ?_ | with_reducible refine r_min2 ?_ | with_reducible refine r_max2 ?_
  | with_reducible refine r_tup ?_ | with_reducible refine r_lst ?_ | with_reducible refine r_not ?_ | with_reducible refine r_ifE ?_
  | with_reducible refine r_andV ?_ | with_reducible refine r_orV ?_ | with_reducible refine r_notV ?_ | with_reducible refine r_next ?_ | with_reducible refine r_brk ?_ | with_reducible refine r_for ?_ | with_reducible refine r_slc ?_ | with_reducible refine r_nop ?_ | with_reducible refine r_part ?_ | with_reducible refine r_ei ?_ | with_reducible refine r_bm ?_ | with_reducible refine r_isN ?_ | with_reducible refine r_notN ?_ | with_reducible refine r_m1 ?_ | with_reducible refine r_lc ?_ | with_reducible refine r_rng1 ?_ | with_reducible refine r_rng2 ?_ | with_reducible refine r_ilist ?_ | with_reducible refine r_itup ?_ | with_reducible refine iteT ?_ | with_reducible refine iteF ?_ | with_reducible refine r_sub ?_ | walk_at "n" | walk_at "x")
local macro_rules | `(tactic| walk_at "s1") => `(tactic| first | walk_at "s0" | with_reducible refine r_and ?_ | with_reducible refine r_or ?_)
local macro_rules | `(tactic| walk_at "u") => `(tactic| (try dsimp only); repeat walk_at "s0")
local macro_rules | `(tactic| walk_at "pt") => `(tactic| first
  | ((with_reducible refine r_and2 (a := ?a) (b := ?b) ?h1 ?h2 ?h); (case h1 => intro _ q; walk_at "pt"; exact q); (case h2 => intro _ q; walk_at "pt"; exact q); (try dsimp only))
  | ((with_reducible refine r_or2 (a := ?a) (b := ?b) ?h1 ?h2 ?h); (case h1 => intro _ q; walk_at "pt"; exact q); (case h2 => intro _ q; walk_at "pt"; exact q); (try dsimp only))
  | walk_at "u")
local macro_rules | `(tactic| walk_at "s") => `(tactic| (try dsimp only); repeat walk_at "s1")
local macro_rules | `(tactic| walk_at "go") => `(tactic| (try simp only [cxK, cxK2]); (try simp only [List.map_cons, List.map_nil, List.replicate, List.cons_append, List.nil_append]); walk_at "s")
local macro_rules | `(tactic| walk_at "t") => `(tactic| ((try dsimp only); (try with_reducible refine iteT ?_); (try dsimp only)))

def wC0 : List Nat := [65, 66, 83, 32, 49, 32, 49, 32, 83, 73, 71, 78, 32, 49, 32, 49, 32, 73, 78, 84, 32, 49, 32, 49, 32, 84, 82, 85, 78, 67, 32, 49, 32, 49, 32, 82, 79, 85, 78, 68, 32, 50, 32, 50, 32, 77, 79, 68, 32, 50, 32, 50, 32, 81, 85, 79, 84, 73, 69, 78, 84, 32, 50, 32, 50, 32, 80, 79, 87, 69, 82, 32, 50, 32, 50, 32, 83, 81, 82, 84, 32, 49, 32, 49, 32, 71, 67, 68, 32, 50, 32, 50, 32, 76, 67, 77, 32, 50, 32, 50, 32]
theorem wL0 : Str.ofString "ABS 1 1 SIGN 1 1 INT 1 1 TRUNC 1 1 ROUND 2 2 MOD 2 2 QUOTIENT 2 2 POWER 2 2 SQRT 1 1 GCD 2 2 LCM 2 2 " = SX.S wC0 := by decide +kernel
def wC1 : List Nat := [83, 85, 77, 32, 49, 32, 49, 54, 32, 80, 82, 79, 68, 85, 67, 84, 32, 49, 32, 49, 54, 32, 77, 73, 78, 32, 49, 32, 49, 54, 32, 77, 65, 88, 32, 49, 32, 49, 54, 32, 65, 86, 69, 82, 65, 71, 69, 32, 49, 32, 49, 54, 32, 77, 69, 68, 73, 65, 78, 32, 49, 32, 49, 54, 32, 67, 79, 85, 78, 84, 32, 49, 32, 49, 54, 32, 67, 79, 85, 78, 84, 65, 32, 49, 32, 49, 54, 32]
theorem wL1 : Str.ofString "SUM 1 16 PRODUCT 1 16 MIN 1 16 MAX 1 16 AVERAGE 1 16 MEDIAN 1 16 COUNT 1 16 COUNTA 1 16 " = SX.S wC1 := by decide +kernel
def wC2 : List Nat := [67, 79, 85, 78, 84, 66, 76, 65, 78, 75, 32, 49, 32, 49, 32, 76, 65, 82, 71, 69, 32, 50, 32, 50, 32, 83, 77, 65, 76, 76, 32, 50, 32, 50, 32, 82, 65, 78, 75, 32, 50, 32, 50, 32, 83, 85, 77, 80, 82, 79, 68, 85, 67, 84, 32, 49, 32, 52, 32, 67, 79, 85, 78, 84, 73, 70, 32, 50, 32, 50, 32, 83, 85, 77, 73, 70, 32, 50, 32, 51, 32]
theorem wL2 : Str.ofString "COUNTBLANK 1 1 LARGE 2 2 SMALL 2 2 RANK 2 2 SUMPRODUCT 1 4 COUNTIF 2 2 SUMIF 2 3 " = SX.S wC2 := by decide +kernel
def wC3 : List Nat := [73, 70, 32, 50, 32, 51, 32, 73, 70, 83, 32, 50, 32, 49, 54, 32, 83, 87, 73, 84, 67, 72, 32, 51, 32, 49, 54, 32, 67, 72, 79, 79, 83, 69, 32, 50, 32, 49, 54, 32, 65, 78, 68, 32, 49, 32, 49, 54, 32, 79, 82, 32, 49, 32, 49, 54, 32, 88, 79, 82, 32, 49, 32, 49, 54, 32, 78, 79, 84, 32, 49, 32, 49, 32, 73, 70, 69, 82, 82, 79, 82, 32, 50, 32, 50, 32, 73, 70, 78, 65, 32, 50, 32, 50, 32]
theorem wL3 : Str.ofString "IF 2 3 IFS 2 16 SWITCH 3 16 CHOOSE 2 16 AND 1 16 OR 1 16 XOR 1 16 NOT 1 1 IFERROR 2 2 IFNA 2 2 " = SX.S wC3 := by decide +kernel
def wC4 : List Nat := [73, 83, 66, 76, 65, 78, 75, 32, 49, 32, 49, 32, 73, 83, 78, 85, 77, 66, 69, 82, 32, 49, 32, 49, 32, 73, 83, 84, 69, 88, 84, 32, 49, 32, 49, 32, 73, 83, 76, 79, 71, 73, 67, 65, 76, 32, 49, 32, 49, 32, 73, 83, 69, 82, 82, 79, 82, 32, 49, 32, 49, 32, 73, 83, 78, 65, 32, 49, 32, 49, 32, 69, 82, 82, 78, 85, 77, 66, 69, 82, 32, 49, 32, 49, 32, 73, 83, 82, 69, 70, 32, 49, 32, 49, 32]
theorem wL4 : Str.ofString "ISBLANK 1 1 ISNUMBER 1 1 ISTEXT 1 1 ISLOGICAL 1 1 ISERROR 1 1 ISNA 1 1 ERRNUMBER 1 1 ISREF 1 1 " = SX.S wC4 := by decide +kernel
def wC5 : List Nat := [78, 65, 32, 48, 32, 48, 32, 82, 79, 87, 32, 49, 32, 49, 32, 67, 79, 76, 85, 77, 78, 32, 49, 32, 49, 32, 82, 79, 87, 83, 32, 49, 32, 49, 32, 67, 79, 76, 85, 77, 78, 83, 32, 49, 32, 49, 32, 76, 69, 78, 32, 49, 32, 49, 32, 76, 69, 70, 84, 32, 49, 32, 50, 32, 82, 73, 71, 72, 84, 32, 49, 32, 50, 32, 77, 73, 68, 32, 51, 32, 51, 32, 70, 73, 78, 68, 32, 50, 32, 51, 32]
theorem wL5 : Str.ofString "NA 0 0 ROW 1 1 COLUMN 1 1 ROWS 1 1 COLUMNS 1 1 LEN 1 1 LEFT 1 2 RIGHT 1 2 MID 3 3 FIND 2 3 " = SX.S wC5 := by decide +kernel
def wC6 : List Nat := [83, 85, 66, 83, 84, 73, 84, 85, 84, 69, 32, 51, 32, 52, 32, 82, 69, 80, 76, 65, 67, 69, 32, 52, 32, 52, 32, 82, 69, 80, 84, 32, 50, 32, 50, 32, 85, 80, 80, 69, 82, 32, 49, 32, 49, 32, 76, 79, 87, 69, 82, 32, 49, 32, 49, 32, 84, 82, 73, 77, 32, 49, 32, 49, 32, 69, 88, 65, 67, 84, 32, 50, 32, 50, 32, 86, 65, 76, 85, 69, 32, 49, 32, 49, 32, 67, 79, 68, 69, 32, 49, 32, 49, 32]
theorem wL6 : Str.ofString "SUBSTITUTE 3 4 REPLACE 4 4 REPT 2 2 UPPER 1 1 LOWER 1 1 TRIM 1 1 EXACT 2 2 VALUE 1 1 CODE 1 1 " = SX.S wC6 := by decide +kernel
def wC7 : List Nat := [67, 79, 78, 67, 65, 84, 32, 49, 32, 49, 54, 32, 84, 69, 88, 84, 74, 79, 73, 78, 32, 51, 32, 49, 54, 32, 84, 69, 88, 84, 83, 80, 76, 73, 84, 32, 50, 32, 51, 32, 73, 78, 68, 69, 88, 32, 50, 32, 51, 32, 77, 65, 84, 67, 72, 32, 50, 32, 51, 32, 88, 76, 79, 79, 75, 85, 80, 32, 51, 32, 52, 32, 86, 76, 79, 79, 75, 85, 80, 32, 51, 32, 52, 32, 79, 70, 70, 83, 69, 84, 32, 51, 32, 53, 32]
theorem wL7 : Str.ofString "CONCAT 1 16 TEXTJOIN 3 16 TEXTSPLIT 2 3 INDEX 2 3 MATCH 2 3 XLOOKUP 3 4 VLOOKUP 3 4 OFFSET 3 5 " = SX.S wC7 := by decide +kernel
def wC8 : List Nat := [73, 78, 68, 73, 82, 69, 67, 84, 32, 49, 32, 49, 32, 83, 69, 81, 85, 69, 78, 67, 69, 32, 49, 32, 52, 32, 84, 82, 65, 78, 83, 80, 79, 83, 69, 32, 49, 32, 49, 32, 83, 79, 82, 84, 32, 49, 32, 51, 32, 83, 79, 82, 84, 66, 89, 32, 50, 32, 51, 32, 85, 78, 73, 81, 85, 69, 32, 49, 32, 49, 32, 70, 73, 76, 84, 69, 82, 32, 50, 32, 51, 32, 84, 65, 75, 69, 32, 50, 32, 51, 32, 68, 82, 79, 80, 32, 50, 32, 51, 32]
theorem wL8 : Str.ofString "INDIRECT 1 1 SEQUENCE 1 4 TRANSPOSE 1 1 SORT 1 3 SORTBY 2 3 UNIQUE 1 1 FILTER 2 3 TAKE 2 3 DROP 2 3 " = SX.S wC8 := by decide +kernel
def wC9 : List Nat := [86, 83, 84, 65, 67, 75, 32, 49, 32, 56, 32, 72, 83, 84, 65, 67, 75, 32, 49, 32, 56, 32, 67, 72, 79, 79, 83, 69, 82, 79, 87, 83, 32, 50, 32, 56, 32, 67, 72, 79, 79, 83, 69, 67, 79, 76, 83, 32, 50, 32, 56, 32, 69, 88, 80, 65, 78, 68, 32, 51, 32, 52, 32, 84, 79, 67, 79, 76, 32, 49, 32, 49, 32, 87, 82, 65, 80, 82, 79, 87, 83, 32, 50, 32, 50, 32, 77, 77, 85, 76, 84, 32, 50, 32, 50, 32]
theorem wL9 : Str.ofString "VSTACK 1 8 HSTACK 1 8 CHOOSEROWS 2 8 CHOOSECOLS 2 8 EXPAND 3 4 TOCOL 1 1 WRAPROWS 2 2 MMULT 2 2 " = SX.S wC9 := by decide +kernel
def wC10 : List Nat := [77, 85, 78, 73, 84, 32, 49, 32, 49, 32, 77, 65, 80, 32, 50, 32, 53, 32, 82, 69, 68, 85, 67, 69, 32, 51, 32, 51, 32, 83, 67, 65, 78, 32, 51, 32, 51, 32, 77, 65, 75, 69, 65, 82, 82, 65, 89, 32, 51, 32, 51, 32, 66, 89, 82, 79, 87, 32, 50, 32, 50, 32, 66, 89, 67, 79, 76, 32, 50, 32, 50]
theorem wL10 : Str.ofString "MUNIT 1 1 MAP 2 5 REDUCE 3 3 SCAN 3 3 MAKEARRAY 3 3 BYROW 2 2 BYCOL 2 2" = SX.S wC10 := by decide +kernel
def wParts : List (List Nat) := [[65, 66, 83], [49], [49], [83, 73, 71, 78], [49], [49], [73, 78, 84], [49], [49], [84, 82, 85, 78, 67], [49], [49], [82, 79, 85, 78, 68], [50], [50], [77, 79, 68], [50], [50], [81, 85, 79, 84, 73, 69, 78, 84], [50], [50], [80, 79, 87, 69, 82], [50], [50], [83, 81, 82, 84], [49], [49], [71, 67, 68], [50], [50], [76, 67, 77], [50], [50], [83, 85, 77], [49], [49, 54], [80, 82, 79, 68, 85, 67, 84], [49], [49, 54], [77, 73, 78], [49], [49, 54], [77, 65, 88], [49], [49, 54], [65, 86, 69, 82, 65, 71, 69], [49], [49, 54], [77, 69, 68, 73, 65, 78], [49], [49, 54], [67, 79, 85, 78, 84], [49], [49, 54], [67, 79, 85, 78, 84, 65], [49], [49, 54], [67, 79, 85, 78, 84, 66, 76, 65, 78, 75], [49], [49], [76, 65, 82, 71, 69], [50], [50], [83, 77, 65, 76, 76], [50], [50], [82, 65, 78, 75], [50], [50], [83, 85, 77, 80, 82, 79, 68, 85, 67, 84], [49], [52], [67, 79, 85, 78, 84, 73, 70], [50], [50], [83, 85, 77, 73, 70], [50], [51], [73, 70], [50], [51], [73, 70, 83], [50], [49, 54], [83, 87, 73, 84, 67, 72], [51], [49, 54], [67, 72, 79, 79, 83, 69], [50], [49, 54], [65, 78, 68], [49], [49, 54], [79, 82], [49], [49, 54], [88, 79, 82], [49], [49, 54], [78, 79, 84], [49], [49], [73, 70, 69, 82, 82, 79, 82], [50], [50], [73, 70, 78, 65], [50], [50], [73, 83, 66, 76, 65, 78, 75], [49], [49], [73, 83, 78, 85, 77, 66, 69, 82], [49], [49], [73, 83, 84, 69, 88, 84], [49], [49], [73, 83, 76, 79, 71, 73, 67, 65, 76], [49], [49], [73, 83, 69, 82, 82, 79, 82], [49], [49], [73, 83, 78, 65], [49], [49], [69, 82, 82, 78, 85, 77, 66, 69, 82], [49], [49], [73, 83, 82, 69, 70], [49], [49], [78, 65], [48], [48], [82, 79, 87], [49], [49], [67, 79, 76, 85, 77, 78], [49], [49], [82, 79, 87, 83], [49], [49], [67, 79, 76, 85, 77, 78, 83], [49], [49], [76, 69, 78], [49], [49], [76, 69, 70, 84], [49], [50], [82, 73, 71, 72, 84], [49], [50], [77, 73, 68], [51], [51], [70, 73, 78, 68], [50], [51], [83, 85, 66, 83, 84, 73, 84, 85, 84, 69], [51], [52], [82, 69, 80, 76, 65, 67, 69], [52], [52], [82, 69, 80, 84], [50], [50], [85, 80, 80, 69, 82], [49], [49], [76, 79, 87, 69, 82], [49], [49], [84, 82, 73, 77], [49], [49], [69, 88, 65, 67, 84], [50], [50], [86, 65, 76, 85, 69], [49], [49], [67, 79, 68, 69], [49], [49], [67, 79, 78, 67, 65, 84], [49], [49, 54], [84, 69, 88, 84, 74, 79, 73, 78], [51], [49, 54], [84, 69, 88, 84, 83, 80, 76, 73, 84], [50], [51], [73, 78, 68, 69, 88], [50], [51], [77, 65, 84, 67, 72], [50], [51], [88, 76, 79, 79, 75, 85, 80], [51], [52], [86, 76, 79, 79, 75, 85, 80], [51], [52], [79, 70, 70, 83, 69, 84], [51], [53], [73, 78, 68, 73, 82, 69, 67, 84], [49], [49], [83, 69, 81, 85, 69, 78, 67, 69], [49], [52], [84, 82, 65, 78, 83, 80, 79, 83, 69], [49], [49], [83, 79, 82, 84], [49], [51], [83, 79, 82, 84, 66, 89], [50], [51], [85, 78, 73, 81, 85, 69], [49], [49], [70, 73, 76, 84, 69, 82], [50], [51], [84, 65, 75, 69], [50], [51], [68, 82, 79, 80], [50], [51], [86, 83, 84, 65, 67, 75], [49], [56], [72, 83, 84, 65, 67, 75], [49], [56], [67, 72, 79, 79, 83, 69, 82, 79, 87, 83], [50], [56], [67, 72, 79, 79, 83, 69, 67, 79, 76, 83], [50], [56], [69, 88, 80, 65, 78, 68], [51], [52], [84, 79, 67, 79, 76], [49], [49], [87, 82, 65, 80, 82, 79, 87, 83], [50], [50], [77, 77, 85, 76, 84], [50], [50], [77, 85, 78, 73, 84], [49], [49], [77, 65, 80], [50], [53], [82, 69, 68, 85, 67, 69], [51], [51], [83, 67, 65, 78], [51], [51], [77, 65, 75, 69, 65, 82, 82, 65, 89], [51], [51], [66, 89, 82, 79, 87], [50], [50], [66, 89, 67, 79, 76], [50], [50]]
theorem wJoin : ((((((((((wC0 ++ wC1) ++ wC2) ++ wC3) ++ wC4) ++ wC5) ++ wC6) ++ wC7) ++ wC8) ++ wC9) ++ wC10) = TL.joinL [32] wParts := by decide +kernel
theorem wParts_ne : wParts ≠ [] := by decide +kernel
theorem wParts_no : ∀ p ∈ wParts, 32 ∉ p := by decide +kernel
theorem wParts_len : wParts.length = 285 := by decide +kernel
def wOk (k : Nat) : Bool := match wParts[3 * k]?, wParts[3 * k + 1]?, wParts[3 * k + 2]? with
  | some _, some a, some b => (match PySem.intText? (SX.S a), PySem.intText? (SX.S b) with
    | some lo, some hi => decide (0 ≤ lo) && decide (lo ≤ hi) && decide (hi ≤ 16)
    | _, _ => false) && decide (a.length ≤ 640) && decide (b.length ≤ 640)
  | _, _, _ => false
theorem wAll : (List.range 95).all wOk = true := by decide +kernel
theorem wTop : wParts[35]? = some [49, 54] := by decide +kernel
theorem wC_le : wC0.length ≤ 120 ∧ wC1.length ≤ 120 ∧ wC2.length ≤ 120 ∧ wC3.length ≤ 120 ∧ wC4.length ≤ 120 ∧ wC5.length ≤ 120 ∧ wC6.length ≤ 120 ∧ wC7.length ≤ 120 ∧ wC8.length ≤ 120 ∧ wC9.length ≤ 120 ∧ wC10.length ≤ 120 := by decide +kernel
theorem r_catSX {H : Hp} {Q : VK} {a b : List Nat} (hz : a.length + b.length ≤ 100000) (h : Q (.str (SX.S (a ++ b))) H) : rCatS (.str (SX.S a)) (.str (SX.S b)) H Q := ⟨_, _, rfl, rfl, by rw [SX.S_len, SX.S_len]; exact sz hz, by rw [SX.S_cat]; exact h⟩
theorem wSplit : Txt.split (SX.S (TL.joinL [32] wParts)) (SX.S [32]) = wParts.map SX.S := by
  rw [SX.split_S (List.cons_ne_nil _ _) (by decide), SX.spl_join wParts_ne wParts_no]
theorem sp_S : Str.ofString " " = SX.S [32] := by decide +kernel
theorem wAt {k : Nat} (hk : k < 95) : ∃ x a b lo hi, wParts[3 * k]? = some x ∧ wParts[3 * k + 1]? = some a ∧ wParts[3 * k + 2]? = some b ∧ PySem.intText? (SX.S a) = some lo ∧ PySem.intText? (SX.S b) = some hi ∧ 0 ≤ lo ∧ lo ≤ hi ∧ hi ≤ 16 ∧ a.length ≤ 640 ∧ b.length ≤ 640 := by
  have h := List.all_eq_true.mp wAll k (List.mem_range.mpr hk)
  unfold wOk at h
  cases e1 : wParts[3 * k]? with
  | none => rw [e1] at h; cases h
  | some x =>
    cases e2 : wParts[3 * k + 1]? with
    | none => rw [e1, e2] at h; cases h
    | some a =>
      cases e3 : wParts[3 * k + 2]? with
      | none => rw [e1, e2, e3] at h; cases h
      | some b =>
        rw [e1, e2, e3] at h
        cases e4 : PySem.intText? (SX.S a) with
        | none => simp only [e4] at h; cases h
        | some lo =>
          cases e5 : PySem.intText? (SX.S b) with
          | none => simp only [e4, e5] at h; cases h
          | some hi =>
            simp only [e4, e5, Bool.and_eq_true, decide_eq_true_eq] at h
            exact ⟨x, a, b, lo, hi, rfl, rfl, rfl, e4, e5, h.1.1.1.1, h.1.1.1.2, h.1.1.2, h.1.2, h.2⟩
theorem wTop2 : PySem.intText? (SX.S [49, 54]) = some 16 := by decide +kernel
theorem rows_of {R : Rw → Prop} : ∀ {ys : List V}, (∀ y ∈ ys, ∃ r : Rw, y = .ref r.a ∧ R r) → ∃ rows : List Rw, ys = rows.map (fun r => .ref r.a) ∧ ∀ r ∈ rows, R r
  | [], _ => ⟨[], rfl, fun _ h => by cases h⟩
  | y :: ys, h => by
    obtain ⟨r, rfl, hr⟩ := h y List.mem_cons_self
    obtain ⟨rows, rfl, hm⟩ := rows_of fun z hz => h z (List.mem_cons_of_mem _ hz)
    exact ⟨r :: rows, rfl, fun q h => by
      rcases List.mem_cons.mp h with rfl | h
      · exact hr
      · exact hm q h⟩
section
variable {P : Program} {w : World} {K : PySem.W.Frag} {mg : Str → Option Value} {base : Heap}
abbrev N__law_words : List Str := ["_law_words_here", "_law_row", "_law_k"]
theorem sc__law_words : FnScope N__law_words [] (defScope (topS 21)) := ⟨rfl, rfl, rfl, by decide +kernel, rfl, by decide +kernel, by decide +kernel⟩
def spWords : Sp := Spc Unit (fun _ => []) (fun _ _ => True) fun z H v H' => Same H H' ∧ ∃ a rows, v = .ref a ∧ WsF H' a rows
theorem cl_words (F : Df K mg "_law_words" 21) (B : Bi mg) : Cl P w K mg base 1 "_law_words" spWords := by
  refine mk_cl F sc__law_words (fun _ _ _ _ _ _ us hl => match us, hl with | [], _ => rfl) (fun _ => rfl) 3 rfl fun f cdv A outer s H Q z hr hp hq => ?_
  refine ⟨_, ((pss_cons (ps_set (i := 0) sc__law_words.nd rfl (Or.inl rfl) pe_str)
      (pss_cons (ps_set (i := 0) sc__law_words.nd rfl (Or.inl rfl) (pe_op op_addS (pv 0) pe_str))
      (pss_cons (ps_set (i := 0) sc__law_words.nd rfl (Or.inl rfl) (pe_op op_addS (pv 0) pe_str))
      (pss_cons (ps_set (i := 0) sc__law_words.nd rfl (Or.inl rfl) (pe_op op_addS (pv 0) pe_str))
      (pss_cons (ps_set (i := 0) sc__law_words.nd rfl (Or.inl rfl) (pe_op op_addS (pv 0) pe_str))
      (pss_cons (ps_set (i := 0) sc__law_words.nd rfl (Or.inl rfl) (pe_op op_addS (pv 0) pe_str))
      (pss_cons (ps_set (i := 0) sc__law_words.nd rfl (Or.inl rfl) (pe_op op_addS (pv 0) pe_str))
      (pss_cons (ps_set (i := 0) sc__law_words.nd rfl (Or.inl rfl) (pe_op op_addS (pv 0) pe_str))
      (pss_cons (ps_set (i := 0) sc__law_words.nd rfl (Or.inl rfl) (pe_op op_addS (pv 0) pe_str))
      (pss_cons (ps_set (i := 0) sc__law_words.nd rfl (Or.inl rfl) (pe_op op_addS (pv 0) pe_str))
      (pss_cons (ps_set (i := 0) sc__law_words.nd rfl (Or.inl rfl) (pe_op op_addS (pv 0) pe_str))
      (pss_cons (ps_set (i := 1) sc__law_words.nd rfl (Or.inr rfl) (pe_split (pv 0) pe_str))
      (pss_one (ps_ret (pe_lc (own := [("_law_k", 2)]) (g := gName 2) rfl sc__law_words.nd (pi_range1 rfl B.trange (pa_cons (pe_op op_fdivW (pe_callB cl_len (by rfl) B.tlen (by decide +kernel) (pa_cons (pv 1) pa_nil)) pe_int) pa_nil)) (blkOk_by (own := [("_law_k", 2)]) (N := N__law_words) (sc := defScope (topS 21)) (by decide +kernel)) (fun _ _ _ _ _ => pg_name (i := 2) sc__law_words.nd rfl (Or.inl rfl)) (fun _ _ _ _ _ => pts_nil) (fun _ _ _ _ _ => (pe_tup (pa_cons (pe_ix (ix_list : IxR _ (rIxL K)) (pv 1) (pe_op op_mul pe_int (pv 2)) (fun _ _ => rfl)) (pa_cons (pe_callTy cl_intS (by rfl) B.tint (by decide +kernel) (pa_cons (pe_ix (ix_list : IxR _ (rIxL K)) (pv 1) (pe_op op_add (pe_op op_mul pe_int (pv 2)) pe_int) (fun _ _ => rfl)) pa_nil)) (pa_cons (pe_callTy cl_intS (by rfl) B.tint (by decide +kernel) (pa_cons (pe_ix (ix_list : IxR _ (rIxL K)) (pv 1) (pe_op op_add (pe_op op_mul pe_int (pv 2)) pe_int) (fun _ _ => rfl)) pa_nil)) pa_nil))))))))))))))))))))), ?_⟩
  simp only [wL0, wL1, wL2, wL3, wL4, wL5, wL6, wL7, wL8, wL9, wL10, sp_S]
  obtain ⟨w0, w1, w2, w3, w4, w5, w6, w7, w8, w9, w10⟩ := wC_le
  walk_at "go"
  iterate 10
    refine r_catSX (by (try simp only [List.length_append]); omega) ?_
    walk_at "s"
  rw [wJoin]
  refine ⟨⟨_, rfl⟩, ?_⟩
  walk_at "s"
  refine ⟨_, _, rfl, rfl, by decide, ?_, ?_⟩
  · rw [SX.S_len, ← wJoin]
    simp only [List.length_append]
    exact sz (by omega)
  rw [wSplit]
  intro l nl
  have s1 := Same.new (o := .lst (List.map V.str (wParts.map SX.S))) nl
  have hl : upd H l (.lst (List.map V.str (wParts.map SX.S))) l = _ := upd_same
  have hq2 : ∀ v H', (Same (upd H l (.lst (List.map V.str (wParts.map SX.S)))) H' ∧ ∃ a rows, v = .ref a ∧ WsF H' a rows) → Q v H' := fun v H' ⟨s, h⟩ => hq v H' ⟨s1.trans s, h⟩
  generalize upd H l (.lst (List.map V.str (wParts.map SX.S))) = H1 at *
  walk_at "s"
  refine r_lenL (SqL.of hl) ?_
  rw [List.length_map, List.length_map, wParts_len]
  walk_at "s"
  refine lcR (by decide) (by decide) ⟨fun i v _ H1 => ∃ a x lo hi, v = .ref a ∧ H1 a = some (.tup [.str x, .int lo, .int hi]) ∧ 0 ≤ lo ∧ lo ≤ hi ∧ hi ≤ 16 ∧ (i = 11 → hi = 16), ?_, fun _ => rfl, fun i x H5 hi hx s Q' hQ' => ?_, fun mp H2 ys s2 nmp hmp hy hE => ?_⟩
  · rintro i v H0 H1 H2 D xs0 xs - hD sb ⟨a, x, lo, hi, rfl, ha, r⟩
    exact ⟨a, x, lo, hi, rfl, sb _ _ (ne_of ha hD fun z => nomatch z) ha, r⟩
  · have hx : x = .int ((0 : Int) + (i : Int)) := hx
    have hi : i < 95 := hi
    subst hx
    obtain ⟨x, a, b, lo, hi', e1, e2, e3, e4, e5, h1, h2, h3, h4, h5⟩ := wAt hi
    have hl5 := s _ _ hl
    have at_ : ∀ {j : Nat} {x : List Nat}, wParts[j]? = some x → atI (List.map V.str (wParts.map SX.S)) (j : Int) = some (.str (SX.S x)) := fun h => atI_nat (by rw [List.getElem?_map, List.getElem?_map, h]; rfl)
    walk_at "s"
    rw [show (3 : Int) * (0 + (i : Int)) = ((3 * i : Nat) : Int) by omega]
    refine r_ixLc (SqL.of hl5) (at_ e1) ?_
    walk_at "s"
    rw [show (3 : Int) * (0 + (i : Int)) + 1 = ((3 * i + 1 : Nat) : Int) by omega]
    refine r_ixLc (SqL.of hl5) (at_ e2) ?_
    walk_at "s"
    refine ⟨_, _, rfl, e4, by rw [SX.S_len]; exact h4, ?_⟩
    walk_at "s"
    rw [show (3 : Int) * (0 + (i : Int)) + 2 = ((3 * i + 2 : Nat) : Int) by omega]
    refine r_ixLc (SqL.of hl5) (at_ e3) ?_
    walk_at "s"
    refine ⟨_, _, rfl, e5, by rw [SX.S_len]; exact h5, ?_⟩
    walk_at "s"
    refine n_tup (szr rfl) fun p H6 np s6 hp6 => ?_
    refine hQ' _ _ s6 ⟨p, _, lo, hi', rfl, hp6, h1, h2, h3, fun e => ?_⟩
    subst e
    have e3 : wParts[35]? = some b := e3
    rw [wTop] at e3
    have e3 := Option.some.inj e3
    subst e3
    rw [wTop2] at e5
    exact (Option.some.inj e5).symm
  · have hy : ys.length = 95 := hy
    obtain ⟨rows, rfl, hr⟩ := rows_of (R := fun r => H2 r.a = some (.tup [.str r.x, .int r.lo, .int r.hi]) ∧ 0 ≤ r.lo ∧ r.lo ≤ r.hi ∧ r.hi ≤ 16) fun y hy' => by
      obtain ⟨i, hi⟩ := List.mem_iff_getElem?.mp hy'
      obtain ⟨_, _, a, x, lo, hi', rfl, ha, h1, h2, h3, _⟩ := hE i y hi
      exact ⟨⟨a, x, lo, hi'⟩, rfl, ha, h1, h2, h3⟩
    rw [List.length_map] at hy
    have h11 : rows[11]? = some (rows[11]'(by omega)) := List.getElem?_eq_getElem _
    refine hq2 _ _ ⟨s2, mp, rows, rfl, hmp, hr, by omega, rows[11]'(by omega), List.getElem_mem _, ?_⟩
    obtain ⟨_, _, a, x, lo, hi', e, ha, h1, h2, h3, h4⟩ := hE 11 (.ref (rows[11]'(by omega)).a) (by rw [List.getElem?_map, h11]; rfl)
    have e2 : (rows[11]'(by omega)).a = a := V.ref.inj e
    have e3 := (hr _ (List.getElem_mem (show 11 < rows.length by omega))).1
    rw [e2, ha] at e3
    injection e3 with e3
    injection e3 with e3
    injection e3 with _ e3
    injection e3 with _ e3
    injection e3 with e3 _
    injection e3 with e3
    rw [← e3]
    exact h4 rfl
end
end Sw

set_option maxHeartbeats 4000000
namespace Sw
open PySem PySem.Spec PyProof.Rows L2 C8
local macro_rules | `(tactic| walk_at "v") => `(tactic| (with_reducible show tVar _ _ _ _; with_unfolding_all refine r_var rfl ?_))
local macro_rules | `(tactic| walk_at "x") => `(tactic| ((first | with_reducible refine r_ixTc (xs := ?xs) (v := ?v) ?hl ?e ?h | with_reducible refine r_ixLc (xs := ?xs) (v := ?v) ?hl ?e ?h); (case hl => first | assumption | exact SqT.of (by assumption) | exact SqL.of (by assumption)); (case e => first | rfl | assumption | exact atI_zero)))
local macro_rules | `(tactic| walk_at "n") => `(tactic| ((first | with_reducible refine r_mod ?hj (fun _ _ _ => ?_) | with_reducible refine r_mul ?hj ?_ | with_reducible refine r_div ?hj ?hd ?_ | with_reducible refine r_pow ?hj ?_); (case hj => first | (with_reducible show (0 : Int) < _; first | decide | omega) | exact ⟨by decide, by decide, by decide⟩ | exact .inr ⟨by decide, by decide⟩ | exact .inl ⟨by decide, by decide⟩ | exact .inl ⟨by omega, by omega⟩ | exact .inr ⟨by omega, by omega⟩); (try case hd => first | decide | omega)))
local macro_rules | `(tactic| walk_at "s0") => `(tactic| first
  | with_reducible refine r_seq ?_ | with_reducible refine r_asg ?_ | ((with_reducible refine r_gname ?_); dsimp only [List.set_cons_succ, List.set_cons_zero, List.set]) | with_reducible refine r_ret ?_ | with_reducible refine r_drop ?_ | with_reducible refine r_if ?_
  | with_reducible refine r_test ?_ | with_reducible refine r_B ?_ | with_reducible refine r_op ?_ | with_reducible refine r_cons ?_ | with_reducible refine r_nil ?_ | with_reducible refine r_c ?_ | walk_at "v"
  | with_reducible refine r_cl ?_ | with_reducible refine r_cb ?_ | with_reducible refine r_I0 ?_ | with_reducible refine r_bl ?_ | ((with_reducible refine r_eq ?hs ?_); (case hs => rfl)) | ((with_reducible refine r_ne ?hs ?_); (case hs => rfl))
  | with_reducible refine r_un ?_ | with_reducible refine r_neg ?_ | with_reducible refine r_int ?_ | with_reducible refine r_intB ?_ | with_reducible refine r_min2 ?_ | with_reducible refine r_max2 ?_
  | with_reducible refine r_tup ?_ | with_reducible refine r_lst ?_ | with_reducible refine r_not ?_ | with_reducible refine r_ifE ?_
  | with_reducible refine r_andV ?_ | with_reducible refine r_orV ?_ | with_reducible refine r_notV ?_ | with_reducible refine r_next ?_ | with_reducible refine r_brk ?_ | with_reducible refine r_for ?_ | with_reducible refine r_slc ?_ | with_reducible refine r_nop ?_ | with_reducible refine r_part ?_ | with_reducible refine r_ei ?_ | with_reducible refine r_bm ?_ | with_reducible refine r_isN ?_ | with_reducible refine r_notN ?_ | with_reducible refine r_m1 ?_ | with_reducible refine r_lc ?_ | with_reducible refine r_rng1 ?_ | with_reducible refine r_rng2 ?_ | with_reducible refine r_ilist ?_ | with_reducible refine r_itup ?_ | with_reducible refine iteT ?_ | with_reducible refine iteF ?_ | with_reducible refine r_sub ?_ | walk_at "n" | walk_at "x")
local macro_rules | `(tactic| walk_at "s1") => `(tactic| first | walk_at "s0" | with_reducible refine r_and ?_ | with_reducible refine r_or ?_)
local macro_rules | `(tactic| walk_at "u") => `(tactic| (try dsimp only); repeat walk_at "s0")
local macro_rules | `(tactic| walk_at "pt") => `(tactic| first
  | ((with_reducible refine r_and2 (a := ?a) (b := ?b) ?h1 ?h2 ?h); (case h1 => intro _ q; walk_at "pt"; exact q); (case h2 => intro _ q; walk_at "pt"; exact q); (try dsimp only))
  | ((with_reducible refine r_or2 (a := ?a) (b := ?b) ?h1 ?h2 ?h); (case h1 => intro _ q; walk_at "pt"; exact q); (case h2 => intro _ q; walk_at "pt"; exact q); (try dsimp only))
  | walk_at "u")
local macro_rules | `(tactic| walk_at "s") => `(tactic| (try dsimp only); repeat walk_at "s1")
local macro_rules | `(tactic| walk_at "go") => `(tactic| (try simp only [cxK, cxK2]); (try simp only [List.map_cons, List.map_nil, List.replicate, List.cons_append, List.nil_append]); walk_at "s")
local macro_rules | `(tactic| walk_at "t") => `(tactic| ((try dsimp only); (try with_reducible refine iteT ?_); (try dsimp only)))

theorem kT {c : Bool} {A B : Prop} (hc : c = true) (h : A) : if c = true then A else B := by rw [if_pos hc]; exact h
theorem kF {c : Bool} {A B : Prop} (hc : c = false) (h : B) : if c = true then A else B := by rw [if_neg (by rw [hc]; exact Bool.false_ne_true)]; exact h
local macro_rules | `(tactic| walk_at "k") => `(tactic| ((try dsimp only); (first | refine kF (by decide +kernel) ?_ | refine kT (by decide +kernel) ?_); walk_at "s"))
theorem eq_of_get {α : Type} : ∀ {xs ys : List α}, ys.length = xs.length → (∀ (i : Nat) y, ys[i]? = some y → xs[i]? = some y) → ys = xs
  | [], [], _, _ => rfl
  | x :: xs, y :: ys, hl, h => by
    have h0 := h 0 y rfl
    have h0 : x = y := Option.some.inj h0
    subst h0
    rw [eq_of_get (xs := xs) (ys := ys) (Nat.succ.inj hl) fun i y hy => h (i + 1) y hy]
theorem pick {α : Type} {f : α → V} : ∀ {R : Nat → α → Prop} {ys : List V}, (∀ i y, ys[i]? = some y → ∃ p, y = f p ∧ R i p) → ∃ ps : List α, ys = ps.map f ∧ ∀ i p, ps[i]? = some p → R i p
  | _, [], _ => ⟨[], rfl, fun i p h => by simp at h⟩
  | R, y :: ys, h => by
    obtain ⟨p, rfl, hp⟩ := h 0 y rfl
    obtain ⟨ps, rfl, hps⟩ := pick (R := fun i => R (i + 1)) (ys := ys) fun i y hy => h (i + 1) y hy
    refine ⟨p :: ps, rfl, fun i q hq => ?_⟩
    cases i with
    | zero => have e := Option.some.inj hq; subst e; exact hp
    | succ i => exact hps i q hq
/-! ### a tree, seen at its head -/
theorem DtA.mem {K : PySem.W.Frag} {H : Hp} {R : PyData → Prop} : ∀ {vs : List V} {ds : List PyData}, DtA K H vs ds → (∀ d ∈ ds, R d) → ∀ v ∈ vs, ∃ d, Dt K H v d ∧ R d
  | _, _, .nil, _ => fun v h => by cases h
  | _, _, .cons a t, hr => fun v h => by
    rcases List.mem_cons.mp h with rfl | h
    · exact ⟨_, a, hr _ List.mem_cons_self⟩
    · exact t.mem (fun d hd => hr d (List.mem_cons_of_mem _ hd)) v h
inductive NV (K : PySem.W.Frag) (n : Nat) (H : Hp) : List V → PyData → Prop
  | other {k : Str} {r : List V} {ds : List PyData} : (AreaD (.tuple ds) ∧ k ∈ kinds4 ∨ LeafD (.tuple ds) ∧ k ∈ leafKinds) → DtA K H (.str k :: r) ds → NV K n H (.str k :: r) (.tuple ds)
  | sign {s : Str} {v : V} {d : PyData} : Dt K H v d → WF n d → NV K n H [.str "sign", .str s, v] (.tuple [.str "sign", .str s, d])
  | binary {s : Str} {v u : V} {d e : PyData} : Dt K H v d → WF n d → Dt K H u e → WF n e → NV K n H [.str "binary", .str s, v, u] (.tuple [.str "binary", .str s, d, e])
  | call {s : Str} {q : Addr} {vs : List V} {ds : List PyData} : SqT K H q vs → DtA K H vs ds → ds.length ≤ 1000 → (∀ d ∈ ds, WF n d) → NV K n H [.str "call", .str s, .ref q] (.tuple [.str "call", .str s, .tuple ds])
  | «let» {ws : List Str} {x : V} {q : Addr} {vs : List V} {ds : List PyData} {v : V} {d : PyData} : Dt K H x (.tuple (List.map PyData.str ws)) → (∀ w ∈ ws, NmOk w) → SqT K H q vs → DtA K H vs ds → ds.length ≤ 1000 → (∀ d ∈ ds, WF n d) → Dt K H v d → WF n d →
      NV K n H [.str "let", x, .ref q, v] (.tuple [.str "let", .tuple (List.map PyData.str ws), .tuple ds, d])
  | lambda {ws : List Str} {x : V} {v : V} {d : PyData} : Dt K H x (.tuple (List.map PyData.str ws)) → (∀ w ∈ ws, NmOk w) → Dt K H v d → WF n d → NV K n H [.str "lambda", x, v] (.tuple [.str "lambda", .tuple (List.map PyData.str ws), d])
  | apply {q : Addr} {vs : List V} {ds : List PyData} {v : V} {d : PyData} : Dt K H v d → WF n d → SqT K H q vs → DtA K H vs ds → ds.length ≤ 1000 → (∀ d ∈ ds, WF n d) → NV K n H [.str "apply", v, .ref q] (.tuple [.str "apply", d, .tuple ds])
theorem nv {K : PySem.W.Frag} {n : Nat} {H : Hp} {v : V} {d : PyData} (h : Dt K H v d) (hw : WF (n + 1) d) : ∃ a xs, v = .ref a ∧ SqT K H a xs ∧ NV K n H xs d := by
  rcases hw with hw | hw | ⟨s, t, rfl, h1⟩ | ⟨s, l, r, rfl, h1, h2⟩ | ⟨w, ts, rfl, hl, h1⟩ | ⟨ws, ts, b, rfl, hw, hl, h1, h2⟩ | ⟨ws, b, rfl, hw, h1⟩ | ⟨t, ts, rfl, h1, hl, h2⟩
  · obtain ⟨k, r, rfl, hk⟩ := area_head hw
    cases h with
    | tup hs hd => cases hd with
      | cons a t => cases a; exact ⟨_, _, rfl, hs, .other (.inl ⟨hw, hk⟩) (.cons (.str _) t)⟩
  · have hw0 := hw
    obtain ⟨k, r, rfl, hk, -⟩ := hw
    cases h with
    | tup hs hd => cases hd with
      | cons a t => cases a; exact ⟨_, _, rfl, hs, .other (.inr ⟨hw0, hk⟩) (.cons (.str _) t)⟩
  · cases h with
    | tup hs hd => cases hd with
      | cons a hd => cases hd with
        | cons b hd => cases hd with
          | cons c hd =>
            cases hd; cases a; cases b
            exact ⟨_, _, rfl, hs, .sign c h1⟩
  · cases h with
    | tup hs hd => cases hd with
      | cons a hd => cases hd with
        | cons b hd => cases hd with
          | cons c hd => cases hd with
            | cons e hd =>
              cases hd; cases a; cases b
              exact ⟨_, _, rfl, hs, .binary c h1 e h2⟩
  · cases h with
    | tup hs hd => cases hd with
      | cons a hd => cases hd with
        | cons b hd => cases hd with
          | cons c hd =>
            cases hd; cases a; cases b
            cases c with
            | tup q1 q2 => exact ⟨_, _, rfl, hs, .call q1 q2 hl h1⟩
  · cases h with
    | tup hs hd => cases hd with
      | cons a hd => cases hd with
        | cons b hd => cases hd with
          | cons c hd => cases hd with
            | cons e hd =>
              cases hd; cases a
              cases c with
              | tup q1 q2 => exact ⟨_, _, rfl, hs, .let b hw q1 q2 hl h1 e h2⟩
  · cases h with
    | tup hs hd => cases hd with
      | cons a hd => cases hd with
        | cons b hd => cases hd with
          | cons c hd =>
            cases hd; cases a
            exact ⟨_, _, rfl, hs, .lambda b hw c h1⟩
  · cases h with
    | tup hs hd => cases hd with
      | cons a hd => cases hd with
        | cons b hd => cases hd with
          | cons c hd =>
            cases hd; cases a
            cases c with
            | tup q1 q2 => exact ⟨_, _, rfl, hs, .apply b h1 q1 q2 hl h2⟩
def treeKinds : List Str := ["sign", "binary", "call", "let", "lambda", "apply"]
theorem notTree0 : ∀ k ∈ kinds4 ++ leafKinds, ∀ t ∈ treeKinds, decide (V.str k = V.str t) = false := by decide +kernel
theorem notTree {k : Str} (h : k ∈ kinds4 ∨ k ∈ leafKinds) : ∀ t ∈ treeKinds, decide (V.str k = V.str t) = false := notTree0 k (List.mem_append.mpr h)
/-! ### trees made anew -/
section
variable {K : PySem.W.Frag} {H : Hp} {n : Nat} {p : Addr}
theorem mkT_sign {s : Str} {v : V} (h : SqT K H p [.str "sign", .str s, v]) (t : Tr K n H v) : Tr K (n + 1) H (.ref p) := by
  obtain ⟨d, h1, h2⟩ := t
  exact ⟨_, .tup h (.cons (.str _) (.cons (.str _) (.cons h1 .nil))), .inr (.inr (.inl ⟨s, d, rfl, h2⟩))⟩
theorem mkT_binary {s : Str} {v u : V} (h : SqT K H p [.str "binary", .str s, v, u]) (t : Tr K n H v) (t2 : Tr K n H u) : Tr K (n + 1) H (.ref p) := by
  obtain ⟨d, h1, h2⟩ := t
  obtain ⟨e, g1, g2⟩ := t2
  exact ⟨_, .tup h (.cons (.str _) (.cons (.str _) (.cons h1 (.cons g1 .nil)))), .inr (.inr (.inr (.inl ⟨s, d, e, rfl, h2, g2⟩)))⟩
theorem mkT_call {s : Str} {q : Addr} {vs : List V} (h : SqT K H p [.str "call", .str s, .ref q]) (hq : SqT K H q vs) (hl : vs.length ≤ 1000) (t : ∀ v ∈ vs, Tr K n H v) : Tr K (n + 1) H (.ref p) := by
  obtain ⟨ds, h3, h4⟩ := DtA.of (R := WF n) t
  exact ⟨_, .tup h (.cons (.str _) (.cons (.str _) (.cons (.tup hq h3) .nil))), .inr (.inr (.inr (.inr (.inl ⟨s, ds, rfl, by rw [← h3.length]; exact hl, h4⟩))))⟩
theorem mkT_let {ws : List Str} {x : V} {q2 : Addr} {vs : List V} {b : V} (h : SqT K H p [.str "let", x, .ref q2, b]) (hq : Dt K H x (.tuple (List.map PyData.str ws))) (hw : ∀ w ∈ ws, NmOk w) (hq2 : SqT K H q2 vs) (hl : vs.length ≤ 1000) (t : ∀ v ∈ vs, Tr K n H v) (tb : Tr K n H b) : Tr K (n + 1) H (.ref p) := by
  obtain ⟨ds, h3, h4⟩ := DtA.of (R := WF n) t
  obtain ⟨e, g1, g2⟩ := tb
  exact ⟨_, .tup h (.cons (.str _) (.cons hq (.cons (.tup hq2 h3) (.cons g1 .nil)))), .inr (.inr (.inr (.inr (.inr (.inl ⟨ws, ds, e, rfl, hw, by rw [← h3.length]; exact hl, h4, g2⟩)))))⟩
theorem mkT_lambda {ws : List Str} {x : V} {b : V} (h : SqT K H p [.str "lambda", x, b]) (hq : Dt K H x (.tuple (List.map PyData.str ws))) (hw : ∀ w ∈ ws, NmOk w) (tb : Tr K n H b) : Tr K (n + 1) H (.ref p) := by
  obtain ⟨e, g1, g2⟩ := tb
  exact ⟨_, .tup h (.cons (.str _) (.cons hq (.cons g1 .nil))), .inr (.inr (.inr (.inr (.inr (.inr (.inl ⟨ws, e, rfl, hw, g2⟩))))))⟩
theorem mkT_apply {q : Addr} {vs : List V} {b : V} (h : SqT K H p [.str "apply", b, .ref q]) (tb : Tr K n H b) (hq : SqT K H q vs) (hl : vs.length ≤ 1000) (t : ∀ v ∈ vs, Tr K n H v) : Tr K (n + 1) H (.ref p) := by
  obtain ⟨ds, h3, h4⟩ := DtA.of (R := WF n) t
  obtain ⟨e, g1, g2⟩ := tb
  exact ⟨_, .tup h (.cons (.str _) (.cons g1 (.cons (.tup hq h3) .nil))), .inr (.inr (.inr (.inr (.inr (.inr (.inr ⟨e, ds, rfl, g2, by rw [← h3.length]; exact hl, h4⟩))))))⟩
end
section
variable {P : Program} {w : World} {K : PySem.W.Frag} {mg : Str → Option Value} {base : Heap}
/-! ### _law_parts -/
abbrev N__law_parts : List Str := ["_law_tree_here"]
theorem sc__law_parts : FnScope N__law_parts ["_law_tree_here"] (defScope (topS 37)) := ⟨rfl, rfl, rfl, by decide +kernel, rfl, by decide +kernel, by decide +kernel⟩
def spParts (K : PySem.W.Frag) : Sp := Spc (V × Nat) (fun z => [z.1]) (fun z H => Tr K (z.2 + 1) H z.1)
  fun z H v H' => Same H H' ∧ ∃ l vs, v = .ref l ∧ H' l = some (.lst vs) ∧ vs.length ≤ 2000 ∧ (∀ v ∈ vs, Tr K z.2 H' v) ∧ ∀ m H2, Same H' H2 → (∀ v ∈ vs, Tr K m H2 v) → Tr K (m + 1) H2 z.1
theorem cl_parts (F : Df K mg "_law_parts" 37) (B : Bi mg) : Cl P w K mg base 1 "_law_parts" (spParts K) := by
  refine mk_cl F sc__law_parts (fun _ _ _ _ _ _ us hl => match us, hl with | [_], _ => rfl) (fun _ => rfl) 0 rfl fun f cdv A outer s H Q z hr hp hq => ?_
  obtain ⟨v0, n⟩ := z
  obtain ⟨d, hd, hw⟩ := hp
  obtain ⟨a, xs, e, hs, hn⟩ := nv hd hw
  dsimp only at e hq
  subst e
  refine ⟨_, ((pss_cons (ps_if (PW.pt (pw_or (pt_cmpR op_eq (pe_ix ix_tup (pv 0) pe_int (fun _ _ => rfl)) pe_str (nomark _)) (pw_or1 (pt_cmpR op_eq (pe_ix ix_tup (pv 0) pe_int (fun _ _ => rfl)) pe_str (nomark _))))) (pss_one (ps_ret (pe_lst (pa_cons (pe_ix ix_tup (pv 0) pe_int (fun _ _ => rfl)) pa_nil)))) pss_nil)
      (pss_cons (ps_if (pt_cmpR op_eq (pe_ix ix_tup (pv 0) pe_int (fun _ _ => rfl)) pe_str (nomark _)) (pss_one (ps_ret (pe_lst (pa_cons (pe_ix ix_tup (pv 0) pe_int (fun _ _ => rfl)) (pa_cons (pe_ix ix_tup (pv 0) pe_int (fun _ _ => rfl)) pa_nil))))) pss_nil)
      (pss_cons (ps_if (pt_cmpR op_eq (pe_ix ix_tup (pv 0) pe_int (fun _ _ => rfl)) pe_str (nomark _)) (pss_one (ps_ret (pe_callTy cl_list (by rfl) B.tlist (by decide +kernel) (pa_cons (pe_ix ix_tup (pv 0) pe_int (fun _ _ => rfl)) pa_nil)))) pss_nil)
      (pss_cons (ps_if (pt_cmpR op_eq (pe_ix ix_tup (pv 0) pe_int (fun _ _ => rfl)) pe_str (nomark _)) (pss_one (ps_ret (pe_op op_cat (pe_callTy cl_list (by rfl) B.tlist (by decide +kernel) (pa_cons (pe_ix ix_tup (pv 0) pe_int (fun _ _ => rfl)) pa_nil)) (pe_lst (pa_cons (pe_ix ix_tup (pv 0) pe_int (fun _ _ => rfl)) pa_nil))))) pss_nil)
      (pss_cons (ps_if (pt_cmpR op_eq (pe_ix ix_tup (pv 0) pe_int (fun _ _ => rfl)) pe_str (nomark _)) (pss_one (ps_ret (pe_op op_cat (pe_lst (pa_cons (pe_ix ix_tup (pv 0) pe_int (fun _ _ => rfl)) pa_nil)) (pe_callTy cl_list (by rfl) B.tlist (by decide +kernel) (pa_cons (pe_ix ix_tup (pv 0) pe_int (fun _ _ => rfl)) pa_nil))))) pss_nil)
      (pss_one (ps_ret (pe_lst pa_nil))))))))), ?_⟩
  cases hn with
  | @other k r ds hA h1 =>
    have hne := notTree (hA.elim (fun h => .inl h.2) fun h => .inr h.2)
    have e1 := hne "sign" (by decide)
    have e2 := hne "lambda" (by decide)
    have e3 := hne "binary" (by decide)
    have e4 := hne "call" (by decide)
    have e5 := hne "let" (by decide)
    have e6 := hne "apply" (by decide)
    walk_at "go"
    repeat (refine kF (by assumption) ?_; walk_at "s")
    refine n_lst (szr rfl) fun l H1 nl s1 hl1 => ?_
    exact hq _ _ ⟨s1, _, [], rfl, hl1, Nat.zero_le _, (fun v hv => by cases hv), fun m H3 s3 _ => ⟨_, (Dt.tup hs h1).up (s1.trans s3), by
      rcases hA with hA | hA
      · exact .inl hA.1
      · exact .inr (.inl hA.1)⟩⟩
  | @sign s v d h1 h2 =>
    walk_at "go"
    repeat walk_at "k"
    refine n_lst (szr rfl) fun l H1 nl s1 hl1 => ?_
    refine hq _ _ ⟨s1, _, _, rfl, hl1, Nat.le_of_ble_eq_true rfl, fun x hx => ?_, fun m H3 s3 ht => mkT_sign ((s1.trans s3).seqT hs) (ht _ (by simp))⟩
    rw [List.mem_singleton.mp hx]
    exact ⟨_, h1.up s1, h2⟩
  | @binary s v u d e h1 h2 h3 h4 =>
    walk_at "go"
    repeat walk_at "k"
    refine n_lst (szr rfl) fun l H1 nl s1 hl1 => ?_
    refine hq _ _ ⟨s1, _, _, rfl, hl1, Nat.le_of_ble_eq_true rfl, fun x hx => ?_, fun m H3 s3 ht => mkT_binary ((s1.trans s3).seqT hs) (ht _ (by simp)) (ht _ (by simp))⟩
    rcases List.mem_cons.mp hx with rfl | hx
    · exact ⟨_, h1.up s1, h2⟩
    · rw [List.mem_singleton.mp hx]
      exact ⟨_, h3.up s1, h4⟩
  | @call s q vs ds h1 h2 h3 h4 =>
    walk_at "go"
    repeat walk_at "k"
    refine r_list (.inr h1) fun l H1 nl s1 hl1 => ?_
    have hl := h2.length
    exact hq _ _ ⟨s1, _, _, rfl, hl1, (by omega), fun x hx => Tr.up s1 (h2.mem h4 x hx), fun m H3 s3 ht => mkT_call ((s1.trans s3).seqT hs) ((s1.trans s3).seqT h1) (by omega) ht⟩
  | @«let» ws x q vs ds v d h1 h2 h3 h4 h5 h6 h7 h8 =>
    walk_at "go"
    repeat walk_at "k"
    refine r_list (.inr h3) fun l H1 nl s1 hl1 => ?_
    have hs1 := s1.seqT hs
    walk_at "s"
    refine n_lst (szr rfl) fun l2 H2 nl2 s2 hl2 => ?_
    have hl := h4.length
    refine r_cat (s2 _ _ hl1) hl2 (by show _ + 1 ≤ _; omega) fun l3 H3 nl3 s3 hl3 => ?_
    have s13 := (s1.trans s2).trans s3
    refine hq _ _ ⟨s13, _, _, rfl, hl3, (by rw [List.length_append]; show _ + 1 ≤ _; omega), fun x hx => ?_, fun m H4 s4 ht => ?_⟩
    · rcases List.mem_append.mp hx with hx | hx
      · exact Tr.up s13 (h4.mem h6 x hx)
      · rw [List.mem_singleton.mp hx]
        exact ⟨_, h7.up s13, h8⟩
    · exact mkT_let ((s13.trans s4).seqT hs) (h1.up (s13.trans s4)) h2 ((s13.trans s4).seqT h3) (by omega) (fun x hx => ht x (List.mem_append_left _ hx)) (ht v (List.mem_append_right _ (by simp)))
  | @lambda ws x v d h1 h2 h3 h4 =>
    walk_at "go"
    repeat walk_at "k"
    refine n_lst (szr rfl) fun l H1 nl s1 hl1 => ?_
    refine hq _ _ ⟨s1, _, _, rfl, hl1, Nat.le_of_ble_eq_true rfl, fun x hx => ?_, fun m H3 s3 ht => mkT_lambda ((s1.trans s3).seqT hs) (h1.up (s1.trans s3)) h2 (ht _ (by simp))⟩
    rw [List.mem_singleton.mp hx]
    exact ⟨_, h3.up s1, h4⟩
  | @apply q vs ds v d h1 h2 h3 h4 h5 h6 =>
    walk_at "go"
    repeat walk_at "k"
    refine n_lst (szr rfl) fun l2 H1 nl2 s1 hl2 => ?_
    have hs1 := s1.seqT hs
    walk_at "s"
    refine r_list (.inr (s1.seqT h3)) fun l H2 nl s2 hl1 => ?_
    have hl := h4.length
    refine r_cat (s2 _ _ hl2) hl1 (by show 1 + _ ≤ _; omega) fun l3 H3 nl3 s3 hl3 => ?_
    have s13 := (s1.trans s2).trans s3
    refine hq _ _ ⟨s13, _, _, rfl, hl3, (by rw [List.length_append]; show 1 + _ ≤ _; omega), fun x hx => ?_, fun m H4 s4 ht => ?_⟩
    · rcases List.mem_append.mp hx with hx | hx
      · rw [List.mem_singleton.mp hx]
        exact ⟨_, h1.up s13, h2⟩
      · exact Tr.up s13 (h4.mem h6 x hx)
    · exact mkT_apply ((s13.trans s4).seqT hs) (ht v (List.mem_append_left _ (by simp))) ((s13.trans s4).seqT h3) (by omega) (fun x hx => ht x (List.mem_append_right _ hx))
/-! ### _law_size -/
abbrev N__law_size : List Str := ["_law_tree_here", "_law_parts_here", "_law_part", "_law_deep"]
theorem sc__law_size : FnScope N__law_size ["_law_tree_here"] (defScope (topS 38)) := ⟨rfl, rfl, rfl, by decide +kernel, rfl, by decide +kernel, by decide +kernel⟩
def SzA (K : PySem.W.Frag) (H : Hp) (x : V) (a : Addr) (c m : Int) : Prop := H a = some (.tup [.int c, .int m]) ∧ 1 ≤ m ∧ Tr K m.toNat H x
def spSize (K : PySem.W.Frag) (n : Nat) : Sp := Spc V (fun z => [z]) (fun z H => Tr K n H z)
  fun z H v H' => Same H H' ∧ ∃ a c m, v = .ref a ∧ SzA K H' z a c m
theorem cl_size (F : Df K mg "_law_size" 38) (B : Bi mg) (c_law_parts : Cl P w K mg base 1 "_law_parts" (spParts K)) : ∀ n, Cl P w K mg base (n + 1) "_law_size" (spSize K n)
  | 0 => by
    refine mk_cl F sc__law_size (fun _ _ _ _ _ _ us hl => match us, hl with | [_], _ => rfl) (fun _ => rfl) 3 rfl fun f cdv A outer s H Q z hr hp hq => ?_
    obtain ⟨d, hd, hw⟩ := hp
    exact hw.elim
  | n + 1 => by
    have c_law_size := cl_size F B c_law_parts n
    refine mk_cl F sc__law_size (fun _ _ _ _ _ _ us hl => match us, hl with | [_], _ => rfl) (fun _ => rfl) 3 rfl fun f cdv A outer s H Q z hr hp hq => ?_
    have hp : Tr K (n + 1) H z := hp
    refine ⟨_, ((pss_cons (ps_setLc (i := 1) (own := [("_law_part", 2)]) (g := gName 2) rfl sc__law_size.nd rfl rfl (sw_true rfl rfl rfl (by decide +kernel)) (pi_list (pe_cl c_law_parts hr (by omega) (by rfl) (pa_cons (pv 0) pa_nil))) (blkOk_by (own := [("_law_part", 2)]) (N := N__law_size) (sc := defScope (topS 38)) (by decide +kernel)) (fun _ _ _ _ _ => pg_name (i := 2) sc__law_size.nd rfl (Or.inl rfl)) (fun _ _ _ _ _ => pts_nil) (fun _ _ _ _ _ => (pe_cl c_law_size hr (by omega) (by rfl) (pa_cons (pv 2) pa_nil))))
      (pss_one (ps_ret (pe_tup (pa_cons (pe_op op_add pe_int (pe_callB (cr_sum rfl) (by rfl) B.tsum (by decide +kernel) (pa_cons (pe_lc (own := [("_law_part", 2)]) (g := gName 2) rfl sc__law_size.nd (pi_list (pv 1)) (blkOk_by (own := [("_law_part", 2)]) (N := N__law_size) (sc := defScope (topS 38)) (by decide +kernel)) (fun _ _ _ _ _ => pg_name (i := 2) sc__law_size.nd rfl (Or.inl rfl)) (fun _ _ _ _ _ => pts_nil) (fun _ _ _ _ _ => (pe_ix (ix_tup : IxR _ (rIxT K)) (pv 2) pe_int (fun _ _ => rfl)))) pa_nil))) (pa_cons (pe_op op_add pe_int (pe_callB (cr_max rfl) (by rfl) B.tmax (by decide +kernel) (pa_cons (pe_lc (own := [("_law_deep", 3)]) (g := gName 3) rfl sc__law_size.nd (pi_list (pe_op op_cat (pe_lst (pa_cons pe_int pa_nil)) (pe_lc (own := [("_law_part", 2)]) (g := gName 2) rfl sc__law_size.nd (pi_list (pv 1)) (blkOk_by (own := [("_law_part", 2)]) (N := N__law_size) (sc := defScope (topS 38)) (by decide +kernel)) (fun _ _ _ _ _ => pg_name (i := 2) sc__law_size.nd rfl (Or.inl rfl)) (fun _ _ _ _ _ => pts_nil) (fun _ _ _ _ _ => (pe_ix (ix_tup : IxR _ (rIxT K)) (pv 2) pe_int (fun _ _ => rfl)))))) (blkOk_by (own := [("_law_deep", 3)]) (N := N__law_size) (sc := defScope (topS 38)) (by decide +kernel)) (fun _ _ _ _ _ => pg_name (i := 3) sc__law_size.nd rfl (Or.inl rfl)) (fun _ _ _ _ _ => pts_nil) (fun _ _ _ _ _ => (pe_callTy cl_int (by rfl) B.tint (by decide +kernel) (pa_cons (pv 3) pa_nil)))) pa_nil))) pa_nil))))))), ?_⟩
    walk_at "go"
    refine ⟨(z, n), rfl, hp, ?_⟩
    rintro _ H1 ⟨s1, l, vs, rfl, hl, hlen, ht, hre⟩
    dsimp only at ht hre
    refine lcL (SqL.of hl) (by omega) ⟨fun i v H0 H1 => ∃ p : Addr × Int × Int, v = .ref p.1 ∧ ∃ x, vs[i]? = some x ∧ SzA K H1 x p.1 p.2.1 p.2.2, ?_, fun _ => rfl, fun i x H5 hi hx s Q' hQ' => ?_, fun mp H2 ys s2 nmp hmp hy hE => ?_⟩
    · rintro i v H0 H1 H2 D xs0 xs - hD sb ⟨p, rfl, x, e, ha, h1, h2⟩
      exact ⟨p, rfl, x, e, sb _ _ (ne_of ha hD fun z => nomatch z) ha, h1, h2.ts (sb.ts hD)⟩
    · have hx : vs[i]? = some x := hx
      walk_at "s"
      refine ⟨x, rfl, (ht x (List.mem_of_getElem? hx)).up s, ?_⟩
      rintro _ H6 ⟨s6, a, c, m, rfl, h⟩
      exact hQ' _ _ s6 ⟨(a, c, m), rfl, x, hx, h⟩
    obtain ⟨ps, rfl, hps⟩ := pick (f := fun p : Addr × Int × Int => V.ref p.1) (R := fun i p => ∃ x, vs[i]? = some x ∧ SzA K H2 x p.1 p.2.1 p.2.2) (ys := ys) fun i y hy => let ⟨_, _, h⟩ := hE i y hy; h
    rw [List.length_map] at hy
    have hrow : ∀ (H5 : Hp), Same H2 H5 → ∀ (i : Nat) (x : V), (ps.map fun p : Addr × Int × Int => V.ref p.1)[i]? = some x → ∃ p, ps[i]? = some p ∧ x = .ref p.1 ∧ H5 p.1 = some (.tup [.int p.2.1, .int p.2.2]) := fun H5 s i x h => by
      rw [List.getElem?_map] at h
      obtain ⟨p, hp, rfl⟩ := Option.map_eq_some_iff.mp h
      obtain ⟨_, _, h1, _⟩ := hps i p hp
      exact ⟨p, hp, rfl, s _ _ h1⟩
    walk_at "s"
    refine lcL (SqL.of hmp) (by rw [List.length_map]; omega) ⟨fun i v _ _ => ∃ p, ps[i]? = some p ∧ v = .int p.2.1, fun _ _ _ _ _ _ _ _ _ _ _ h => h, fun _ => rfl, fun i x H5 hi hx s Q' hQ' => ?_, fun m1 H3 ys s3 nm1 hm1 hy1 hE1 => ?_⟩
    · obtain ⟨p, hp, rfl, h5⟩ := hrow _ s _ _ hx
      walk_at "s"
      exact hQ' _ _ (Same.refl _) ⟨p, hp, rfl⟩
    have e1 : ys = (ps.map fun p : Addr × Int × Int => p.2.1).map V.int := eq_of_get (by rw [hy1]; simp) fun i y h => by
      obtain ⟨_, _, p, hp, rfl⟩ := hE1 i y h
      simp [hp]
    subst e1
    walk_at "s"
    refine ⟨m1, _, rfl, SqL.of hm1, ?_⟩
    walk_at "s"
    refine n_lst (szr rfl) fun l0 H4 nl0 s4 hl0 => ?_
    have hmp4 := s4 _ _ (s3 _ _ hmp)
    walk_at "s"
    refine lcL (SqL.of hmp4) (by rw [List.length_map]; omega) ⟨fun i v _ _ => ∃ p, ps[i]? = some p ∧ v = .int p.2.2, fun _ _ _ _ _ _ _ _ _ _ _ h => h, fun _ => rfl, fun i x H5 hi hx s Q' hQ' => ?_, fun m2 H5 ys s5 nm2 hm2 hy2 hE2 => ?_⟩
    · obtain ⟨p, hp, rfl, h5⟩ := hrow _ ((s3.trans s4).trans s) _ _ hx
      walk_at "s"
      exact hQ' _ _ (Same.refl _) ⟨p, hp, rfl⟩
    have e2 : ys = (ps.map fun p : Addr × Int × Int => p.2.2).map V.int := eq_of_get (by rw [hy2]; simp) fun i y h => by
      obtain ⟨_, _, p, hp, rfl⟩ := hE2 i y h
      simp [hp]
    subst e2
    refine r_cat (s5 _ _ hl0) hm2 (by simp only [List.length_map, List.length_singleton]; omega) fun l6 H6 nl6 s6 hl6 => ?_
    walk_at "s"
    have e3 : ([V.int 0] ++ (ps.map fun p : Addr × Int × Int => p.2.2).map V.int) = (0 :: ps.map fun p : Addr × Int × Int => p.2.2).map V.int := rfl
    rw [e3] at hl6
    refine lcL (SqL.of hl6) (by simp only [List.length_map, List.length_cons]; omega) ⟨fun i v _ _ => ((0 :: ps.map fun p : Addr × Int × Int => p.2.2).map V.int)[i]? = some v, fun _ _ _ _ _ _ _ _ _ _ _ h => h, fun _ => rfl, fun i x H7 hi hx s Q' hQ' => ?_, fun m3 H7 ys s7 nm3 hm3 hy3 hE3 => ?_⟩
    · have hx : ((0 :: ps.map fun p : Addr × Int × Int => p.2.2).map V.int)[i]? = some x := hx
      obtain ⟨j, -, rfl⟩ := List.mem_map.mp (List.mem_of_getElem? hx)
      walk_at "s"
      exact hQ' _ _ (Same.refl _) hx
    have e4 : ys = (0 :: ps.map fun p : Addr × Int × Int => p.2.2).map V.int := eq_of_get hy3 fun i y h => let ⟨_, _, h⟩ := hE3 i y h; h
    subst e4
    refine ⟨m3, _, rfl, SqL.of hm3, Nat.succ_pos _, fun m hm hmx => ?_⟩
    walk_at "s"
    refine n_tup (szr rfl) fun t H8 nt s8 ht8 => ?_
    have s28 := (((((s3.trans s4).trans s5).trans s6).trans s7).trans s8)
    have m0 : 0 ≤ m := hmx 0 List.mem_cons_self
    refine hq _ _ ⟨(s1.trans s2).trans s28, t, _, _, rfl, ht8, by omega, ?_⟩
    have := hre m.toNat H8 (s2.trans s28) fun v hv => by
      obtain ⟨i, hi⟩ := List.mem_iff_getElem?.mp hv
      have hlt := (List.getElem?_eq_some_iff.mp hi).1
      have hi2 : ps[i]? = some (ps[i]'(by omega)) := List.getElem?_eq_getElem _
      obtain ⟨x, e, _, _, hT⟩ := hps i _ hi2
      rw [hi] at e
      cases e
      refine (hT.up s28).mono ?_
      have := hmx _ (List.mem_cons_of_mem _ (List.mem_map.mpr ⟨_, List.mem_of_getElem? hi2, rfl⟩))
      omega
    rw [show (1 + m).toNat = m.toNat + 1 by omega]
    exact this
end
end Sw

set_option maxHeartbeats 4000000
namespace Sw
open PySem PySem.Spec PyProof.Rows L2 C8
local macro_rules | `(tactic| walk_at "v") => `(tactic| (with_reducible show tVar _ _ _ _; with_unfolding_all refine r_var rfl ?_))
local macro_rules | `(tactic| walk_at "x") => `(tactic| ((first | with_reducible refine r_ixTc (xs := ?xs) (v := ?v) ?hl ?e ?h | with_reducible refine r_ixLc (xs := ?xs) (v := ?v) ?hl ?e ?h); (case hl => first | assumption | exact SqT.of (by assumption) | exact SqL.of (by assumption)); (case e => first | rfl | assumption | exact atI_zero)))
local macro_rules | `(tactic| walk_at "n") => `(tactic| ((first | with_reducible refine r_mod ?hj (fun _ _ _ => ?_) | with_reducible refine r_mul ?hj ?_ | with_reducible refine r_div ?hj ?hd ?_ | with_reducible refine r_pow ?hj ?_); (case hj => first | (with_reducible show (0 : Int) < _; first | decide | omega) | exact ⟨by decide, by decide, by decide⟩ | exact .inr ⟨by decide, by decide⟩ | exact .inl ⟨by decide, by decide⟩ | exact .inl ⟨by omega, by omega⟩ | exact .inr ⟨by omega, by omega⟩); (try case hd => first | decide | omega)))
local macro_rules | `(tactic| walk_at "s0") => `(tactic| first
  | with_reducible refine r_seq ?_ | with_reducible refine r_asg ?_ | ((with_reducible refine r_gname ?_); dsimp only [List.set_cons_succ, List.set_cons_zero, List.set]) | with_reducible refine r_ret ?_ | with_reducible refine r_drop ?_ | with_reducible refine r_if ?_
  | with_reducible refine r_test ?_ | with_reducible refine r_B ?_ | with_reducible refine r_op ?_ | with_reducible refine r_cons ?_ | with_reducible refine r_nil ?_ | with_reducible refine r_c ?_ | walk_at "v"
  | with_reducible refine r_cl ?_ | with_reducible refine r_cb ?_ | with_reducible refine r_I0 ?_ | with_reducible refine r_bl ?_ | ((with_reducible refine r_eq ?hs ?_); (case hs => rfl)) | ((with_reducible refine r_ne ?hs ?_); (case hs => rfl))
  | with_reducible refine r_un ?_ | with_reducible refine r_neg ?_ | with_reducible refine r_int ?_ | with_reducible refine r_intB ?_ | with_reducible refine r_min2 ?_ | with_reducible refine r_max2 ?_
  | with_reducible refine r_tup ?_ | with_reducible refine r_lst ?_ | with_reducible refine r_not ?_ | with_reducible refine r_ifE ?_
  | with_reducible refine r_andV ?_ | with_reducible refine r_orV ?_ | with_reducible refine r_notV ?_ | with_reducible refine r_next ?_ | with_reducible refine r_brk ?_ | with_reducible refine r_for ?_ | with_reducible refine r_slc ?_ | with_reducible refine r_nop ?_ | with_reducible refine r_part ?_ | with_reducible refine r_ei ?_ | with_reducible refine r_bm ?_ | with_reducible refine r_isN ?_ | with_reducible refine r_notN ?_ | with_reducible refine r_m1 ?_ | with_reducible refine r_lc ?_ | with_reducible refine r_rng1 ?_ | with_reducible refine r_rng2 ?_ | with_reducible refine r_ilist ?_ | with_reducible refine r_itup ?_ | with_reducible refine iteT ?_ | with_reducible refine iteF ?_ | with_reducible refine r_sub ?_ | walk_at "n" | walk_at "x")
local macro_rules | `(tactic| walk_at "s1") => `(tactic| first | walk_at "s0" | with_reducible refine r_and ?_ | with_reducible refine r_or ?_)
local macro_rules | `(tactic| walk_at "u") => `(tactic| (try dsimp only); repeat walk_at "s0")
local macro_rules | `(tactic| walk_at "pt") => `(tactic| first
  | ((with_reducible refine r_and2 (a := ?a) (b := ?b) ?h1 ?h2 ?h); (case h1 => intro _ q; walk_at "pt"; exact q); (case h2 => intro _ q; walk_at "pt"; exact q); (try dsimp only))
  | ((with_reducible refine r_or2 (a := ?a) (b := ?b) ?h1 ?h2 ?h); (case h1 => intro _ q; walk_at "pt"; exact q); (case h2 => intro _ q; walk_at "pt"; exact q); (try dsimp only))
  | walk_at "u")
local macro_rules | `(tactic| walk_at "s") => `(tactic| (try dsimp only); repeat walk_at "s1")
local macro_rules | `(tactic| walk_at "go") => `(tactic| (try simp only [cxK, cxK2]); (try simp only [List.map_cons, List.map_nil, List.replicate, List.cons_append, List.nil_append]); walk_at "s")
local macro_rules | `(tactic| walk_at "t") => `(tactic| ((try dsimp only); (try with_reducible refine iteT ?_); (try dsimp only)))

local macro_rules | `(tactic| walk_at "k") => `(tactic| ((try dsimp only); (first | refine kF (by decide +kernel) ?_ | refine kT (by decide +kernel) ?_); walk_at "s"))
section
variable {P : Program} {w : World} {K : PySem.W.Frag} {mg : Str → Option Value} {base : Heap}
/-! ### _law_fits -/
abbrev N__law_fits : List Str := ["_law_tree_here", "_law_room", "_law_deep", "_law_size_here"]
theorem sc__law_fits : FnScope N__law_fits ["_law_tree_here", "_law_room", "_law_deep"] (defScope (topS 39)) := ⟨rfl, rfl, rfl, by decide +kernel, rfl, by decide +kernel, by decide +kernel⟩
def spFits (K : PySem.W.Frag) (n : Nat) : Sp := Spc (V × Int × Int) (fun z => [z.1, .int z.2.1, .int z.2.2]) (fun z H => Tr K n H z.1)
  fun z H v H' => Same H H' ∧ ∃ b, v = .bl b ∧ (b = true → 1 ≤ z.2.2 ∧ Tr K z.2.2.toNat H' z.1)
theorem cl_fits (F : Df K mg "_law_fits" 39) (B : Bi mg) (n : Nat) (c_law_size : Cl P w K mg base (n + 1) "_law_size" (spSize K n)) : Cl P w K mg base (n + 2) "_law_fits" (spFits K n) := by
  refine mk_cl F sc__law_fits (fun _ _ _ _ _ _ us hl => match us, hl with | [_, _, _], _ => rfl) (fun _ => rfl) 1 rfl fun f cdv A outer s H Q z hr hp hq => ?_
  obtain ⟨v, r, m⟩ := z
  have hp : Tr K n H v := hp
  dsimp only at hq
  refine ⟨_, ((pss_cons (ps_set (i := 3) sc__law_fits.nd rfl (Or.inl rfl) (pe_cl c_law_size hr (by omega) (by rfl) (pa_cons (pv 0) pa_nil)))
      (pss_one (ps_ret (pe_and (pe_cmpR op_le (pe_ix ix_tup (pv 3) pe_int (fun _ _ => rfl)) (pv 1) (nomark _)) (pe_one (pe_cmpR op_le (pe_ix ix_tup (pv 3) pe_int (fun _ _ => rfl)) (pv 2) (nomark _)))))))), ?_⟩
  walk_at "go"
  refine ⟨v, rfl, hp, ?_⟩
  rintro _ H1 ⟨s1, a, c, k, rfl, ha, hk, ht⟩
  walk_at "s"
  refine i2 (fun e0 => ?_) (fun e0 => ?_)
  · walk_at "s"
    refine hq _ _ ⟨s1, _, rfl, fun e => ?_⟩
    have e := of_decide_eq_true e
    exact ⟨by omega, ht.mono (by omega)⟩
  · exact hq _ _ ⟨s1, _, rfl, fun e => by cases e⟩
/-! ### _law_grown -/
abbrev N__law_grown : List Str := ["_law_state", "_law_plan", "_law_stack", "_law_size_here", "_law_room", "_law_deep", "_law_node_here"]
theorem sc__law_grown : FnScope N__law_grown ["_law_state", "_law_plan", "_law_stack", "_law_size_here", "_law_room", "_law_deep"] (defScope (topS 40)) := ⟨rfl, rfl, rfl, by decide +kernel, rfl, by decide +kernel, by decide +kernel⟩
structure ZG where
  st : Addr
  pl : Addr
  sk : Addr
  vs : List V
  sz : Int
  room : Int
def spGrown (K : PySem.W.Frag) : Sp := Spc ZG (fun z => [.ref z.st, .ref z.pl, .ref z.sk, .int z.sz, .int z.room, .int 16]) (fun z H => StOk H z.st ∧ PlanOk H z.pl ∧ H z.sk = some (.lst z.vs) ∧ z.vs.length ≤ 200 ∧ (∀ v ∈ z.vs, Tr K 16 H v) ∧ 0 ≤ z.sz ∧ z.sz ≤ 17)
  fun z H v H' => Same H H' ∧ ∃ l ws, v = .ref l ∧ H' l = some (.lst ws) ∧ ws.length ≤ z.vs.length + 1 ∧ 0 < ws.length ∧ ∀ v ∈ ws, Tr K 16 H' v
theorem cutTo (xs : List V) {j : Nat} (hj : j ≤ xs.length) : cutV xs none (some (j : Int)) = xs.take j := by
  unfold cutV
  rw [HT.sIx_none, HT.sIx_nat]
  simp only [List.drop_zero, Nat.sub_zero]
  rw [Nat.min_eq_left hj]
theorem cutFrom (xs : List V) {j : Nat} (hj : j ≤ xs.length) : cutV xs (some (j : Int)) none = xs.drop j := by
  unfold cutV
  rw [HT.sIx_none, HT.sIx_nat, Nat.min_eq_left hj]
  exact List.take_of_length_le (by rw [List.length_drop]; exact Nat.le_refl _)
theorem cl_grown (F : Df K mg "_law_grown" 40) (B : Bi mg) (c_law_leaf : Cl P w K mg base 6 "_law_leaf" (spLeaf K)) (c_law_node : Cl P w K mg base 5 "_law_node" (spNode K)) (c_law_fits : Cl P w K mg base 19 "_law_fits" (spFits K 17)) : Cl P w K mg base 20 "_law_grown" (spGrown K) := by
  refine mk_cl F sc__law_grown (fun _ _ _ _ _ _ us hl => match us, hl with | [_, _, _, _, _, _], _ => rfl) (fun _ => rfl) 1 rfl fun f cdv A outer s H Q z hr hp hq => ?_
  obtain ⟨st, pl, sk, vs, s0, room⟩ := z
  obtain ⟨hst, hpl, hsk, hl, hv, h0, h1⟩ := hp
  dsimp only at hst hpl hsk hl hv h0 h1 hq
  have leaf : spLeaf K [.ref st, .ref pl] H (fun x H1 => tNil [some (.ref st), some (.ref pl), some (.ref sk), some (.int s0), some (.int room), some (.int 16), none] H1 fun xs H2 => NwL (fun y H3 => rCat (.ref sk) y H3 Q) (x :: xs) H2) L2.E0 := by
    refine ⟨(st, pl), rfl, ⟨hst, hpl⟩, fun v H1 ⟨s1, t1⟩ => ?_⟩
    walk_at "s"
    refine n_lst (szr rfl) fun l H2 nl s2 hl2 => ?_
    refine r_cat (s2 _ _ (s1 _ _ hsk)) hl2 (by show _ + 1 ≤ _; omega) fun l3 H3 nl3 s3 hl3 => ?_
    refine hq _ _ ⟨(s1.trans s2).trans s3, _, _, rfl, hl3, by simp, by simp, fun x hx => ?_⟩
    rcases List.mem_append.mp hx with hx | hx
    · exact (hv x hx).up ((s1.trans s2).trans s3)
    · rw [List.mem_singleton.mp hx]
      exact (t1.up (s2.trans s3)).mono (by decide)
  refine ⟨_, ((pss_cons (ps_if (PW.pt (pw_or (pt_cmpR op_eq (pv 3) pe_int (nomark _)) (pw_or1 (pt_cmpR op_gt (pv 3) (pe_callB cl_len (by rfl) B.tlen (by decide +kernel) (pa_cons (pv 2) pa_nil)) (nomark _))))) (pss_one (ps_ret (pe_op op_cat (pv 2) (pe_lst (pa_cons (pe_cl c_law_leaf hr (by decide) (by rfl) (pa_cons (pv 0) (pa_cons (pv 1) pa_nil))) pa_nil))))) pss_nil)
      (pss_cons (ps_set (i := 6) sc__law_grown.nd rfl (Or.inl rfl) (pe_cl c_law_node hr (by decide) (by rfl) (pa_cons (pv 0) (pa_cons (pv 1) (pa_cons (pe_slice sl_list (pv 2) (po_some (pe_op op_sub (pe_callB cl_len (by rfl) B.tlen (by decide +kernel) (pa_cons (pv 2) pa_nil)) (pv 3))) po_none) pa_nil)))))
      (pss_cons (ps_if (pt_not (pt_val (pe_cl c_law_fits hr (by decide) (by rfl) (pa_cons (pv 6) (pa_cons (pv 4) (pa_cons (pv 5) pa_nil)))))) (pss_one (ps_ret (pv 2))) pss_nil)
      (pss_one (ps_ret (pe_op op_cat (pe_slice sl_list (pv 2) po_none (po_some (pe_op op_sub (pe_callB cl_len (by rfl) B.tlen (by decide +kernel) (pa_cons (pv 2) pa_nil)) (pv 3)))) (pe_lst (pa_cons (pv 6) pa_nil))))))))), ?_⟩
  walk_at "go"
  refine i2 (fun e0 => ?_) (fun e0 => ?_)
  · walk_at "s"
    exact leaf
  walk_at "s"
  refine r_lenL (SqL.of hsk) ?_
  walk_at "s"
  refine i2 (fun e1 => ?_) (fun e1 => ?_)
  · walk_at "s"
    exact leaf
  obtain ⟨m, rfl⟩ := Int.eq_ofNat_of_zero_le h0
  have hm : 0 < m := by
    have : ¬ ((m : Int) = 0) := fun h => e0 (by rw [h])
    omega
  have hml : m ≤ vs.length := by omega
  have ej : (vs.length : Int) - (m : Int) = ((vs.length - m : Nat) : Int) := by omega
  walk_at "s"
  refine r_lenL (SqL.of hsk) ?_
  walk_at "s"
  rw [ej]
  refine r_slL (SqL.of hsk) fun l H1 nl s1 hl1 => ?_
  rw [cutFrom _ (by omega)] at hl1
  walk_at "s"
  refine ⟨⟨st, pl, l, _, 15⟩, rfl, ⟨s1.st hst, hpl.up s1, hl1, by show 0 < (List.drop _ _).length; rw [List.length_drop]; omega, by show (List.drop _ _).length ≤ 17; rw [List.length_drop]; omega, fun v h => (hv v (List.mem_of_mem_drop h)).up s1⟩, ?_⟩
  rintro nd H2 ⟨s2, t2⟩
  walk_at "s"
  refine ⟨(nd, room, 16), rfl, t2, ?_⟩
  rintro _ H3 ⟨s3, b, rfl, hb⟩
  have s13 := (s1.trans s2).trans s3
  walk_at "s"
  cases b with
  | false =>
    walk_at "k"
    exact hq _ _ ⟨s13, _, _, rfl, s13 _ _ hsk, Nat.le_succ _, by omega, fun v h => (hv v h).up s13⟩
  | true =>
    walk_at "k"
    refine r_lenL (SqL.of (s13 _ _ hsk)) ?_
    walk_at "s"
    rw [ej]
    refine r_slL (SqL.of (s13 _ _ hsk)) fun l4 H4 nl4 s4 hl4 => ?_
    rw [cutTo _ (by omega)] at hl4
    walk_at "s"
    refine n_lst (szr rfl) fun l5 H5 nl5 s5 hl5 => ?_
    refine r_cat (s5 _ _ hl4) hl5 (by rw [List.length_take]; show _ + 1 ≤ _; omega) fun l6 H6 nl6 s6 hl6 => ?_
    have s36 := (s4.trans s5).trans s6
    refine hq _ _ ⟨s13.trans s36, _, _, rfl, hl6, by rw [List.length_append, List.length_take]; show _ + 1 ≤ _; omega, by simp, fun x hx => ?_⟩
    rcases List.mem_append.mp hx with hx | hx
    · exact (hv x (List.mem_of_mem_take hx)).up (s13.trans s36)
    · rw [List.mem_singleton.mp hx]
      exact (hb rfl).2.up s36
end
end Sw

set_option maxHeartbeats 4000000
namespace Sw
open PySem PySem.Spec PyProof.Rows L2 C8
local macro_rules | `(tactic| walk_at "v") => `(tactic| (with_reducible show tVar _ _ _ _; with_unfolding_all refine r_var rfl ?_))
local macro_rules | `(tactic| walk_at "x") => `(tactic| ((first | with_reducible refine r_ixTc (xs := ?xs) (v := ?v) ?hl ?e ?h | with_reducible refine r_ixLc (xs := ?xs) (v := ?v) ?hl ?e ?h); (case hl => first | assumption | exact SqT.of (by assumption) | exact SqL.of (by assumption)); (case e => first | rfl | assumption | exact atI_zero)))
local macro_rules | `(tactic| walk_at "n") => `(tactic| ((first | with_reducible refine r_mod ?hj (fun _ _ _ => ?_) | with_reducible refine r_mul ?hj ?_ | with_reducible refine r_div ?hj ?hd ?_ | with_reducible refine r_pow ?hj ?_); (case hj => first | (with_reducible show (0 : Int) < _; first | decide | omega) | exact ⟨by decide, by decide, by decide⟩ | exact .inr ⟨by decide, by decide⟩ | exact .inl ⟨by decide, by decide⟩ | exact .inl ⟨by omega, by omega⟩ | exact .inr ⟨by omega, by omega⟩); (try case hd => first | decide | omega)))
local macro_rules | `(tactic| walk_at "s0") => `(tactic| first
  | with_reducible refine r_seq ?_ | with_reducible refine r_asg ?_ | ((with_reducible refine r_gname ?_); dsimp only [List.set_cons_succ, List.set_cons_zero, List.set]) | with_reducible refine r_ret ?_ | with_reducible refine r_drop ?_ | with_reducible refine r_if ?_
  | with_reducible refine r_test ?_ | with_reducible refine r_B ?_ | with_reducible refine r_op ?_ | with_reducible refine r_cons ?_ | with_reducible refine r_nil ?_ | with_reducible refine r_c ?_ | walk_at "v"
  | with_reducible refine r_cl ?_ | with_reducible refine r_cb ?_ | with_reducible refine r_I0 ?_ | with_reducible refine r_bl ?_ | ((with_reducible refine r_eq ?hs ?_); (case hs => rfl)) | ((with_reducible refine r_ne ?hs ?_); (case hs => rfl))
  | with_reducible refine r_un ?_ | with_reducible refine r_neg ?_ | with_reducible refine r_int ?_ | with_reducible refine r_intB ?_ | with_reducible refine r_min2 ?_ | with_reducible refine r_max2 ?_
  | with_reducible refine r_tup ?_ | with_reducible refine r_lst ?_ | with_reducible refine r_not ?_ | with_reducible refine r_ifE ?_
  | with_reducible refine r_andV ?_ | with_reducible refine r_orV ?_ | with_reducible refine r_notV ?_ | with_reducible refine r_next ?_ | with_reducible refine r_brk ?_ | with_reducible refine r_for ?_ | with_reducible refine r_slc ?_ | with_reducible refine r_nop ?_ | with_reducible refine r_part ?_ | with_reducible refine r_ei ?_ | with_reducible refine r_bm ?_ | with_reducible refine r_isN ?_ | with_reducible refine r_notN ?_ | with_reducible refine r_m1 ?_ | with_reducible refine r_lc ?_ | with_reducible refine r_rng1 ?_ | with_reducible refine r_rng2 ?_ | with_reducible refine r_ilist ?_ | with_reducible refine r_itup ?_ | with_reducible refine iteT ?_ | with_reducible refine iteF ?_ | with_reducible refine r_sub ?_ | walk_at "n" | walk_at "x")
local macro_rules | `(tactic| walk_at "s1") => `(tactic| first | walk_at "s0" | with_reducible refine r_and ?_ | with_reducible refine r_or ?_)
local macro_rules | `(tactic| walk_at "u") => `(tactic| (try dsimp only); repeat walk_at "s0")
local macro_rules | `(tactic| walk_at "pt") => `(tactic| first
  | ((with_reducible refine r_and2 (a := ?a) (b := ?b) ?h1 ?h2 ?h); (case h1 => intro _ q; walk_at "pt"; exact q); (case h2 => intro _ q; walk_at "pt"; exact q); (try dsimp only))
  | ((with_reducible refine r_or2 (a := ?a) (b := ?b) ?h1 ?h2 ?h); (case h1 => intro _ q; walk_at "pt"; exact q); (case h2 => intro _ q; walk_at "pt"; exact q); (try dsimp only))
  | walk_at "u")
local macro_rules | `(tactic| walk_at "s") => `(tactic| (try dsimp only); repeat walk_at "s1")
local macro_rules | `(tactic| walk_at "go") => `(tactic| (try simp only [cxK, cxK2]); (try simp only [List.map_cons, List.map_nil, List.replicate, List.cons_append, List.nil_append]); walk_at "s")
local macro_rules | `(tactic| walk_at "t") => `(tactic| ((try dsimp only); (try with_reducible refine iteT ?_); (try dsimp only)))

local macro_rules | `(tactic| walk_at "k") => `(tactic| ((try dsimp only); (first | refine kF (by decide +kernel) ?_ | refine kT (by decide +kernel) ?_); walk_at "s"))
section
variable {P : Program} {w : World} {K : PySem.W.Frag} {mg : Str → Option Value} {base : Heap}
/-! ### cuts -/
structure Cut where
  own : V
  key : Int
  at' : Nat
  many : Nat
  rows : Bool
def Cut.n (c : Cut) : Nat := if c.rows then 20 else 10
def Cut.vs (c : Cut) : List V := [c.own, .int c.key, .int c.at', .int c.many, .bl c.rows]
structure CutOk (H : Hp) (a : Addr) (c : Cut) : Prop where
  h : H a = some (.lst c.vs)
  own : c.own = .non ∨ ∃ i, c.own = .int i
  at0 : c.at' < c.n
  many : 1 ≤ c.many
  many2 : c.many ≤ c.n
theorem CutOk.up {H H' : Hp} {a : Addr} {c : Cut} (e : Same H H') (h : CutOk H a c) : CutOk H' a c := ⟨e _ _ h.h, h.own, h.at0, h.many, h.many2⟩
theorem none_back {H H' : Hp} {a : Addr} (s : Same H H') (n : H' a = none) : H a = none := by
  cases e : H a with
  | none => rfl
  | some o => rw [s _ _ e] at n; cases n
abbrev N__law_cut : List Str := ["_law_state", "_law_own", "_law_key", "_law_is_rows", "_law_count", "_law_at", "_law_many", "_law_kind"]
theorem sc__law_cut : FnScope N__law_cut ["_law_state", "_law_own", "_law_key"] (defScope (topS 52)) := ⟨rfl, rfl, rfl, by decide +kernel, rfl, by decide +kernel, by decide +kernel⟩
def spCut : Sp := Spc (Addr × V × Int) (fun z => [.ref z.1, z.2.1, .int z.2.2]) (fun z H => StOk H z.1 ∧ (z.2.1 = .non ∨ ∃ i, z.2.1 = .int i))
  fun z H v H' => Same H H' ∧ ∃ a c, v = .ref a ∧ H a = none ∧ CutOk H' a c ∧ c.own = z.2.1 ∧ c.key = z.2.2
theorem cl_cut (F : Df K mg "_law_cut" 52) (B : Bi mg) (c_law_draw : Cl P w K mg base 2 "_law_draw" spDraw) (c_law_near : Cl P w K mg base 3 "_law_near" spNear) : Cl P w K mg base 4 "_law_cut" spCut := by
  refine mk_cl F sc__law_cut (fun _ _ _ _ _ _ us hl => match us, hl with | [_, _, _], _ => rfl) (fun _ => rfl) 5 rfl fun f cdv A outer s H Q z hr hp hq => ?_
  obtain ⟨st, own, key⟩ := z
  obtain ⟨hst, ho⟩ := hp
  dsimp only at hst ho hq
  refine ⟨_, ((pss_cons (ps_set (i := 3) sc__law_cut.nd rfl (Or.inl rfl) (pe_cmpR op_eq (pe_cl c_law_draw hr (by decide) (by rfl) (pa_cons (pv 0) (pa_cons pe_int pa_nil))) pe_int (nomark _)))
      (pss_cons (ps_set (i := 4) sc__law_cut.nd rfl (Or.inl rfl) (pe_ix ix_list (pe_lst (pa_cons pe_int (pa_cons pe_int pa_nil))) (pe_callTy cl_int (by rfl) B.tint (by decide +kernel) (pa_cons (pv 3) pa_nil)) (fun _ _ => rfl)))
      (pss_cons (ps_set (i := 5) sc__law_cut.nd rfl (Or.inl rfl) (pe_cl c_law_near hr (by decide) (by rfl) (pa_cons (pv 0) (pa_cons (pe_lst (pa_cons pe_int (pa_cons (pv 4) (pa_cons (pe_lst (pa_cons pe_int (pa_cons (pe_op op_sub (pv 4) pe_int) (pa_cons (pe_op op_sub (pv 4) pe_int) (pa_cons pe_int pa_nil))))) pa_nil)))) pa_nil))))
      (pss_cons (ps_set (i := 6) sc__law_cut.nd rfl (Or.inl rfl) (pe_op op_add pe_int (pe_cl c_law_draw hr (by decide) (by rfl) (pa_cons (pv 0) (pa_cons (pv 4) pa_nil)))))
      (pss_cons (ps_set (i := 7) sc__law_cut.nd rfl (Or.inl rfl) (pe_cl c_law_draw hr (by decide) (by rfl) (pa_cons (pv 0) (pa_cons pe_int pa_nil))))
      (C8.pss_cut (ps_if (pt_cmpR op_eq (pv 7) pe_int (nomark _)) (pss_one (ps_set (i := 6) sc__law_cut.nd rfl (Or.inl rfl) (pe_callB (cl_min2 rfl) (by rfl) B.tmin (by decide +kernel) (pa_cons (pe_callTy cl_int (by rfl) B.tint (by decide +kernel) (pa_cons (pv 4) pa_nil)) (pa_cons (pe_callTy cl_int (by rfl) B.tint (by decide +kernel) (pa_cons (pe_op op_add (pe_op op_sub (pv 4) (pv 5)) (pe_cl c_law_draw hr (by decide) (by rfl) (pa_cons (pv 0) (pa_cons pe_int pa_nil)))) pa_nil)) pa_nil))))) pss_nil)
      (C8.pss_cut (ps_if (pt_cmpR op_gt (pv 7) pe_int (nomark _)) (pss_one (ps_set (i := 6) sc__law_cut.nd rfl (Or.inl rfl) (pe_op op_add pe_int (pe_cl c_law_draw hr (by decide) (by rfl) (pa_cons (pv 0) (pa_cons pe_int pa_nil)))))) pss_nil)
      (pss_one (ps_ret (pe_lst (pa_cons (pv 1) (pa_cons (pv 2) (pa_cons (pv 5) (pa_cons (pv 6) (pa_cons (pv 3) pa_nil)))))))))))))))), ?_⟩
  walk_at "go"
  refine d_draw hst (by decide) (by decide) fun k k0 k1 => ?_
  walk_at "s"
  refine n_lst (szr rfl) fun l1 H1 nl1 s1 hl1 => ?_
  generalize hb : decide (V.int k = V.int 1) = b
  walk_at "s"
  have e1 : atI [V.int 10, V.int 20] (if b = true then 1 else 0) = some (.int ((if b then 20 else 10 : Nat) : Int)) := by cases b <;> rfl
  refine r_ixLc (SqL.of hl1) e1 ?_
  generalize hn : (if b then 20 else 10 : Nat) = n
  have n0 : 10 ≤ n := by rw [← hn]; cases b <;> decide
  have n1 : n ≤ 20 := by rw [← hn]; cases b <;> decide
  walk_at "s"
  refine n_lst (szr rfl) fun l2 H2 nl2 s2 hl2 => ?_
  walk_at "s"
  refine n_lst (szr rfl) fun l3 H3 nl3 s3 hl3 => ?_
  have s13 := (s1.trans s2).trans s3
  walk_at "s"
  refine d_near (lo := 0) (n := n) (s13.st hst) ⟨l2, [0, (n : Int) - 1, (n : Int) - 2, 1], hl3, s3 _ _ hl2, Nat.le_of_ble_eq_true rfl⟩ (by omega) (by omega) fun t t0 t1 => ?_
  obtain ⟨t, rfl⟩ := Int.eq_ofNat_of_zero_le t0
  walk_at "s"
  refine d_draw (s13.st hst) (by omega) (by omega) fun m m0 m1 => ?_
  walk_at "s"
  refine d_draw (s13.st hst) (by decide) (by decide) fun kk kk0 kk1 => ?_
  walk_at "s"
  refine r_cut (Mid := fun σ' H' => ∃ m : Int, 1 ≤ m ∧ m ≤ n ∧ σ' = [some (.ref st), some own, some (.int key), some (.bl b), some (.int n), some (.int t), some (.int m), some (.int kk)] ∧ H' = H3) ?_ ?_
  · walk_at "s"
    refine i2 (fun e0 => ?_) (fun e0 => ?_)
    · walk_at "s"
      refine d_draw (s13.st hst) (by decide) (by decide) fun j j0 j1 => ?_
      walk_at "s"
      refine ⟨_, ?_, ?_, rfl, rfl⟩ <;> split <;> omega
    · walk_at "s"
      exact ⟨_, by omega, by omega, rfl, rfl⟩
  rintro σ' H' ⟨m, m0, m1, rfl, rfl⟩
  refine r_cut (Mid := fun σ' H1 => ∃ m : Int, 1 ≤ m ∧ m ≤ n ∧ σ' = [some (.ref st), some own, some (.int key), some (.bl b), some (.int n), some (.int t), some (.int m), some (.int kk)] ∧ H1 = H') ?_ ?_
  · walk_at "s"
    refine i2 (fun e0 => ?_) (fun e0 => ?_)
    · walk_at "s"
      refine d_draw (s13.st hst) (by decide) (by decide) fun j j0 j1 => ?_
      walk_at "s"
      exact ⟨_, by omega, by omega, rfl, rfl⟩
    · walk_at "s"
      exact ⟨_, by omega, by omega, rfl, rfl⟩
  rintro σ' H4 ⟨m, m0, m1, rfl, rfl⟩
  obtain ⟨m, rfl⟩ := Int.eq_ofNat_of_zero_le (show 0 ≤ m by omega)
  walk_at "s"
  refine n_lst (szr rfl) fun l5 H5 nl5 s5 hl5 => ?_
  have en : Cut.n ⟨own, key, t, m, b⟩ = n := hn
  refine hq _ _ ⟨s13.trans s5, _, ⟨own, key, t, m, b⟩, rfl, none_back s13 nl5, ⟨hl5, ho, by rw [en]; show t < n; omega, by show 1 ≤ m; omega, by rw [en]; show m ≤ n; omega⟩, rfl, rfl⟩
/-! ### _law_marks -/
abbrev N__law_marks : List Str := ["_law_cuts", "_law_is_rows", "_law_last", "_law_marks_here", "_law_cut_here"]
theorem sc__law_marks : FnScope N__law_marks ["_law_cuts", "_law_is_rows"] (defScope (topS 53)) := ⟨rfl, rfl, rfl, by decide +kernel, rfl, by decide +kernel, by decide +kernel⟩
def spMarks : Sp := Spc (Addr × Bool × List (Addr × Cut)) (fun z => [.ref z.1, .bl z.2.1]) (fun z H => H z.1 = some (.lst (z.2.2.map fun p => V.ref p.1)) ∧ (∀ p ∈ z.2.2, CutOk H p.1 p.2) ∧ z.2.2.length ≤ 10)
  fun z H v H' => Same H H' ∧ ∃ a, v = .ref a ∧ SpanOk H' a 0 (if z.2.1 then 20 else 10)
theorem cl_marks (F : Df K mg "_law_marks" 53) (B : Bi mg) : Cl P w K mg base 1 "_law_marks" spMarks := by
  refine mk_cl F sc__law_marks (fun _ _ _ _ _ _ us hl => match us, hl with | [_, _], _ => rfl) (fun _ => rfl) 3 rfl fun f cdv A outer s H Q z hr hp hq => ?_
  obtain ⟨cs, b, ps⟩ := z
  obtain ⟨hcs, hps, hl⟩ := hp
  dsimp only at hcs hps hl hq
  refine ⟨_, ((pss_cons (ps_set (i := 2) sc__law_marks.nd rfl (Or.inl rfl) (pe_ix ix_list (pe_lst (pa_cons pe_int (pa_cons pe_int pa_nil))) (pe_callTy cl_int (by rfl) B.tint (by decide +kernel) (pa_cons (pv 1) pa_nil)) (fun _ _ => rfl)))
      (pss_cons (ps_set (i := 3) sc__law_marks.nd rfl (Or.inl rfl) (pe_lst (pa_cons pe_int (pa_cons (pv 2) pa_nil))))
      (pss_cons (ps_for PassesOwn.never rfl (pi_list (pv 0)) (pg_name (i := 4) sc__law_marks.nd rfl (Or.inl rfl)) (pss_one (ps_if (pt_cmpR op_eq (pe_ix ix_list (pv 4) pe_int (fun _ _ => rfl)) (pv 1) (nomark _)) (pss_one (ps_set (i := 3) sc__law_marks.nd rfl (Or.inl rfl) (pe_op op_cat (pv 3) (pe_lst (pa_cons (pe_op op_sub (pe_ix ix_list (pv 4) pe_int (fun _ _ => rfl)) pe_int) (pa_cons (pe_ix ix_list (pv 4) pe_int (fun _ _ => rfl)) (pa_cons (pe_op op_sub (pe_op op_add (pe_ix ix_list (pv 4) pe_int (fun _ _ => rfl)) (pe_ix ix_list (pv 4) pe_int (fun _ _ => rfl))) pe_int) (pa_cons (pe_op op_add (pe_ix ix_list (pv 4) pe_int (fun _ _ => rfl)) (pe_ix ix_list (pv 4) pe_int (fun _ _ => rfl))) (pa_cons (pe_op op_sub (pv 2) (pe_ix ix_list (pv 4) pe_int (fun _ _ => rfl))) (pa_cons (pe_op op_sub (pe_op op_add (pv 2) pe_int) (pe_ix ix_list (pv 4) pe_int (fun _ _ => rfl))) pa_nil)))))))))) pss_nil)))
      (pss_one (ps_ret (pe_lst (pa_cons pe_int (pa_cons (pe_op op_add (pv 2) pe_int) (pa_cons (pv 3) pa_nil)))))))))), ?_⟩
  walk_at "go"
  refine n_lst (szr rfl) fun l1 H1 nl1 s1 hl1 => ?_
  walk_at "s"
  have e1 : atI [V.int 9, V.int 19] (if b = true then 1 else 0) = some (.int (if b then 19 else 9)) := by cases b <;> rfl
  refine r_ixLc (SqL.of hl1) e1 ?_
  walk_at "s"
  refine n_lst (szr rfl) fun l2 H2 nl2 s2 hl2 => ?_
  walk_at "s"
  have s12 := s1.trans s2
  refine foL (SqL.of (s12 _ _ hcs)) (fun i σ' H' => Same H H' ∧ ∃ (l : Addr) (ms : List Int) (o : Option V), σ' = [some (.ref cs), some (.bl b), some (.int (if b then 19 else 9)), some (.ref l), o] ∧ H' l = some (.lst (ms.map V.int)) ∧ ms.length ≤ 2 + 6 * i) ⟨s12, l2, [0, if b then 19 else 9], _, rfl, hl2, Nat.le_of_ble_eq_true rfl⟩ (fun i σ H' ⟨s, _⟩ => SqL.of (s _ _ hcs)) ?_ ?_
  · rintro i x σ' H' hx ⟨s, l, ms, o, rfl, hl, hlen⟩
    rw [List.getElem?_map] at hx
    obtain ⟨p, hp, rfl⟩ := Option.map_eq_some_iff.mp hx
    have hc := ((hps p (List.mem_of_getElem? hp)).up s).h
    have hi : i < ps.length := (List.getElem?_eq_some_iff.mp hp).1
    unfold Cut.vs at hc
    walk_at "s"
    refine i2 (fun e0 => ?_) (fun e0 => ?_)
    · walk_at "s"
      refine n_lst (szr rfl) fun l3 H3 nl3 s3 hl3 => ?_
      refine r_cat (s3 _ _ hl) hl3 (by rw [List.length_map]; show _ + 6 ≤ _; omega) fun l4 H4 nl4 s4 hl4 => ?_
      walk_at "s"
      exact ⟨(s.trans s3).trans s4, l4, ms ++ [(p.2.at' : Int) - 1, (p.2.at' : Int), (p.2.at' : Int) + p.2.many - 1, (p.2.at' : Int) + p.2.many, (if b then 19 else 9) - p.2.many, (if b then 19 else 9) + 1 - p.2.many], _, rfl, by rw [hl4]; simp only [List.map_append, List.map_cons, List.map_nil], by rw [List.length_append]; show _ + 6 ≤ _; omega⟩
    · walk_at "s"
      exact ⟨s, l, ms, _, rfl, hl, by omega⟩
  · rintro σ' H' ⟨s, l, ms, o, rfl, hl, hlen⟩
    walk_at "s"
    refine n_lst (szr rfl) fun l3 H3 nl3 s3 hl3 => ?_
    rw [List.length_map] at hlen
    refine hq _ _ ⟨s.trans s3, l3, rfl, l, ms, ?_, s3 _ _ hl, by omega⟩
    rw [hl3]
    cases b <;> rfl
end
end Sw

set_option maxHeartbeats 4000000
namespace Sw
open PySem PySem.Spec PyProof.Rows L2 C8
local macro_rules | `(tactic| walk_at "v") => `(tactic| (with_reducible show tVar _ _ _ _; with_unfolding_all refine r_var rfl ?_))
local macro_rules | `(tactic| walk_at "x") => `(tactic| ((first | with_reducible refine r_ixTc (xs := ?xs) (v := ?v) ?hl ?e ?h | with_reducible refine r_ixLc (xs := ?xs) (v := ?v) ?hl ?e ?h); (case hl => first | assumption | exact SqT.of (by assumption) | exact SqL.of (by assumption)); (case e => first | rfl | assumption | exact atI_zero)))
local macro_rules | `(tactic| walk_at "n") => `(tactic| ((first | with_reducible refine r_mod ?hj (fun _ _ _ => ?_) | with_reducible refine r_mul ?hj ?_ | with_reducible refine r_div ?hj ?hd ?_ | with_reducible refine r_pow ?hj ?_); (case hj => first | (with_reducible show (0 : Int) < _; first | decide | omega) | exact ⟨by decide, by decide, by decide⟩ | exact .inr ⟨by decide, by decide⟩ | exact .inl ⟨by decide, by decide⟩ | exact .inl ⟨by omega, by omega⟩ | exact .inr ⟨by omega, by omega⟩); (try case hd => first | decide | omega)))
local macro_rules | `(tactic| walk_at "s0") => `(tactic| first
  | with_reducible refine r_seq ?_ | with_reducible refine r_asg ?_ | ((with_reducible refine r_gname ?_); dsimp only [List.set_cons_succ, List.set_cons_zero, List.set]) | with_reducible refine r_ret ?_ | with_reducible refine r_drop ?_ | with_reducible refine r_if ?_
  | with_reducible refine r_test ?_ | with_reducible refine r_B ?_ | with_reducible refine r_op ?_ | with_reducible refine r_cons ?_ | with_reducible refine r_nil ?_ | with_reducible refine r_c ?_ | walk_at "v"
  | with_reducible refine r_cl ?_ | with_reducible refine r_cb ?_ | with_reducible refine r_I0 ?_ | with_reducible refine r_bl ?_ | ((with_reducible refine r_eq ?hs ?_); (case hs => rfl)) | ((with_reducible refine r_ne ?hs ?_); (case hs => rfl))
  | with_reducible refine r_un ?_ | with_reducible refine r_neg ?_ | with_reducible refine r_int ?_ | with_reducible refine r_intB ?_ | with_reducible refine r_min2 ?_ | with_reducible refine r_max2 ?_
  | with_reducible refine r_tup ?_ | with_reducible refine r_lst ?_ | with_reducible refine r_not ?_ | with_reducible refine r_ifE ?_
  | with_reducible refine r_andV ?_ | with_reducible refine r_orV ?_ | with_reducible refine r_notV ?_ | with_reducible refine r_next ?_ | with_reducible refine r_brk ?_ | with_reducible refine r_for ?_ | with_reducible refine r_slc ?_ | with_reducible refine r_nop ?_ | with_reducible refine r_part ?_ | with_reducible refine r_ei ?_ | with_reducible refine r_bm ?_ | with_reducible refine r_isN ?_ | with_reducible refine r_notN ?_ | with_reducible refine r_m1 ?_ | with_reducible refine r_lc ?_ | with_reducible refine r_rng1 ?_ | with_reducible refine r_rng2 ?_ | with_reducible refine r_ilist ?_ | with_reducible refine r_itup ?_ | with_reducible refine iteT ?_ | with_reducible refine iteF ?_ | with_reducible refine r_sub ?_ | walk_at "n" | walk_at "x")
local macro_rules | `(tactic| walk_at "s1") => `(tactic| first | walk_at "s0" | with_reducible refine r_and ?_ | with_reducible refine r_or ?_)
local macro_rules | `(tactic| walk_at "u") => `(tactic| (try dsimp only); repeat walk_at "s0")
local macro_rules | `(tactic| walk_at "pt") => `(tactic| first
  | ((with_reducible refine r_and2 (a := ?a) (b := ?b) ?h1 ?h2 ?h); (case h1 => intro _ q; walk_at "pt"; exact q); (case h2 => intro _ q; walk_at "pt"; exact q); (try dsimp only))
  | ((with_reducible refine r_or2 (a := ?a) (b := ?b) ?h1 ?h2 ?h); (case h1 => intro _ q; walk_at "pt"; exact q); (case h2 => intro _ q; walk_at "pt"; exact q); (try dsimp only))
  | walk_at "u")
local macro_rules | `(tactic| walk_at "s") => `(tactic| (try dsimp only); repeat walk_at "s1")
local macro_rules | `(tactic| walk_at "go") => `(tactic| (try simp only [cxK, cxK2]); (try simp only [List.map_cons, List.map_nil, List.replicate, List.cons_append, List.nil_append]); walk_at "s")
local macro_rules | `(tactic| walk_at "t") => `(tactic| ((try dsimp only); (try with_reducible refine iteT ?_); (try dsimp only)))

local macro_rules | `(tactic| walk_at "k") => `(tactic| ((try dsimp only); (first | refine kF (by decide +kernel) ?_ | refine kT (by decide +kernel) ?_); walk_at "s"))
section
variable {tb : TS} {j : Nat} {σ : L2.St} {D : Ends} {H : Hp} {K : PySem.W.Frag}
theorem foV {a : Addr} {xs : List V} (hl : SqL K H a xs) (Pv : Nat → L2.St → Hp → Prop) (p0 : Pv 0 σ H) (hk : ∀ i σ H, Pv i σ H → SqL K H a xs) (hs : ∀ (i : Nat) x σ H, x ∈ xs → i < xs.length → Pv i σ H → tb { D with nx := Pv (i + 1), ct := Pv (i + 1), bk := D.nx } (σ.set j (some x)) H) (hd : ∀ σ H, Pv xs.length σ H → D.nx σ H) :
    ∃ (b : Addr) (ys : List V), [V.ref a] = [V.ref b] ∧ SqL K H b ys ∧ FoW (gName j) tb D σ (Itv K b ys.length) H := by
  refine ⟨a, xs, rfl, hl, fun i m σ H => m = xs.length - i ∧ i ≤ xs.length ∧ Pv i σ H, ⟨xs.length, by simp, Nat.zero_le _, p0⟩, ?_⟩
  rintro i m σ H ⟨rfl, hi, p⟩
  by_cases hlt : i < xs.length
  · refine .inr ⟨⟨hlt, xs, xs[xs.length - 1 - i]'(by omega), hk i σ H p, List.getElem?_eq_getElem (by omega)⟩, Pv (i + 1), fun σ' H' p' => ⟨xs.length - (i + 1), by omega, rfl, hlt, p'⟩, fun x H' y => ?_⟩
    obtain ⟨e, y⟩ := y
    subst e
    exact hs i x σ _ (List.mem_of_getElem? (y xs (hk i σ _ p))) hlt p
  · have e : i = xs.length := by omega
    subst e
    exact .inl ⟨Nat.le_refl _, hd σ H p⟩
theorem r_rev {ta : TA} {R : It → Hp → Prop} (h : ta σ H fun vs H1 => ∃ (a : Addr) (xs : List V), vs = [.ref a] ∧ SqL K H1 a xs ∧ R (Itv K a xs.length) H1) : iRev K ta σ H R := h
end
section
variable {P : Program} {w : World} {K : PySem.W.Frag} {mg : Str → Option Value} {base : Heap}
/-! ### _law_gathered -/
abbrev N__law_gathered : List Str := ["_law_state", "_law_stack", "_law_room", "_law_deep", "_law_trees", "_law_total", "_law_tree_here", "_law_size_here"]
theorem sc__law_gathered : FnScope N__law_gathered ["_law_state", "_law_stack", "_law_room", "_law_deep"] (defScope (topS 41)) := ⟨rfl, rfl, rfl, by decide +kernel, rfl, by decide +kernel, by decide +kernel⟩
structure ZA where
  st : Addr
  sk : Addr
  vs : List V
  room : Int
def spGathered (K : PySem.W.Frag) : Sp := Spc ZA (fun z => [.ref z.st, .ref z.sk, .int z.room, .int 16]) (fun z H => StOk H z.st ∧ H z.sk = some (.lst z.vs) ∧ 0 < z.vs.length ∧ z.vs.length ≤ 200 ∧ ∀ v ∈ z.vs, Tr K 16 H v)
  fun z H v H' => Same H H' ∧ Tr K 16 H' v
theorem cl_gathered (F : Df K mg "_law_gathered" 41) (B : Bi mg) (c_law_draw : Cl P w K mg base 2 "_law_draw" spDraw) (c_law_size : Cl P w K mg base 17 "_law_size" (spSize K 16)) : Cl P w K mg base 18 "_law_gathered" (spGathered K) := by
  refine mk_cl F sc__law_gathered (fun _ _ _ _ _ _ us hl => match us, hl with | [_, _, _, _], _ => rfl) (fun _ => rfl) 4 rfl fun f cdv A outer s H Q z hr hp hq => ?_
  obtain ⟨st, sk, vs, room⟩ := z
  obtain ⟨hst, hsk, h0, hl, hv⟩ := hp
  dsimp only at hst hsk h0 hl hv hq
  refine ⟨_, ((pss_cons (ps_if (pt_cmpR op_eq (pe_callB cl_len (by rfl) B.tlen (by decide +kernel) (pa_cons (pv 1) pa_nil)) pe_int (nomark _)) (pss_one (ps_ret (pe_ix ix_list (pv 1) pe_int (fun _ _ => rfl)))) pss_nil)
      (pss_cons (ps_set (i := 4) sc__law_gathered.nd rfl (Or.inl rfl) (pe_lst pa_nil))
      (pss_cons (ps_set (i := 5) sc__law_gathered.nd rfl (Or.inl rfl) pe_int)
      (pss_cons (ps_for PassesOwn.never rfl (pi_reversed (by rfl) B.treversed (pa_cons (pv 1) pa_nil)) (pg_name (i := 6) sc__law_gathered.nd rfl (Or.inl rfl)) (pss_cons (ps_set (i := 7) sc__law_gathered.nd rfl (Or.inl rfl) (pe_cl c_law_size hr (by decide) (by rfl) (pa_cons (pv 6) pa_nil)))
      (pss_one (ps_if (PW.pt (pw_and (pt_cmpR op_lt (pe_callB cl_len (by rfl) B.tlen (by decide +kernel) (pa_cons (pv 4) pa_nil)) pe_int (nomark _)) (pw_and (pt_cmpR op_le (pe_op op_add (pv 5) (pe_ix ix_tup (pv 7) pe_int (fun _ _ => rfl))) (pv 2) (nomark _)) (pw_and1 (pt_cmpR op_lt (pe_ix ix_tup (pv 7) pe_int (fun _ _ => rfl)) (pv 3) (nomark _)))))) (pss_cons (ps_set (i := 4) sc__law_gathered.nd rfl (Or.inl rfl) (pe_op op_cat (pe_lst (pa_cons (pv 6) pa_nil)) (pv 4)))
      (pss_one (ps_set (i := 5) sc__law_gathered.nd rfl (Or.inl rfl) (pe_op op_add (pv 5) (pe_ix ix_tup (pv 7) pe_int (fun _ _ => rfl)))))) pss_nil))))
      (pss_cons (ps_if (pt_cmpR op_eq (pe_callB cl_len (by rfl) B.tlen (by decide +kernel) (pa_cons (pv 4) pa_nil)) pe_int (nomark _)) (pss_one (ps_ret (pe_ix ix_list (pv 1) (pe_op op_sub (pe_callB cl_len (by rfl) B.tlen (by decide +kernel) (pa_cons (pv 1) pa_nil)) pe_int) (fun _ _ => rfl)))) pss_nil)
      (pss_one (ps_ret (pe_tup (pa_cons pe_str (pa_cons (pe_ix ix_list (pe_lst (pa_cons pe_str (pa_cons pe_str (pa_cons pe_str (pa_cons pe_str pa_nil))))) (pe_cl c_law_draw hr (by decide) (by rfl) (pa_cons (pv 0) (pa_cons pe_int pa_nil))) (fun _ _ => rfl)) (pa_cons (pe_callTy cl_tuple (by rfl) B.ttuple (by decide +kernel) (pa_cons (pv 4) pa_nil)) pa_nil)))))))))))), ?_⟩
  walk_at "go"
  refine r_lenL (SqL.of hsk) ?_
  walk_at "s"
  refine i2 (fun e0 => ?_) (fun e0 => ?_)
  · walk_at "s"
    obtain ⟨v, hm, e⟩ := atI_mem (xs := vs) (x := 0) (by decide) (by omega)
    refine r_ixLc (SqL.of hsk) e ?_
    exact hq _ _ ⟨Same.refl _, hv v hm⟩
  walk_at "s"
  refine n_lst (szr rfl) fun l1 H1 nl1 s1 hl1 => ?_
  walk_at "s"
  refine r_rev ?_
  walk_at "s"
  refine foV (SqL.of (s1 _ _ hsk)) (fun i σ' H' => Same H H' ∧ ∃ (l : Addr) (ws : List V) (t : Int) (o1 o2 : Option V), σ' = [some (.ref st), some (.ref sk), some (.int room), some (.int 16), some (.ref l), some (.int t), o1, o2] ∧ H' l = some (.lst ws) ∧ ws.length ≤ i ∧ ∀ v ∈ ws, Tr K 15 H' v) ⟨s1, l1, [], _, _, _, rfl, hl1, Nat.le_refl _, fun v h => by cases h⟩ (fun i σ H' ⟨s, _⟩ => SqL.of (s _ _ hsk)) ?_ ?_
  · rintro i x σ' H' hx hi ⟨s, l, ws, t, o1, o2, rfl, hw, hwl, hwt⟩
    walk_at "s"
    refine ⟨x, rfl, (hv x hx).up s, ?_⟩
    rintro _ H2 ⟨s2, a, c, m, rfl, ha, m0, hT⟩
    have keep : ∀ o, ∃ (l' : Addr) (ws' : List V) (t' : Int) (o1 o2 : Option V), [some (V.ref st), some (.ref sk), some (.int room), some (.int 16), some (.ref l), some (.int t), some x, some o] = [some (V.ref st), some (.ref sk), some (.int room), some (.int 16), some (.ref l'), some (.int t'), o1, o2] ∧ H2 l' = some (.lst ws') ∧ ws'.length ≤ i + 1 ∧ ∀ v ∈ ws', Tr K 15 H2 v := fun o => ⟨_, ws, _, _, _, rfl, s2 _ _ hw, by omega, fun v h => (hwt v h).up s2⟩
    walk_at "s"
    refine r_lenL (SqL.of (s2 _ _ hw)) ?_
    walk_at "s"
    refine i2 (fun e0 => ?_) (fun e0 => ?_)
    · walk_at "s"
      refine i2 (fun e1 => ?_) (fun e1 => ?_)
      · walk_at "s"
        refine i2 (fun e2 => ?_) (fun e2 => ?_)
        · walk_at "s"
          refine n_lst (szr rfl) fun l3 H3 nl3 s3 hl3 => ?_
          walk_at "s"
          refine r_cat hl3 (s3 _ _ (s2 _ _ hw)) (by show 1 + _ ≤ _; omega) fun l4 H4 nl4 s4 hl4 => ?_
          have ha4 := s4 _ _ (s3 _ _ ha)
          walk_at "s"
          refine ⟨((s.trans s2).trans s3).trans s4, l4, _, _, _, _, rfl, hl4, by rw [List.length_append]; show 1 + _ ≤ _; omega, fun v h => ?_⟩
          rcases List.mem_append.mp h with h | h
          · rw [List.mem_singleton.mp h]
            exact (hT.up (s3.trans s4)).mono (by omega)
          · exact (hwt v h).up ((s2.trans s3).trans s4)
        · walk_at "s"
          exact ⟨s.trans s2, keep _⟩
      · walk_at "s"
        exact ⟨s.trans s2, keep _⟩
    · walk_at "s"
      exact ⟨s.trans s2, keep _⟩
  · rintro σ' H' ⟨s, l, ws, t, o1, o2, rfl, hw, hwl, hwt⟩
    walk_at "s"
    refine r_lenL (SqL.of hw) ?_
    walk_at "s"
    refine i2 (fun e0 => ?_) (fun e0 => ?_)
    · walk_at "s"
      refine r_lenL (SqL.of (s _ _ hsk)) ?_
      walk_at "s"
      obtain ⟨v, hm, e⟩ := atI_mem (xs := vs) (x := (vs.length : Int) - 1) (by omega) (by omega)
      refine r_ixLc (SqL.of (s _ _ hsk)) e ?_
      exact hq _ _ ⟨s, (hv v hm).up s⟩
    · walk_at "s"
      refine n_lst (szr rfl) fun l3 H3 nl3 s3 hl3 => ?_
      walk_at "s"
      refine d_draw ((s.trans s3).st hst) (by decide) (by decide) fun k k0 k1 => ?_
      obtain ⟨v, hm, ev⟩ := atI_mem (xs := List.map V.str ["SUM", "MAX", "COUNTA", "CONCAT"]) k0 k1
      obtain ⟨x, -, rfl⟩ := List.mem_map.mp hm
      refine r_ixLc (SqL.of hl3) ev ?_
      walk_at "s"
      refine r_tupL (SqL.of (s3 _ _ hw)) fun t4 H4 nt4 s4 ht4 => ?_
      walk_at "s"
      refine n_tup (szr rfl) fun p H5 np s5 hp5 => ?_
      exact hq _ _ ⟨((s.trans s3).trans s4).trans s5, mk_call hp5 (SqT.of (s5 _ _ ht4)) (by omega) fun v h => (hwt v h).up ((s3.trans s4).trans s5)⟩
/-! ### _law_tree -/
abbrev N__law_tree : List Str := ["_law_state", "_law_plan", "_law_room", "_law_deep", "_law_stack", "_law_sizes", "_law_steps", "_law_k", "_law_size_here", "_law_tree_here", "_law_trees", "_law_node_here"]
theorem sc__law_tree : FnScope N__law_tree ["_law_state", "_law_plan", "_law_room", "_law_deep"] (defScope (topS 42)) := ⟨rfl, rfl, rfl, by decide +kernel, rfl, by decide +kernel, by decide +kernel⟩
def spTree (K : PySem.W.Frag) : Sp := Spc (Addr × Addr) (fun z => [.ref z.1, .ref z.2, .int 64, .int 16]) (fun z H => StOk H z.1 ∧ PlanOk H z.2)
  fun z H v H' => Same H H' ∧ Tr K 16 H' v
theorem cl_tree (F : Df K mg "_law_tree" 42) (B : Bi mg) (c_law_draw : Cl P w K mg base 2 "_law_draw" spDraw) (c_law_leaf : Cl P w K mg base 6 "_law_leaf" (spLeaf K)) (c_law_node : Cl P w K mg base 5 "_law_node" (spNode K)) (c_law_fits : Cl P w K mg base 19 "_law_fits" (spFits K 17)) (c_law_grown : Cl P w K mg base 20 "_law_grown" (spGrown K)) (c_law_gathered : Cl P w K mg base 18 "_law_gathered" (spGathered K)) : Cl P w K mg base 21 "_law_tree" (spTree K) := by
  refine mk_cl F sc__law_tree (fun _ _ _ _ _ _ us hl => match us, hl with | [_, _, _, _], _ => rfl) (fun _ => rfl) 8 rfl fun f cdv A outer s H Q z hr hp hq => ?_
  obtain ⟨st, pl⟩ := z
  obtain ⟨hst, hpl⟩ := hp
  have hst : StOk H st := hst
  have hpl : PlanOk H pl := hpl
  refine ⟨_, ((pss_cons (ps_set (i := 4) sc__law_tree.nd rfl (Or.inl rfl) (pe_lst pa_nil))
      (pss_cons (ps_set (i := 5) sc__law_tree.nd rfl (Or.inl rfl) (pe_lst (pa_cons pe_int (pa_cons pe_int (pa_cons pe_int (pa_cons pe_int (pa_cons pe_int (pa_cons pe_int (pa_cons pe_int (pa_cons pe_int (pa_cons pe_int (pa_cons pe_int (pa_cons pe_int (pa_cons pe_int pa_nil))))))))))))))
      (pss_cons (ps_set (i := 6) sc__law_tree.nd rfl (Or.inl rfl) (pe_cl c_law_draw hr (by decide) (by rfl) (pa_cons (pv 0) (pa_cons (pe_ix ix_list (pe_lst (pa_cons pe_int (pa_cons pe_int (pa_cons pe_int pa_nil)))) (pe_cl c_law_draw hr (by decide) (by rfl) (pa_cons (pv 0) (pa_cons pe_int pa_nil))) (fun _ _ => rfl)) pa_nil))))
      (pss_cons (ps_for PassesOwn.never rfl (pi_range1 rfl B.trange (pa_cons (pe_op op_add (pv 6) pe_int) pa_nil)) (pg_name (i := 7) sc__law_tree.nd rfl (Or.inl rfl)) (pss_cons (ps_set (i := 8) sc__law_tree.nd rfl (Or.inl rfl) (pe_cl c_law_draw hr (by decide) (by rfl) (pa_cons (pv 0) (pa_cons pe_int pa_nil))))
      (C8.pss_cut (ps_if (pt_cmpR op_lt (pv 8) pe_int (nomark _)) (pss_one (ps_set (i := 8) sc__law_tree.nd rfl (Or.inl rfl) (pe_ix ix_list (pv 5) (pv 8) (fun _ _ => rfl)))) (pss_one (ps_set (i := 8) sc__law_tree.nd rfl (Or.inl rfl) (pe_cl c_law_draw hr (by decide) (by rfl) (pa_cons (pv 0) (pa_cons pe_int pa_nil))))))
      (pss_one (ps_set (i := 4) sc__law_tree.nd rfl (Or.inl rfl) (pe_cl c_law_grown hr (by decide) (by rfl) (pa_cons (pv 0) (pa_cons (pv 1) (pa_cons (pv 4) (pa_cons (pv 8) (pa_cons (pv 2) (pa_cons (pv 3) pa_nil))))))))))))
      (pss_cons (ps_set (i := 9) sc__law_tree.nd rfl (Or.inl rfl) (pe_cl c_law_gathered hr (by decide) (by rfl) (pa_cons (pv 0) (pa_cons (pv 4) (pa_cons (pv 2) (pa_cons (pv 3) pa_nil))))))
      (C8.pss_cut (ps_if (pt_cmpR op_eq (pe_cl c_law_draw hr (by decide) (by rfl) (pa_cons (pv 0) (pa_cons pe_int pa_nil))) pe_int (nomark _)) (pss_one (ps_for PassesOwn.never rfl (pi_range1 rfl B.trange (pa_cons (pe_cl c_law_draw hr (by decide) (by rfl) (pa_cons (pv 0) (pa_cons pe_int pa_nil))) pa_nil)) (pg_name (i := 7) sc__law_tree.nd rfl (Or.inl rfl)) (pss_cons (ps_set (i := 10) sc__law_tree.nd rfl (Or.inl rfl) (pe_lst (pa_cons (pv 9) pa_nil)))
      (C8.pss_cut (ps_if (pt_cmpR op_eq (pe_cl c_law_draw hr (by decide) (by rfl) (pa_cons (pv 0) (pa_cons pe_int pa_nil))) pe_int (nomark _)) (pss_one (ps_expr (pe_bm PySem.F.plainAttrs_list PySem.F.slot_list_insert PySem.F.type_list_insert mt_ins (pv 10) (pa_cons (pe_cl c_law_draw hr (by decide) (by rfl) (pa_cons (pv 0) (pa_cons pe_int pa_nil))) (pa_cons (pe_cl c_law_leaf hr (by decide) (by rfl) (pa_cons (pv 0) (pa_cons (pv 1) pa_nil))) pa_nil))))) pss_nil)
      (pss_cons (ps_set (i := 11) sc__law_tree.nd rfl (Or.inl rfl) (pe_cl c_law_node hr (by decide) (by rfl) (pa_cons (pv 0) (pa_cons (pv 1) (pa_cons (pv 10) pa_nil)))))
      (pss_one (ps_if (pt_val (pe_cl c_law_fits hr (by decide) (by rfl) (pa_cons (pv 11) (pa_cons (pv 2) (pa_cons (pv 3) pa_nil))))) (pss_one (ps_set (i := 9) sc__law_tree.nd rfl (Or.inl rfl) (pv 11))) pss_nil))))))) pss_nil)
      (pss_one (ps_ret (pv 9)))))))))), ?_⟩
  walk_at "go"
  refine n_lst (szr rfl) fun l1 H1 nl1 s1 hl1 => ?_
  walk_at "s"
  refine n_lst (szr rfl) fun l2 H2 nl2 s2 hl2 => ?_
  walk_at "s"
  refine n_lst (szr rfl) fun l3 H3 nl3 s3 hl3 => ?_
  have s13 := (s1.trans s2).trans s3
  walk_at "s"
  refine d_draw (s13.st hst) (by decide) (by decide) fun k k0 k1 => ?_
  obtain ⟨n, hn, en⟩ : ∃ n : Int, (0 < n ∧ n ≤ 90) ∧ atI [V.int 6, V.int 24, V.int 90] k = some (.int n) := by
    obtain ⟨v, hm, e⟩ := atI_ints (ms := [6, 24, 90]) k0 k1
    refine ⟨v, ?_, e⟩
    simp only [List.mem_cons, List.not_mem_nil, or_false] at hm
    rcases hm with rfl | rfl | rfl <;> decide
  refine r_ixLc (SqL.of hl3) en ?_
  walk_at "s"
  refine d_draw (s13.st hst) (by omega) (by omega) fun k k0 k1 => ?_
  walk_at "s"
  refine foR (by omega) (by omega) (fun i σ' H' => Same H H' ∧ H' l2 = H2 l2 ∧ ∃ (l : Addr) (ws : List V) (o1 o2 : Option V), σ' = [some (.ref st), some (.ref pl), some (.int 64), some (.int 16), some (.ref l), some (.ref l2), some (.int k), o1, o2, none, none, none] ∧ H' l = some (.lst ws) ∧ ws.length ≤ i ∧ (0 < i → 0 < ws.length) ∧ ∀ v ∈ ws, Tr K 16 H' v) ⟨s13, by rw [s3 _ _ hl2, hl2], l1, [], _, _, rfl, s3 _ _ (s2 _ _ hl1), Nat.le_refl _, fun h => absurd h (Nat.lt_irrefl _), fun v h => by cases h⟩ ?_ ?_
  · rintro i σ' H' hi ⟨s, h2, l, ws, o1, o2, rfl, hw, hwl, hw0, hwt⟩
    rw [hl2] at h2
    walk_at "s"
    refine d_draw (s.st hst) (by decide) (by decide) fun q q0 q1 => ?_
    walk_at "s"
    refine r_cut (Mid := fun σ2 H4 => ∃ z : Int, 0 ≤ z ∧ z ≤ 17 ∧ σ2 = [some (.ref st), some (.ref pl), some (.int 64), some (.int 16), some (.ref l), some (.ref l2), some (.int k), some (.int ((0 : Int) + (i : Int))), some (.int z), none, none, none] ∧ H4 = H') ?_ ?_
    · walk_at "s"
      refine i2 (fun e0 => ?_) (fun e0 => ?_)
      · walk_at "s"
        obtain ⟨z, hm, ez⟩ := atI_ints (ms := [0, 0, 0, 0, 0, 1, 1, 2, 2, 2, 3, 4]) q0 (show q < 12 by omega)
        refine r_ixLc (SqL.of h2) ez ?_
        walk_at "s"
        refine ⟨z, ?_, ?_, rfl, rfl⟩ <;>
        · simp only [List.mem_cons, List.not_mem_nil, or_false] at hm
          omega
      · walk_at "s"
        refine d_draw (s.st hst) (by decide) (by decide) fun z z0 z1 => ?_
        walk_at "s"
        exact ⟨z, by omega, by omega, rfl, rfl⟩
    rintro σ2 H4 ⟨z, z0, z1, rfl, rfl⟩
    walk_at "s"
    refine ⟨⟨st, pl, l, ws, z, 64⟩, rfl, ⟨s.st hst, hpl.up s, hw, by show ws.length ≤ 200; omega, hwt, z0, z1⟩, ?_⟩
    rintro _ H5 ⟨s5, l5, us, rfl, hl5, hu1, hu2, hut⟩
    dsimp only at hu1
    walk_at "s"
    exact ⟨s.trans s5, by rw [s5 _ _ h2, hl2], l5, us, _, _, rfl, hl5, by omega, fun _ => hu2, hut⟩
  · rintro σ' H' ⟨s, h2, l, ws, o1, o2, rfl, hw, hwl, hw0, hwt⟩
    walk_at "s"
    refine ⟨⟨st, l, ws, 64⟩, rfl, ⟨s.st hst, hw, hw0 (by omega), by show ws.length ≤ 200; omega, hwt⟩, ?_⟩
    rintro v H4 ⟨s4, t4⟩
    have s04 := s.trans s4
    walk_at "s"
    refine r_cut (Mid := fun σ2 H5 => Same H H5 ∧ ∃ (v : V) (o1 o2 o3 o4 : Option V), Tr K 16 H5 v ∧ σ2 = [some (.ref st), some (.ref pl), some (.int 64), some (.int 16), some (.ref l), some (.ref l2), some (.int k), o1, o2, some v, o3, o4]) ?_ ?_
    · walk_at "s"
      refine d_draw (s04.st hst) (by decide) (by decide) fun q q0 q1 => ?_
      walk_at "s"
      refine i2 (fun e0 => ?_) (fun e0 => ?_)
      · walk_at "s"
        refine d_draw (s04.st hst) (by decide) (by decide) fun q q0 q1 => ?_
        walk_at "s"
        refine foR (by omega) (by omega) (fun i σ2 H5 => Same H H5 ∧ ∃ (v : V) (o1 o2 o3 o4 : Option V), Tr K 16 H5 v ∧ σ2 = [some (.ref st), some (.ref pl), some (.int 64), some (.int 16), some (.ref l), some (.ref l2), some (.int k), o1, o2, some v, o3, o4]) ⟨s04, v, _, _, _, _, t4, rfl⟩ ?_ (fun σ2 H5 h => h)
        rintro i σ2 H5 hi ⟨s5, v, o1, o2, o3, o4, t5, rfl⟩
        walk_at "s"
        refine n_lst (szr rfl) fun l6 H6 nl6 s6 hl6 => ?_
        walk_at "s"
        refine r_cut (Mid := fun σ3 H7 => Same H5 H7 ∧ ∃ (vs : List V), H7 l6 = some (.lst vs) ∧ 0 < vs.length ∧ vs.length ≤ 2 ∧ (∀ v ∈ vs, Tr K 16 H7 v) ∧ σ3 = [some (.ref st), some (.ref pl), some (.int 64), some (.int 16), some (.ref l), some (.ref l2), some (.int k), some (.int ((0 : Int) + (i : Int))), o2, some v, some (.ref l6), o4]) ?_ ?_
        · walk_at "s"
          refine d_draw ((s5.trans s6).st hst) (by decide) (by decide) fun q q0 q1 => ?_
          walk_at "s"
          refine i2 (fun e0 => ?_) (fun e0 => ?_)
          · walk_at "s"
            refine ⟨ty_list hl6, ?_⟩
            walk_at "s"
            refine d_draw ((s5.trans s6).st hst) (by decide) (by decide) fun q q0 q1 => ?_
            walk_at "s"
            refine ⟨(st, pl), rfl, ⟨(s5.trans s6).st hst, hpl.up (s5.trans s6)⟩, ?_⟩
            rintro u H7 ⟨s7, t7⟩
            walk_at "s"
            have hl7 := s7 _ _ hl6
            refine r_ins hl7 (Nat.le_of_ble_eq_true rfl) q0 (by omega) ?_
            walk_at "s"
            refine ⟨(s6.trans s7).mut nl6, _, upd_same, by simp only [List.length_append, List.length_singleton]; omega, ?_, fun x hx => ?_, rfl⟩
            · simp only [List.length_append, List.length_take, List.length_drop, List.length_singleton]
              omega
            · have hx : x = v ∨ x = u := by
                rcases List.mem_append.mp hx with hx | hx
                · rcases List.mem_append.mp hx with hx | hx
                  · exact .inl (List.mem_singleton.mp (List.mem_of_mem_take hx))
                  · exact .inr (List.mem_singleton.mp hx)
                · exact .inl (List.mem_singleton.mp (List.mem_of_mem_drop hx))
              rcases hx with rfl | rfl
              · exact (t5.up (s6.trans s7)).ts (ts_upd hl7)
              · exact (t7.mono (by decide)).ts (ts_upd hl7)
          · walk_at "s"
            exact ⟨s6, [v], hl6, by simp, by simp, fun x hx => by rw [List.mem_singleton.mp hx]; exact t5.up s6, rfl⟩
        rintro σ3 H7 ⟨s7, vs, hl7, hv0, hv2, hvt, rfl⟩
        walk_at "s"
        refine ⟨⟨st, pl, l6, vs, 15⟩, rfl, ⟨(s5.trans s7).st hst, hpl.up (s5.trans s7), hl7, hv0, by show vs.length ≤ 17; omega, hvt⟩, ?_⟩
        rintro nd H8 ⟨s8, t8⟩
        walk_at "s"
        refine ⟨(nd, 64, 16), rfl, t8, ?_⟩
        rintro _ H9 ⟨s9, b, rfl, hb⟩
        have s79 := (s7.trans s8).trans s9
        walk_at "s"
        cases b with
        | false =>
          walk_at "k"
          exact ⟨s5.trans s79, v, _, _, _, _, t5.up s79, rfl⟩
        | true =>
          walk_at "k"
          exact ⟨s5.trans s79, nd, _, _, _, _, (hb rfl).2, rfl⟩
      · walk_at "s"
        exact ⟨s04, v, _, _, _, _, t4, rfl⟩
    · rintro σ2 H5 ⟨s5, v, o1, o2, o3, o4, t5, rfl⟩
      walk_at "s"
      exact hq _ _ ⟨s5, t5⟩
end
end Sw

set_option maxHeartbeats 4000000
namespace Sw
open PySem PySem.Spec PyProof.Rows L2 C8
local macro_rules | `(tactic| walk_at "v") => `(tactic| (with_reducible show tVar _ _ _ _; with_unfolding_all refine r_var rfl ?_))
local macro_rules | `(tactic| walk_at "x") => `(tactic| ((first | with_reducible refine r_ixTc (xs := ?xs) (v := ?v) ?hl ?e ?h | with_reducible refine r_ixLc (xs := ?xs) (v := ?v) ?hl ?e ?h); (case hl => first | assumption | exact SqT.of (by assumption) | exact SqL.of (by assumption)); (case e => first | rfl | assumption | exact atI_zero)))
local macro_rules | `(tactic| walk_at "n") => `(tactic| ((first | with_reducible refine r_mod ?hj (fun _ _ _ => ?_) | with_reducible refine r_mul ?hj ?_ | with_reducible refine r_div ?hj ?hd ?_ | with_reducible refine r_pow ?hj ?_); (case hj => first | (with_reducible show (0 : Int) < _; first | decide | omega) | exact ⟨by decide, by decide, by decide⟩ | exact .inr ⟨by decide, by decide⟩ | exact .inl ⟨by decide, by decide⟩ | exact .inl ⟨by omega, by omega⟩ | exact .inr ⟨by omega, by omega⟩); (try case hd => first | decide | omega)))
local macro_rules | `(tactic| walk_at "s0") => `(tactic| first
  | with_reducible refine r_seq ?_ | with_reducible refine r_asg ?_ | ((with_reducible refine r_gname ?_); dsimp only [List.set_cons_succ, List.set_cons_zero, List.set]) | with_reducible refine r_ret ?_ | with_reducible refine r_drop ?_ | with_reducible refine r_if ?_
  | with_reducible refine r_test ?_ | with_reducible refine r_B ?_ | with_reducible refine r_op ?_ | with_reducible refine r_cons ?_ | with_reducible refine r_nil ?_ | with_reducible refine r_c ?_ | walk_at "v"
  | with_reducible refine r_cl ?_ | with_reducible refine r_cb ?_ | with_reducible refine r_I0 ?_ | with_reducible refine r_bl ?_ | ((with_reducible refine r_eq ?hs ?_); (case hs => rfl)) | ((with_reducible refine r_ne ?hs ?_); (case hs => rfl))
  | with_reducible refine r_un ?_ | with_reducible refine r_neg ?_ | with_reducible refine r_int ?_ | with_reducible refine r_intB ?_ | with_reducible refine r_min2 ?_ | with_reducible refine r_max2 ?_
  | with_reducible refine r_tup ?_ | with_reducible refine r_lst ?_ | with_reducible refine r_not ?_ | with_reducible refine r_ifE ?_
  | with_reducible refine r_andV ?_ | with_reducible refine r_orV ?_ | with_reducible refine r_notV ?_ | with_reducible refine r_next ?_ | with_reducible refine r_brk ?_ | with_reducible refine r_for ?_ | with_reducible refine r_slc ?_ | with_reducible refine r_nop ?_ | with_reducible refine r_part ?_ | with_reducible refine r_ei ?_ | with_reducible refine r_bm ?_ | with_reducible refine r_isN ?_ | with_reducible refine r_notN ?_ | with_reducible refine r_m1 ?_ | with_reducible refine r_lc ?_ | with_reducible refine r_rng1 ?_ | with_reducible refine r_rng2 ?_ | with_reducible refine r_ilist ?_ | with_reducible refine r_itup ?_ | with_reducible refine iteT ?_ | with_reducible refine iteF ?_ | with_reducible refine r_sub ?_ | walk_at "n" | walk_at "x")
local macro_rules | `(tactic| walk_at "s1") => `(tactic| first | walk_at "s0" | with_reducible refine r_and ?_ | with_reducible refine r_or ?_)
local macro_rules | `(tactic| walk_at "u") => `(tactic| (try dsimp only); repeat walk_at "s0")
local macro_rules | `(tactic| walk_at "pt") => `(tactic| first
  | ((with_reducible refine r_and2 (a := ?a) (b := ?b) ?h1 ?h2 ?h); (case h1 => intro _ q; walk_at "pt"; exact q); (case h2 => intro _ q; walk_at "pt"; exact q); (try dsimp only))
  | ((with_reducible refine r_or2 (a := ?a) (b := ?b) ?h1 ?h2 ?h); (case h1 => intro _ q; walk_at "pt"; exact q); (case h2 => intro _ q; walk_at "pt"; exact q); (try dsimp only))
  | walk_at "u")
local macro_rules | `(tactic| walk_at "s") => `(tactic| (try dsimp only); repeat walk_at "s1")
local macro_rules | `(tactic| walk_at "go") => `(tactic| (try simp only [cxK, cxK2]); (try simp only [List.map_cons, List.map_nil, List.replicate, List.cons_append, List.nil_append]); walk_at "s")
local macro_rules | `(tactic| walk_at "t") => `(tactic| ((try dsimp only); (try with_reducible refine iteT ?_); (try dsimp only)))

local macro_rules | `(tactic| walk_at "k") => `(tactic| ((try dsimp only); (first | refine kF (by decide +kernel) ?_ | refine kT (by decide +kernel) ?_); walk_at "s"))
/-! ### areas -/
def sD : Option Int → PyData | none => .none | some i => .int i
def sV : Option Int → V | none => .non | some i => .int i
inductive Ar where
  | cell (sh : Option Int) (r c : Nat) (f g : Bool)
  | range (sh : Option Int) (t l b r : Nat) (f g h i : Bool)
  | rows (sh : Option Int) (t b : Nat) (f g : Bool)
  | cols (sh : Option Int) (l r : Nat) (f g : Bool)
def Ar.ds : Ar → List PyData
  | cell sh r c f g => [.str "cell", sD sh, .int r, .int c, .bool f, .bool g]
  | range sh t l b r f g h i => [.str "range", sD sh, .int t, .int l, .int b, .int r, .bool f, .bool g, .bool h, .bool i]
  | rows sh t b f g => [.str "rows", sD sh, .int t, .int b, .bool f, .bool g]
  | cols sh l r f g => [.str "columns", sD sh, .int l, .int r, .bool f, .bool g]
def Ar.vs : Ar → List V
  | cell sh r c f g => [.str "cell", sV sh, .int r, .int c, .bl f, .bl g]
  | range sh t l b r f g h i => [.str "range", sV sh, .int t, .int l, .int b, .int r, .bl f, .bl g, .bl h, .bl i]
  | rows sh t b f g => [.str "rows", sV sh, .int t, .int b, .bl f, .bl g]
  | cols sh l r f g => [.str "columns", sV sh, .int l, .int r, .bl f, .bl g]
def Ar.d (a : Ar) : PyData := .tuple a.ds
def Ar.sh : Ar → Option Int
  | cell sh _ _ _ _ | range sh _ _ _ _ _ _ _ _ | rows sh _ _ _ _ | cols sh _ _ _ _ => sh
def Ar.ok : Ar → Prop
  | cell _ r c _ _ => r < 20 ∧ c < 10
  | range _ t l b r _ _ _ _ => (t ≤ b ∧ b < 20) ∧ l ≤ r ∧ r < 10
  | rows _ t b _ _ => t ≤ b ∧ b < 20
  | cols _ l r _ _ => l ≤ r ∧ r < 10
theorem Ar.area {a : Ar} (h : a.ok) : AreaD a.d := by
  have hs : ∀ s : Option Int, sD s = .none ∨ ∃ i, sD s = .int i := fun s => match s with | none => .inl rfl | some i => .inr ⟨i, rfl⟩
  cases a with
  | cell sh r c f g => exact .cell _ _ _ _ _ (hs sh) h.1 h.2
  | range sh t l b r f g i j => exact .range _ _ _ _ _ _ _ _ _ (hs sh) h.1.1 h.1.2 h.2.1 h.2.2
  | rows sh t b f g => exact .rows _ _ _ _ _ (hs sh) h.1 h.2
  | cols sh l r f g => exact .cols _ _ _ _ _ (hs sh) h.1 h.2
theorem area_ar {d : PyData} (h : AreaD d) : ∃ a : Ar, d = a.d ∧ a.ok := by
  have hs : ∀ {x : PyData}, (x = .none ∨ ∃ i, x = .int i) → ∃ s, x = sD s := fun h => by
    rcases h with h | ⟨i, h⟩
    · exact ⟨none, h⟩
    · exact ⟨some i, h⟩
  cases h with
  | cell sh r c f g h1 h2 h3 =>
    obtain ⟨s, rfl⟩ := hs h1
    exact ⟨.cell s r c f g, rfl, h2, h3⟩
  | range sh t l b r f g i j h1 h2 h3 h4 h5 =>
    obtain ⟨s, rfl⟩ := hs h1
    exact ⟨.range s t l b r f g i j, rfl, ⟨h2, h3⟩, h4, h5⟩
  | rows sh t b f g h1 h2 h3 =>
    obtain ⟨s, rfl⟩ := hs h1
    exact ⟨.rows s t b f g, rfl, h2, h3⟩
  | cols sh t b f g h1 h2 h3 =>
    obtain ⟨s, rfl⟩ := hs h1
    exact ⟨.cols s t b f g, rfl, h2, h3⟩
section
variable {K : PySem.W.Frag} {H : Hp} {Q : VK}
theorem shDt (s : Option Int) : Dt K H (sV s) (sD s) := by
  cases s with
  | none => exact .non
  | some i => exact .int i
theorem shDt_inv {v : V} {s : Option Int} (h : Dt K H v (sD s)) : v = sV s := by
  cases s with
  | none => cases h; rfl
  | some i => cases h; rfl
theorem Ar.dta (a : Ar) : DtA K H a.vs a.ds := by
  cases a with
  | cell sh r c f g => exact .cons (.str _) (.cons (shDt _) (.cons (.int _) (.cons (.int _) (.cons (.bl _) (.cons (.bl _) .nil)))))
  | range sh t l b r f g i j => exact .cons (.str _) (.cons (shDt _) (.cons (.int _) (.cons (.int _) (.cons (.int _) (.cons (.int _) (.cons (.bl _) (.cons (.bl _) (.cons (.bl _) (.cons (.bl _) .nil)))))))))
  | rows sh r c f g => exact .cons (.str _) (.cons (shDt _) (.cons (.int _) (.cons (.int _) (.cons (.bl _) (.cons (.bl _) .nil)))))
  | cols sh r c f g => exact .cons (.str _) (.cons (shDt _) (.cons (.int _) (.cons (.int _) (.cons (.bl _) (.cons (.bl _) .nil)))))
theorem Ar.dt {a : Ar} {p : Addr} (h : SqT K H p a.vs) : Dt K H (.ref p) a.d := .tup h a.dta
theorem flat_inv : ∀ {vs us : List V} {ds : List PyData}, (∀ d ∈ ds, flatD d) → DtA K H vs ds → DtA K H us ds → vs = us
  | _, _, _, _, .nil, .nil => rfl
  | _, _, _, hf, .cons a t, .cons b u => by
    have h1 := hf _ List.mem_cons_self
    have h2 := flat_inv (fun d hd => hf d (List.mem_cons_of_mem _ hd)) t u
    subst h2
    cases a with
    | tup => cases h1
    | non => cases b; rfl
    | bl => cases b; rfl
    | int => cases b; rfl
    | str => cases b; rfl
theorem Ar.flat (a : Ar) : ∀ d ∈ a.ds, flatD d := by
  have hs : ∀ s : Option Int, flatD (sD s) := fun s => match s with | none => trivial | some _ => trivial
  cases a <;>
  · refine List.forall_mem_cons.mpr ⟨trivial, List.forall_mem_cons.mpr ⟨hs _, ?_⟩⟩
    repeat (refine List.forall_mem_cons.mpr ⟨trivial, ?_⟩)
    intro d hd
    cases hd
theorem Ar.inv {a : Ar} {v : V} (h : Dt K H v a.d) : ∃ p, v = .ref p ∧ SqT K H p a.vs := by
  cases h with
  | tup hs hd => exact ⟨_, rfl, by rw [← flat_inv a.flat hd a.dta]; exact hs⟩
/-! ### isinstance -/
def tyD : PyData → String
  | .none => "NoneType" | .bool _ => "bool" | .int _ => "int" | .str _ => "str" | .tuple _ => "tuple" | .list _ => "list" | .dict _ => "dict"
theorem sqt_tyx {a : Addr} {xs : List V} (h : SqT K H a xs) : TyX K H (.ref a) (.type "tuple") := by
  rcases h with (h | ⟨o, h⟩) | ⟨o, its, n, h, hc, _⟩
  · exact .base (.tup h)
  · exact .fTuple h
  · exact .kTuple h hc
theorem Dt.ty {v : V} {d : PyData} (h : Dt K H v d) : TyX K H v (.type (tyD d)) := by
  cases h with
  | non => exact .base .non
  | bl b => exact .base (.bl b)
  | int i => exact .base (.int i)
  | str x => exact .base (.str x)
  | tup h _ => exact sqt_tyx h
theorem r_isi {v : V} {d : PyData} {T : String} {r : Bool} (h : Dt K H v d) (e : kitB (tyD d) T = some r) (q : Q (.bl r) H) : rIsi K [v, .ty T] H Q := ⟨v, .ty T, _, _, r, rfl, .ty T, h.ty, kit_ty e, q⟩
theorem kb_nt : kitB "NoneType" "tuple" = some false := by decide +kernel
theorem kb_nb : kitB "NoneType" "bool" = some false := by decide +kernel
theorem kb_bt : kitB "bool" "tuple" = some false := by decide +kernel
theorem kb_bb : kitB "bool" "bool" = some true := by decide +kernel
theorem kb_it : kitB "int" "tuple" = some false := by decide +kernel
theorem kb_ib : kitB "int" "bool" = some false := by decide +kernel
theorem kb_ii : kitB "int" "int" = some true := by decide +kernel
theorem kb_st : kitB "str" "tuple" = some false := by decide +kernel
theorem kb_sb : kitB "str" "bool" = some false := by decide +kernel
theorem kb_si : kitB "str" "int" = some false := by decide +kernel
theorem kb_ss : kitB "str" "str" = some true := by decide +kernel
theorem kb_tt : kitB "tuple" "tuple" = some true := by decide +kernel
theorem atI_0 {α : Type} {xs : List α} {i : Nat} {x : α} (h : xs[i]? = some x) : atI xs ((0 : Int) + (i : Int)) = some x := by
  rw [Int.zero_add]
  exact atI_nat h
end
/-- how deep -/
def DN : Nat → PyData → Prop
  | 0, _ => False
  | n + 1, d => flatD d ∨ ∃ ds, d = .tuple ds ∧ ds.length ≤ 1000 ∧ ∀ e ∈ ds, DN n e
section
variable {P : Program} {w : World} {K : PySem.W.Frag} {mg : Str → Option Value} {base : Heap}
/-! ### _law_same -/
abbrev N__law_same : List Str := ["_law_actual", "_law_due_here", "_law_k"]
theorem sc__law_same : FnScope N__law_same ["_law_actual", "_law_due_here"] (defScope (topS 43)) := ⟨rfl, rfl, rfl, by decide +kernel, rfl, by decide +kernel, by decide +kernel⟩
def spSame (K : PySem.W.Frag) (n : Nat) : Sp := Spc (V × V × PyData) (fun z => [z.1, z.2.1]) (fun z H => Dt K H z.1 z.2.2 ∧ Dt K H z.2.1 z.2.2 ∧ DN n z.2.2)
  fun z H v H' => v = .bl true ∧ H = H'
theorem cl_same (F : Df K mg "_law_same" 43) (B : Bi mg) : ∀ n, Cl P w K mg base (n + 1) "_law_same" (spSame K n)
  | 0 => by
    refine mk_cl F sc__law_same (fun _ _ _ _ _ _ us hl => match us, hl with | [_, _], _ => rfl) (fun _ => rfl) 1 rfl fun f cdv A outer s H Q z hr hp hq => ?_
    exact hp.2.2.elim
  | n + 1 => by
    have c_law_same := cl_same F B n
    refine mk_cl F sc__law_same (fun _ _ _ _ _ _ us hl => match us, hl with | [_, _], _ => rfl) (fun _ => rfl) 1 rfl fun f cdv A outer s H Q z hr hp hq => ?_
    obtain ⟨v, u, d⟩ := z
    obtain ⟨h1, h2, hn⟩ := hp
    dsimp only at h1 h2 hn hq
    refine ⟨_, ((pss_cons (ps_if (pt_val (pe_callB call_isi (by rfl) B.tisinstance (by decide +kernel) (pa_cons (pv 1) (pa_cons (pe_bltn (v := .ty "tuple") (by rfl) B.ttuple (by decide +kernel) rfl) pa_nil)))) (pss_cons (ps_if (PW.pt (pw_or (pt_not (pt_val (pe_callB call_isi (by rfl) B.tisinstance (by decide +kernel) (pa_cons (pv 0) (pa_cons (pe_bltn (v := .ty "tuple") (by rfl) B.ttuple (by decide +kernel) rfl) pa_nil))))) (pw_or1 (pt_cmpR op_ne (pe_callB cl_len (by rfl) B.tlen (by decide +kernel) (pa_cons (pv 0) pa_nil)) (pe_callB cl_len (by rfl) B.tlen (by decide +kernel) (pa_cons (pv 1) pa_nil)) (nomark _))))) (pss_one (ps_ret pe_bl)) pss_nil)
      (pss_cons (ps_for PassesOwn.never rfl (pi_range1 rfl B.trange (pa_cons (pe_callB cl_len (by rfl) B.tlen (by decide +kernel) (pa_cons (pv 1) pa_nil)) pa_nil)) (pg_name (i := 2) sc__law_same.nd rfl (Or.inl rfl)) (pss_one (ps_if (pt_not (pt_val (pe_cl c_law_same hr (by omega) (by rfl) (pa_cons (pe_ix ix_tup (pv 0) (pv 2) (fun _ _ => rfl)) (pa_cons (pe_ix ix_tup (pv 1) (pv 2) (fun _ _ => rfl)) pa_nil))))) (pss_one (ps_ret pe_bl)) pss_nil)))
      (pss_one (ps_ret pe_bl)))) pss_nil)
      (pss_cons (ps_if (pt_cmpR op_isNn (pv 1) pe_non (nomark _)) (pss_one (ps_ret (pe_cmpR op_isNn (pv 0) pe_non (nomark _)))) pss_nil)
      (pss_cons (ps_if (pt_val (pe_callB call_isi (by rfl) B.tisinstance (by decide +kernel) (pa_cons (pv 1) (pa_cons (pe_bltn (v := .ty "bool") (by rfl) B.tbool (by decide +kernel) rfl) pa_nil)))) (pss_one (ps_ret (pe_and (pe_callB call_isi (by rfl) B.tisinstance (by decide +kernel) (pa_cons (pv 0) (pa_cons (pe_bltn (v := .ty "bool") (by rfl) B.tbool (by decide +kernel) rfl) pa_nil))) (pe_one (pe_cmpR op_eq (pv 0) (pv 1) (nomark _)))))) pss_nil)
      (pss_cons (ps_if (pt_val (pe_callB call_isi (by rfl) B.tisinstance (by decide +kernel) (pa_cons (pv 1) (pa_cons (pe_bltn (v := .ty "int") (by rfl) B.tint (by decide +kernel) rfl) pa_nil)))) (pss_one (ps_ret (pe_and (pe_callB call_isi (by rfl) B.tisinstance (by decide +kernel) (pa_cons (pv 0) (pa_cons (pe_bltn (v := .ty "int") (by rfl) B.tint (by decide +kernel) rfl) pa_nil))) (pe_and (pe_not (pe_callB call_isi (by rfl) B.tisinstance (by decide +kernel) (pa_cons (pv 0) (pa_cons (pe_bltn (v := .ty "bool") (by rfl) B.tbool (by decide +kernel) rfl) pa_nil)))) (pe_one (pe_cmpR op_eq (pv 0) (pv 1) (nomark _))))))) pss_nil)
      (pss_one (ps_ret (pe_and (pe_callB call_isi (by rfl) B.tisinstance (by decide +kernel) (pa_cons (pv 0) (pa_cons (pe_bltn (v := .ty "str") (by rfl) B.tstr (by decide +kernel) rfl) pa_nil))) (pe_one (pe_cmpR op_eq (pv 0) (pv 1) (nomark _))))))))))), ?_⟩
    walk_at "go"
    cases h1 with
    | @tup a xs ds hs1 ha1 =>
      have h2' := h2
      cases h2' with
      | @tup b ys _ hs2 ha2 =>
        refine r_isi h2 kb_tt ?_
        walk_at "s"
        refine r_isi (Dt.tup hs1 ha1) kb_tt ?_
        walk_at "s"
        walk_at "k"
        refine r_lenT hs1 ?_
        walk_at "s"
        refine r_lenT hs2 ?_
        rw [ha1.length, ha2.length]
        walk_at "s"
        refine kF (by simp) ?_
        walk_at "s"
        refine r_lenT hs2 ?_
        rw [ha2.length]
        walk_at "s"
        have hn2 : ds.length ≤ 1000 ∧ ∀ e ∈ ds, DN n e := by
          rcases hn with hn | ⟨_, e, h1, h2⟩
          · exact hn.elim
          · cases e; exact ⟨h1, h2⟩
        refine foR (by omega) (by omega) (fun i σ' H' => H' = H ∧ ∃ o, σ' = [some (.ref a), some (.ref b), o]) ⟨rfl, _, rfl⟩ ?_ ?_
        · rintro i σ' H' hi ⟨rfl, o, rfl⟩
          have hi : i < ds.length := by omega
          obtain ⟨x, hx, dx⟩ := ha1.get (List.getElem?_eq_getElem hi)
          obtain ⟨y, hy, dy⟩ := ha2.get (List.getElem?_eq_getElem hi)
          have ex := atI_0 hx
          have ey := atI_0 hy
          walk_at "s"
          refine ⟨(x, y, ds[i]), rfl, ⟨dx, dy, hn2.2 _ (List.getElem_mem hi)⟩, ?_⟩
          rintro _ _ ⟨rfl, rfl⟩
          walk_at "s"
          walk_at "k"
          exact ⟨rfl, _, rfl⟩
        · rintro σ' H' ⟨rfl, o, rfl⟩
          walk_at "s"
          exact hq _ _ ⟨rfl, rfl⟩
    | non =>
      cases h2
      refine r_isi .non kb_nt ?_
      walk_at "s"
      walk_at "k"
      exact hq _ _ ⟨congrArg V.bl (decide_eq_true rfl), rfl⟩
    | bl b =>
      cases h2
      refine r_isi (.bl b) kb_bt ?_
      walk_at "s"
      refine kF (decide_eq_false fun h => by cases h) ?_
      walk_at "s"
      refine r_isi (.bl b) kb_bb ?_
      walk_at "s"
      refine r_isi (.bl b) kb_bb ?_
      walk_at "s"
      exact hq _ _ ⟨congrArg V.bl (decide_eq_true rfl), rfl⟩
    | int i =>
      cases h2
      refine r_isi (.int i) kb_it ?_
      walk_at "s"
      refine kF (decide_eq_false fun h => by cases h) ?_
      walk_at "s"
      refine r_isi (.int i) kb_ib ?_
      walk_at "s"
      refine r_isi (.int i) kb_ii ?_
      walk_at "s"
      refine r_isi (.int i) kb_ii ?_
      walk_at "s"
      refine r_isi (.int i) kb_ib ?_
      walk_at "s"
      walk_at "k"
      exact hq _ _ ⟨congrArg V.bl (decide_eq_true rfl), rfl⟩
    | str x =>
      cases h2
      refine r_isi (.str x) kb_st ?_
      walk_at "s"
      refine kF (decide_eq_false fun h => by cases h) ?_
      walk_at "s"
      refine r_isi (.str x) kb_sb ?_
      walk_at "s"
      refine r_isi (.str x) kb_si ?_
      walk_at "s"
      refine r_isi (.str x) kb_ss ?_
      walk_at "s"
      exact hq _ _ ⟨congrArg V.bl (decide_eq_true rfl), rfl⟩
/-! ### _law_is_area -/
abbrev N__law_is_area : List Str := ["_law_node_here"]
theorem sc__law_is_area : FnScope N__law_is_area ["_law_node_here"] (defScope (topS 44)) := ⟨rfl, rfl, rfl, by decide +kernel, rfl, by decide +kernel, by decide +kernel⟩
theorem inV_strs {k : Str} : ∀ {ss : List Str}, inV (.str k) (ss.map V.str) = decide (k ∈ ss)
  | [] => rfl
  | s :: ss => by
    have ih := inV_strs (k := k) (ss := ss)
    unfold inV at ih ⊢
    rw [List.map_cons, List.any_cons, ih]
    show ((s == k) || _) = _
    by_cases h : s = k
    · subst h
      simp
    · have h2 : ¬ k = s := fun e => h e.symm
      simp [h, h2]
/-- a tuple that may be an area -/
def hdB : List PyData → Bool
  | .str k :: _ => decide (k ∈ kinds4)
  | _ => false
def spIsArea (K : PySem.W.Frag) : Sp := Spc (Addr × List V × List PyData) (fun z => [.ref z.1]) (fun z H => SqT K H z.1 z.2.1 ∧ DtA K H z.2.1 z.2.2 ∧ (match z.2.2 with | .str _ :: _ => True | .tuple _ :: _ => True | _ => False))
  fun z H v H' => Same H H' ∧ v = .bl (hdB z.2.2)
theorem cl_is_area (F : Df K mg "_law_is_area" 44) (B : Bi mg) : Cl P w K mg base 1 "_law_is_area" (spIsArea K) := by
  refine mk_cl F sc__law_is_area (fun _ _ _ _ _ _ us hl => match us, hl with | [_], _ => rfl) (fun _ => rfl) 0 rfl fun f cdv A outer s H Q z hr hp hq => ?_
  obtain ⟨a, xs, ds⟩ := z
  obtain ⟨hs, hd, hm⟩ := hp
  dsimp only at hs hd hm hq
  have hu := hr.hu
  refine ⟨_, ((pss_one (ps_ret (pe_cmpR (op_in_kind hu) (pe_ix ix_tup (pv 0) pe_int (fun _ _ => rfl)) (pe_tup (pa_cons pe_str (pa_cons pe_str (pa_cons pe_str (pa_cons pe_str pa_nil))))) (by rfl))))), ?_⟩
  cases hd with
  | nil => exact hm.elim
  | @cons v vs d ds h t =>
    walk_at "go"
    refine n_tup (szr rfl) fun p H1 np s1 hp1 => ?_
    cases h with
    | non => exact hm.elim
    | bl => exact hm.elim
    | int => exact hm.elim
    | str k =>
      refine .inl ⟨p, _, rfl, .inr (SqT.of hp1), rfl, rfl, ?_⟩
      have e : inV (V.str k) (kinds4.map V.str) = decide (k ∈ kinds4) := inV_strs
      have e2 : kinds4.map V.str = [V.str "cell", V.str "range", V.str "rows", V.str "columns"] := rfl
      rw [e2] at e
      refine hq _ _ ⟨s1, ?_⟩
      show V.bl (inV (V.str k) [V.str "cell", V.str "range", V.str "rows", V.str "columns"]) = V.bl (decide (k ∈ kinds4))
      rw [e]
    | @tup q ys es hq2 hd2 =>
      exact .inr ⟨q, p, ys, kinds4, rfl, s1.seqT hq2, rfl, SqT.of hp1, hq _ _ ⟨s1, rfl⟩⟩
end
end Sw

set_option maxHeartbeats 4000000
namespace Sw
open PySem PySem.Spec PyProof.Rows L2 C8
local macro_rules | `(tactic| walk_at "v") => `(tactic| (with_reducible show tVar _ _ _ _; with_unfolding_all refine r_var rfl ?_))
local macro_rules | `(tactic| walk_at "x") => `(tactic| ((first | with_reducible refine r_ixTc (xs := ?xs) (v := ?v) ?hl ?e ?h | with_reducible refine r_ixLc (xs := ?xs) (v := ?v) ?hl ?e ?h); (case hl => first | assumption | exact SqT.of (by assumption) | exact SqL.of (by assumption)); (case e => first | rfl | assumption | exact atI_zero)))
local macro_rules | `(tactic| walk_at "n") => `(tactic| ((first | with_reducible refine r_mod ?hj (fun _ _ _ => ?_) | with_reducible refine r_mul ?hj ?_ | with_reducible refine r_div ?hj ?hd ?_ | with_reducible refine r_pow ?hj ?_); (case hj => first | (with_reducible show (0 : Int) < _; first | decide | omega) | exact ⟨by decide, by decide, by decide⟩ | exact .inr ⟨by decide, by decide⟩ | exact .inl ⟨by decide, by decide⟩ | exact .inl ⟨by omega, by omega⟩ | exact .inr ⟨by omega, by omega⟩); (try case hd => first | decide | omega)))
local macro_rules | `(tactic| walk_at "s0") => `(tactic| first
  | with_reducible refine r_seq ?_ | with_reducible refine r_asg ?_ | ((with_reducible refine r_gname ?_); dsimp only [List.set_cons_succ, List.set_cons_zero, List.set]) | with_reducible refine r_ret ?_ | with_reducible refine r_drop ?_ | with_reducible refine r_if ?_
  | with_reducible refine r_test ?_ | with_reducible refine r_B ?_ | with_reducible refine r_op ?_ | with_reducible refine r_cons ?_ | with_reducible refine r_nil ?_ | with_reducible refine r_c ?_ | walk_at "v"
  | with_reducible refine r_cl ?_ | with_reducible refine r_cb ?_ | with_reducible refine r_I0 ?_ | with_reducible refine r_bl ?_ | ((with_reducible refine r_eq ?hs ?_); (case hs => rfl)) | ((with_reducible refine r_ne ?hs ?_); (case hs => rfl))
  | with_reducible refine r_un ?_ | with_reducible refine r_neg ?_ | with_reducible refine r_int ?_ | with_reducible refine r_intB ?_ | with_reducible refine r_min2 ?_ | with_reducible refine r_max2 ?_
  | with_reducible refine r_tup ?_ | with_reducible refine r_lst ?_ | with_reducible refine r_not ?_ | with_reducible refine r_ifE ?_
  | with_reducible refine r_andV ?_ | with_reducible refine r_orV ?_ | with_reducible refine r_notV ?_ | with_reducible refine r_next ?_ | with_reducible refine r_brk ?_ | with_reducible refine r_for ?_ | with_reducible refine r_slc ?_ | with_reducible refine r_nop ?_ | with_reducible refine r_part ?_ | with_reducible refine r_ei ?_ | with_reducible refine r_bm ?_ | with_reducible refine r_isN ?_ | with_reducible refine r_notN ?_ | with_reducible refine r_m1 ?_ | with_reducible refine r_lc ?_ | with_reducible refine r_rng1 ?_ | with_reducible refine r_rng2 ?_ | with_reducible refine r_ilist ?_ | with_reducible refine r_itup ?_ | with_reducible refine iteT ?_ | with_reducible refine iteF ?_ | with_reducible refine r_sub ?_ | walk_at "n" | walk_at "x")
local macro_rules | `(tactic| walk_at "s1") => `(tactic| first | walk_at "s0" | with_reducible refine r_and ?_ | with_reducible refine r_or ?_)
local macro_rules | `(tactic| walk_at "u") => `(tactic| (try dsimp only); repeat walk_at "s0")
local macro_rules | `(tactic| walk_at "pt") => `(tactic| first
  | ((with_reducible refine r_and2 (a := ?a) (b := ?b) ?h1 ?h2 ?h); (case h1 => intro _ q; walk_at "pt"; exact q); (case h2 => intro _ q; walk_at "pt"; exact q); (try dsimp only))
  | ((with_reducible refine r_or2 (a := ?a) (b := ?b) ?h1 ?h2 ?h); (case h1 => intro _ q; walk_at "pt"; exact q); (case h2 => intro _ q; walk_at "pt"; exact q); (try dsimp only))
  | walk_at "u")
local macro_rules | `(tactic| walk_at "s") => `(tactic| (try dsimp only); repeat walk_at "s1")
local macro_rules | `(tactic| walk_at "go") => `(tactic| (try simp only [cxK, cxK2]); (try simp only [List.map_cons, List.map_nil, List.replicate, List.cons_append, List.nil_append]); walk_at "s")
local macro_rules | `(tactic| walk_at "t") => `(tactic| ((try dsimp only); (try with_reducible refine iteT ?_); (try dsimp only)))

local macro_rules | `(tactic| walk_at "k") => `(tactic| ((try dsimp only); (first | refine kF (by decide +kernel) ?_ | refine kT (by decide +kernel) ?_ | refine kF (decide_eq_false (fun h => by cases h)) ?_ | refine kT (decide_eq_true rfl) ?_); walk_at "s"))
/-! ### what an area means -/
def meantV (o : Option Int) : Ar → List V
  | .cell sh r c _ _ => [sV (sh.or o), .int r, .int c, .int r, .int c]
  | .range sh t l b r _ _ _ _ => [sV (sh.or o), .int t, .int l, .int b, .int r]
  | .rows sh t b _ _ => [sV (sh.or o), .int t, .int 0, .int b, .int 9]
  | .cols sh l r _ _ => [sV (sh.or o), .int 0, .int l, .int 19, .int r]
def meantD (o : Option Int) : Ar → List PyData
  | .cell sh r c _ _ => [sD (sh.or o), .int r, .int c, .int r, .int c]
  | .range sh t l b r _ _ _ _ => [sD (sh.or o), .int t, .int l, .int b, .int r]
  | .rows sh t b _ _ => [sD (sh.or o), .int t, .int 0, .int b, .int 9]
  | .cols sh l r _ _ => [sD (sh.or o), .int 0, .int l, .int 19, .int r]
theorem meantDt {K : PySem.W.Frag} {H : Hp} (o : Option Int) (a : Ar) : DtA K H (meantV o a) (meantD o a) := by
  cases a <;> exact .cons (shDt _) (.cons (.int _) (.cons (.int _) (.cons (.int _) (.cons (.int _) .nil))))
def axV : Ar → Bool → List V
  | .cell .., true => [.int 2, .int 2]
  | .cell .., false => [.int 3, .int 3]
  | .range .., true => [.int 2, .int 4]
  | .range .., false => [.int 3, .int 5]
  | .rows .., true => [.int 2, .int 3]
  | .cols .., false => [.int 2, .int 3]
  | _, _ => []
section
variable {P : Program} {w : World} {K : PySem.W.Frag} {mg : Str → Option Value} {base : Heap}
/-! ### _law_meant -/
abbrev N__law_meant : List Str := ["_law_node_here", "_law_own", "_law_sheet"]
theorem sc__law_meant : FnScope N__law_meant ["_law_node_here", "_law_own"] (defScope (topS 45)) := ⟨rfl, rfl, rfl, by decide +kernel, rfl, by decide +kernel, by decide +kernel⟩
def spMeant (K : PySem.W.Frag) : Sp := Spc (Addr × Ar × Option Int) (fun z => [.ref z.1, sV z.2.2]) (fun z H => SqT K H z.1 z.2.1.vs)
  fun z H v H' => Same H H' ∧ ∃ q, v = .ref q ∧ H' q = some (.tup (meantV z.2.2 z.2.1))
theorem cl_meant (F : Df K mg "_law_meant" 45) (B : Bi mg) : Cl P w K mg base 1 "_law_meant" (spMeant K) := by
  refine mk_cl F sc__law_meant (fun _ _ _ _ _ _ us hl => match us, hl with | [_, _], _ => rfl) (fun _ => rfl) 1 rfl fun f cdv A outer s H Q z hr hp hq => ?_
  obtain ⟨p, a, o⟩ := z
  dsimp only at hp hq
  have hp : SqT K H p a.vs := hp
  refine ⟨_, ((pss_cons (ps_set (i := 2) sc__law_meant.nd rfl (Or.inl rfl) (pe_ix ix_tup (pv 0) pe_int (fun _ _ => rfl)))
      (C8.pss_cut (ps_if (pt_cmpR op_isNn (pv 2) pe_non (nomark _)) (pss_one (ps_set (i := 2) sc__law_meant.nd rfl (Or.inl rfl) (pv 1))) pss_nil)
      (pss_cons (ps_if (pt_cmpR op_eq (pe_ix ix_tup (pv 0) pe_int (fun _ _ => rfl)) pe_str (nomark _)) (pss_one (ps_ret (pe_tup (pa_cons (pv 2) (pa_cons (pe_ix ix_tup (pv 0) pe_int (fun _ _ => rfl)) (pa_cons (pe_ix ix_tup (pv 0) pe_int (fun _ _ => rfl)) (pa_cons (pe_ix ix_tup (pv 0) pe_int (fun _ _ => rfl)) (pa_cons (pe_ix ix_tup (pv 0) pe_int (fun _ _ => rfl)) pa_nil)))))))) pss_nil)
      (pss_cons (ps_if (pt_cmpR op_eq (pe_ix ix_tup (pv 0) pe_int (fun _ _ => rfl)) pe_str (nomark _)) (pss_one (ps_ret (pe_tup (pa_cons (pv 2) (pa_cons (pe_ix ix_tup (pv 0) pe_int (fun _ _ => rfl)) (pa_cons (pe_ix ix_tup (pv 0) pe_int (fun _ _ => rfl)) (pa_cons (pe_ix ix_tup (pv 0) pe_int (fun _ _ => rfl)) (pa_cons (pe_ix ix_tup (pv 0) pe_int (fun _ _ => rfl)) pa_nil)))))))) pss_nil)
      (pss_cons (ps_if (pt_cmpR op_eq (pe_ix ix_tup (pv 0) pe_int (fun _ _ => rfl)) pe_str (nomark _)) (pss_one (ps_ret (pe_tup (pa_cons (pv 2) (pa_cons (pe_ix ix_tup (pv 0) pe_int (fun _ _ => rfl)) (pa_cons pe_int (pa_cons (pe_ix ix_tup (pv 0) pe_int (fun _ _ => rfl)) (pa_cons pe_int pa_nil)))))))) pss_nil)
      (pss_one (ps_ret (pe_tup (pa_cons (pv 2) (pa_cons pe_int (pa_cons (pe_ix ix_tup (pv 0) pe_int (fun _ _ => rfl)) (pa_cons pe_int (pa_cons (pe_ix ix_tup (pv 0) pe_int (fun _ _ => rfl)) pa_nil)))))))))))))), ?_⟩
  have sh1 : ∀ (sh : Option Int), sV sh = .non → sV o = sV (sh.or o) := fun sh h => by cases sh with | none => rfl | some i => cases h
  have sh2 : ∀ (sh : Option Int), ¬ sV sh = .non → sV sh = sV (sh.or o) := fun sh h => by cases sh with | none => exact absurd rfl h | some i => rfl
  cases a with
  | cell sh _ _ _ _ =>
    unfold Ar.vs at hp
    walk_at "go"
    refine r_cut (Mid := fun σ' H' => σ' = [some (.ref p), some (sV o), some (sV (sh.or o))] ∧ H' = H) ?_ ?_
    · walk_at "s"
      refine i2 (fun h => ?_) (fun h => ?_)
      · walk_at "s"
        exact ⟨by rw [sh1 _ h], rfl⟩
      · walk_at "s"
        exact ⟨by rw [← sh2 _ h], rfl⟩
    rintro σ' H' ⟨rfl, rfl⟩
    walk_at "s"
    repeat walk_at "k"
    refine n_tup (szr rfl) fun q H1 np s1 hq1 => ?_
    exact hq _ _ ⟨s1, q, rfl, hq1⟩
  | range sh _ _ _ _ _ _ _ _ =>
    unfold Ar.vs at hp
    walk_at "go"
    refine r_cut (Mid := fun σ' H' => σ' = [some (.ref p), some (sV o), some (sV (sh.or o))] ∧ H' = H) ?_ ?_
    · walk_at "s"
      refine i2 (fun h => ?_) (fun h => ?_)
      · walk_at "s"
        exact ⟨by rw [sh1 _ h], rfl⟩
      · walk_at "s"
        exact ⟨by rw [← sh2 _ h], rfl⟩
    rintro σ' H' ⟨rfl, rfl⟩
    walk_at "s"
    repeat walk_at "k"
    refine n_tup (szr rfl) fun q H1 np s1 hq1 => ?_
    exact hq _ _ ⟨s1, q, rfl, hq1⟩
  | rows sh _ _ _ _ =>
    unfold Ar.vs at hp
    walk_at "go"
    refine r_cut (Mid := fun σ' H' => σ' = [some (.ref p), some (sV o), some (sV (sh.or o))] ∧ H' = H) ?_ ?_
    · walk_at "s"
      refine i2 (fun h => ?_) (fun h => ?_)
      · walk_at "s"
        exact ⟨by rw [sh1 _ h], rfl⟩
      · walk_at "s"
        exact ⟨by rw [← sh2 _ h], rfl⟩
    rintro σ' H' ⟨rfl, rfl⟩
    walk_at "s"
    repeat walk_at "k"
    refine n_tup (szr rfl) fun q H1 np s1 hq1 => ?_
    exact hq _ _ ⟨s1, q, rfl, hq1⟩
  | cols sh _ _ _ _ =>
    unfold Ar.vs at hp
    walk_at "go"
    refine r_cut (Mid := fun σ' H' => σ' = [some (.ref p), some (sV o), some (sV (sh.or o))] ∧ H' = H) ?_ ?_
    · walk_at "s"
      refine i2 (fun h => ?_) (fun h => ?_)
      · walk_at "s"
        exact ⟨by rw [sh1 _ h], rfl⟩
      · walk_at "s"
        exact ⟨by rw [← sh2 _ h], rfl⟩
    rintro σ' H' ⟨rfl, rfl⟩
    walk_at "s"
    repeat walk_at "k"
    refine n_tup (szr rfl) fun q H1 np s1 hq1 => ?_
    exact hq _ _ ⟨s1, q, rfl, hq1⟩
/-! ### _law_axis -/
abbrev N__law_axis : List Str := ["_law_node_here", "_law_is_rows"]
theorem sc__law_axis : FnScope N__law_axis ["_law_node_here", "_law_is_rows"] (defScope (topS 46)) := ⟨rfl, rfl, rfl, by decide +kernel, rfl, by decide +kernel, by decide +kernel⟩
def spAxis (K : PySem.W.Frag) : Sp := Spc (Addr × Ar × Bool) (fun z => [.ref z.1, .bl z.2.2]) (fun z H => SqT K H z.1 z.2.1.vs)
  fun z H v H' => Same H H' ∧ ∃ q, v = .ref q ∧ H' q = some (.tup (axV z.2.1 z.2.2))
theorem cl_axis (F : Df K mg "_law_axis" 46) (B : Bi mg) : Cl P w K mg base 1 "_law_axis" (spAxis K) := by
  refine mk_cl F sc__law_axis (fun _ _ _ _ _ _ us hl => match us, hl with | [_, _], _ => rfl) (fun _ => rfl) 0 rfl fun f cdv A outer s H Q z hr hp hq => ?_
  obtain ⟨p, a, b⟩ := z
  dsimp only at hp hq
  have hp : SqT K H p a.vs := hp
  refine ⟨_, ((pss_cons (ps_if (pt_cmpR op_eq (pe_ix ix_tup (pv 0) pe_int (fun _ _ => rfl)) pe_str (nomark _)) (pss_one (ps_ret (pe_ix ix_list (pe_lst (pa_cons (pe_tup (pa_cons pe_int (pa_cons pe_int pa_nil))) (pa_cons (pe_tup (pa_cons pe_int (pa_cons pe_int pa_nil))) pa_nil))) (pe_callTy cl_int (by rfl) B.tint (by decide +kernel) (pa_cons (pv 1) pa_nil)) (fun _ _ => rfl)))) pss_nil)
      (pss_cons (ps_if (pt_cmpR op_eq (pe_ix ix_tup (pv 0) pe_int (fun _ _ => rfl)) pe_str (nomark _)) (pss_one (ps_ret (pe_ix ix_list (pe_lst (pa_cons (pe_tup (pa_cons pe_int (pa_cons pe_int pa_nil))) (pa_cons (pe_tup (pa_cons pe_int (pa_cons pe_int pa_nil))) pa_nil))) (pe_callTy cl_int (by rfl) B.tint (by decide +kernel) (pa_cons (pv 1) pa_nil)) (fun _ _ => rfl)))) pss_nil)
      (pss_cons (ps_if (pt_cmpR op_eq (pe_cmpR op_eq (pe_ix ix_tup (pv 0) pe_int (fun _ _ => rfl)) pe_str (nomark _)) (pv 1) (nomark _)) (pss_one (ps_ret (pe_tup (pa_cons pe_int (pa_cons pe_int pa_nil))))) pss_nil)
      (pss_one (ps_ret (pe_tup pa_nil))))))), ?_⟩
  cases a with
  | cell sh _ _ _ _ =>
    unfold Ar.vs at hp
    walk_at "go"
    repeat walk_at "k"
    refine n_tup (szr rfl) fun q1 H1 n1 s1 hq1 => ?_
    walk_at "s"
    refine n_tup (szr rfl) fun q2 H2 n2 s2 hq2 => ?_
    walk_at "s"
    refine n_lst (szr rfl) fun l H3 n3 s3 hl3 => ?_
    walk_at "s"
    cases b with
    | true =>
      refine r_ixLc (SqL.of hl3) rfl ?_
      exact hq _ _ ⟨(s1.trans s2).trans s3, _, rfl, s3 _ _ hq2⟩
    | false =>
      refine r_ixLc (SqL.of hl3) rfl ?_
      exact hq _ _ ⟨(s1.trans s2).trans s3, _, rfl, s3 _ _ (s2 _ _ hq1)⟩
  | range sh _ _ _ _ _ _ _ _ =>
    unfold Ar.vs at hp
    walk_at "go"
    repeat walk_at "k"
    refine n_tup (szr rfl) fun q1 H1 n1 s1 hq1 => ?_
    walk_at "s"
    refine n_tup (szr rfl) fun q2 H2 n2 s2 hq2 => ?_
    walk_at "s"
    refine n_lst (szr rfl) fun l H3 n3 s3 hl3 => ?_
    walk_at "s"
    cases b with
    | true =>
      refine r_ixLc (SqL.of hl3) rfl ?_
      exact hq _ _ ⟨(s1.trans s2).trans s3, _, rfl, s3 _ _ hq2⟩
    | false =>
      refine r_ixLc (SqL.of hl3) rfl ?_
      exact hq _ _ ⟨(s1.trans s2).trans s3, _, rfl, s3 _ _ (s2 _ _ hq1)⟩
  | rows sh _ _ _ _ =>
    unfold Ar.vs at hp
    walk_at "go"
    cases b <;>
    · repeat walk_at "k"
      refine n_tup (szr rfl) fun q1 H1 n1 s1 hq1 => ?_
      exact hq _ _ ⟨s1, _, rfl, hq1⟩
  | cols sh _ _ _ _ =>
    unfold Ar.vs at hp
    walk_at "go"
    cases b <;>
    · repeat walk_at "k"
      refine n_tup (szr rfl) fun q1 H1 n1 s1 hq1 => ?_
      exact hq _ _ ⟨s1, _, rfl, hq1⟩
/-! ### area_of -/
abbrev N_area_of : List Str := ["node", "own", "kind", "key"]
theorem sc_area_of : FnScope N_area_of ["node", "own"] (defScope (topS 9)) := ⟨rfl, rfl, rfl, by decide +kernel, rfl, by decide +kernel, by decide +kernel⟩
theorem cl_area_of {uR uC : Value} (F : Df K mg "area_of" 9) (B : Bi mg) (gROWS : mg "ROWS" = some uR ∧ RelV (.int 20) uR) (gCOLUMNS : mg "COLUMNS" = some uC ∧ RelV (.int 10) uC) : Cl P w K mg base 1 "area_of" (spMeant K) := by
  refine mk_cl F sc_area_of (fun _ _ _ _ _ _ us hl => match us, hl with | [_, _], _ => rfl) (fun _ => rfl) 2 rfl fun f cdv A outer s H Q z hr hp hq => ?_
  obtain ⟨p, a, o⟩ := z
  dsimp only at hp hq
  have hp : SqT K H p a.vs := hp
  refine ⟨_, ((pss_cons (ps_set (i := 2) sc_area_of.nd rfl (Or.inl rfl) (pe_ix ix_tup (pv 0) pe_int (fun _ _ => rfl)))
      (pss_cons (ps_set (i := 3) sc_area_of.nd rfl (Or.inl rfl) (pe_ifExp (pt_cmpR op_isNn (pe_ix ix_tup (pv 0) pe_int (fun _ _ => rfl)) pe_non (nomark _)) (pv 1) (pe_ix ix_tup (pv 0) pe_int (fun _ _ => rfl))))
      (pss_cons (ps_if (pt_cmpR op_eq (pv 2) pe_str (nomark _)) (pss_one (ps_ret (pe_tup (pa_cons (pv 3) (pa_cons (pe_ix ix_tup (pv 0) pe_int (fun _ _ => rfl)) (pa_cons (pe_ix ix_tup (pv 0) pe_int (fun _ _ => rfl)) (pa_cons (pe_ix ix_tup (pv 0) pe_int (fun _ _ => rfl)) (pa_cons (pe_ix ix_tup (pv 0) pe_int (fun _ _ => rfl)) pa_nil)))))))) pss_nil)
      (pss_cons (ps_if (pt_cmpR op_eq (pv 2) pe_str (nomark _)) (pss_one (ps_ret (pe_tup (pa_cons (pv 3) (pa_cons (pe_ix ix_tup (pv 0) pe_int (fun _ _ => rfl)) (pa_cons pe_int (pa_cons (pe_ix ix_tup (pv 0) pe_int (fun _ _ => rfl)) (pa_cons (pe_op op_sub (pe_glob (by rfl) gCOLUMNS.1 gCOLUMNS.2) pe_int) pa_nil)))))))) pss_nil)
      (pss_cons (ps_if (pt_cmpR op_eq (pv 2) pe_str (nomark _)) (pss_one (ps_ret (pe_tup (pa_cons (pv 3) (pa_cons pe_int (pa_cons (pe_ix ix_tup (pv 0) pe_int (fun _ _ => rfl)) (pa_cons (pe_op op_sub (pe_glob (by rfl) gROWS.1 gROWS.2) pe_int) (pa_cons (pe_ix ix_tup (pv 0) pe_int (fun _ _ => rfl)) pa_nil)))))))) pss_nil)
      (pss_one (ps_ret (pe_tup (pa_cons (pv 3) (pa_cons (pe_ix ix_tup (pv 0) pe_int (fun _ _ => rfl)) (pa_cons (pe_ix ix_tup (pv 0) pe_int (fun _ _ => rfl)) (pa_cons (pe_ix ix_tup (pv 0) pe_int (fun _ _ => rfl)) (pa_cons (pe_ix ix_tup (pv 0) pe_int (fun _ _ => rfl)) pa_nil)))))))))))))), ?_⟩
  have key : ∀ {q : Addr} {H1 : Hp} {us : List V}, Same H H1 → H1 q = some (.tup us) → us = meantV o a → Q (.ref q) H1 := fun s h e => hq _ _ ⟨s, _, rfl, by rw [h, e]⟩
  cases a with
  | cell sh _ _ _ _ =>
    unfold Ar.vs at hp
    cases sh <;>
    · walk_at "go"
      repeat walk_at "k"
      refine n_tup (szr rfl) fun q H1 np s1 hq1 => ?_
      exact key s1 hq1 rfl
  | range sh _ _ _ _ _ _ _ _ =>
    unfold Ar.vs at hp
    cases sh <;>
    · walk_at "go"
      repeat walk_at "k"
      refine n_tup (szr rfl) fun q H1 np s1 hq1 => ?_
      exact key s1 hq1 rfl
  | rows sh _ _ _ _ =>
    unfold Ar.vs at hp
    cases sh <;>
    · walk_at "go"
      repeat walk_at "k"
      refine n_tup (szr rfl) fun q H1 np s1 hq1 => ?_
      exact key s1 hq1 rfl
  | cols sh _ _ _ _ =>
    unfold Ar.vs at hp
    cases sh <;>
    · walk_at "go"
      repeat walk_at "k"
      refine n_tup (szr rfl) fun q H1 np s1 hq1 => ?_
      exact key s1 hq1 rfl
end
end Sw

set_option maxHeartbeats 4000000
namespace Sw
open PySem PySem.Spec PyProof.Rows L2 C8
local macro_rules | `(tactic| walk_at "v") => `(tactic| (with_reducible show tVar _ _ _ _; with_unfolding_all refine r_var rfl ?_))
local macro_rules | `(tactic| walk_at "x") => `(tactic| ((first | with_reducible refine r_ixTc (xs := ?xs) (v := ?v) ?hl ?e ?h | with_reducible refine r_ixLc (xs := ?xs) (v := ?v) ?hl ?e ?h); (case hl => first | assumption | exact SqT.of (by assumption) | exact SqL.of (by assumption)); (case e => first | rfl | assumption | exact atI_zero)))
local macro_rules | `(tactic| walk_at "n") => `(tactic| ((first | with_reducible refine r_mod ?hj (fun _ _ _ => ?_) | with_reducible refine r_mul ?hj ?_ | with_reducible refine r_div ?hj ?hd ?_ | with_reducible refine r_pow ?hj ?_); (case hj => first | (with_reducible show (0 : Int) < _; first | decide | omega) | exact ⟨by decide, by decide, by decide⟩ | exact .inr ⟨by decide, by decide⟩ | exact .inl ⟨by decide, by decide⟩ | exact .inl ⟨by omega, by omega⟩ | exact .inr ⟨by omega, by omega⟩); (try case hd => first | decide | omega)))
local macro_rules | `(tactic| walk_at "s0") => `(tactic| first
  | with_reducible refine r_seq ?_ | with_reducible refine r_asg ?_ | ((with_reducible refine r_gname ?_); dsimp only [List.set_cons_succ, List.set_cons_zero, List.set]) | with_reducible refine r_ret ?_ | with_reducible refine r_drop ?_ | with_reducible refine r_if ?_
  | with_reducible refine r_test ?_ | with_reducible refine r_B ?_ | with_reducible refine r_op ?_ | with_reducible refine r_cons ?_ | with_reducible refine r_nil ?_ | with_reducible refine r_c ?_ | walk_at "v"
  | with_reducible refine r_cl ?_ | with_reducible refine r_cb ?_ | with_reducible refine r_I0 ?_ | with_reducible refine r_bl ?_ | ((with_reducible refine r_eq ?hs ?_); (case hs => rfl)) | ((with_reducible refine r_ne ?hs ?_); (case hs => rfl))
  | with_reducible refine r_un ?_ | with_reducible refine r_neg ?_ | with_reducible refine r_int ?_ | with_reducible refine r_intB ?_ | with_reducible refine r_min2 ?_ | with_reducible refine r_max2 ?_
  | with_reducible refine r_tup ?_ | with_reducible refine r_lst ?_ | with_reducible refine r_not ?_ | with_reducible refine r_ifE ?_
  | with_reducible refine r_andV ?_ | with_reducible refine r_orV ?_ | with_reducible refine r_notV ?_ | with_reducible refine r_next ?_ | with_reducible refine r_brk ?_ | with_reducible refine r_for ?_ | with_reducible refine r_slc ?_ | with_reducible refine r_nop ?_ | with_reducible refine r_part ?_ | with_reducible refine r_ei ?_ | with_reducible refine r_bm ?_ | with_reducible refine r_isN ?_ | with_reducible refine r_notN ?_ | with_reducible refine r_m1 ?_ | with_reducible refine r_lc ?_ | with_reducible refine r_rng1 ?_ | with_reducible refine r_rng2 ?_ | with_reducible refine r_ilist ?_ | with_reducible refine r_itup ?_ | with_reducible refine iteT ?_ | with_reducible refine iteF ?_ | with_reducible refine r_sub ?_ | walk_at "n" | walk_at "x")
local macro_rules | `(tactic| walk_at "s1") => `(tactic| first | walk_at "s0" | with_reducible refine r_and ?_ | with_reducible refine r_or ?_)
local macro_rules | `(tactic| walk_at "u") => `(tactic| (try dsimp only); repeat walk_at "s0")
local macro_rules | `(tactic| walk_at "pt") => `(tactic| first
  | ((with_reducible refine r_and2 (a := ?a) (b := ?b) ?h1 ?h2 ?h); (case h1 => intro _ q; walk_at "pt"; exact q); (case h2 => intro _ q; walk_at "pt"; exact q); (try dsimp only))
  | ((with_reducible refine r_or2 (a := ?a) (b := ?b) ?h1 ?h2 ?h); (case h1 => intro _ q; walk_at "pt"; exact q); (case h2 => intro _ q; walk_at "pt"; exact q); (try dsimp only))
  | walk_at "u")
local macro_rules | `(tactic| walk_at "s") => `(tactic| (try dsimp only); repeat walk_at "s1")
local macro_rules | `(tactic| walk_at "go") => `(tactic| (try simp only [cxK, cxK2]); (try simp only [List.map_cons, List.map_nil, List.replicate, List.cons_append, List.nil_append]); walk_at "s")
local macro_rules | `(tactic| walk_at "t") => `(tactic| ((try dsimp only); (try with_reducible refine iteT ?_); (try dsimp only)))

local macro_rules | `(tactic| walk_at "k") => `(tactic| ((try dsimp only); (first | refine kF (by decide +kernel) ?_ | refine kT (by decide +kernel) ?_ | refine kF (decide_eq_false (fun h => by cases h)) ?_ | refine kT (decide_eq_true rfl) ?_); walk_at "s"))
/-! ### comprehensions with a test, over a range -/
section
variable {tt : TT} {te : TE} {j : Nat} {vs : List Nat} {σ : L2.St} {Q : VK} {H : Hp} {K : PySem.W.Frag}
theorem r_lcF {wi : TI} {g : TG} (h : wi σ H (LcF g tt te vs σ Q)) : tLc wi g tt te vs σ H Q := h
theorem lcRF {n : Nat} (hn : n ≤ 50000) (p : Nat → Bool) (hw : ∀ x, wipe ((wipe σ vs).set j (some x)) vs = wipe σ vs)
    (hs : ∀ i H', i < n → Same H H' → ∀ QB : Bool → Hp → Prop, QB (p i) H' → tt ((wipe σ vs).set j (some (.int ((0 : Int) + (i : Int))))) H' QB)
    (he : ∀ i H', ∀ Q' : VK, Q' (.int (i : Nat)) H' → te ((wipe σ vs).set j (some (.int ((0 : Int) + (i : Int))))) H' Q')
    (hq : ∀ l H', Same H H' → H l = none → H' l = some (.lst (((List.range n).filter p).map fun i => V.int (i : Nat))) → Q (.ref l) H') :
    ∃ m : Int, [V.int (n : Nat)] = [V.int m] ∧ -(2 ^ 62) ≤ m ∧ m < 2 ^ 62 ∧ LcF (gName j) tt te vs σ Q (Itr 0 m.toNat) H := by
  refine ⟨(n : Nat), rfl, by omega, by omega, ?_⟩
  intro D hD
  refine lc_range (fun i H' => Same H H' ∧ H' D = some (.lst (((List.range i).filter p).map fun i => V.int (i : Nat)))) ⟨Same.new hD, upd_same⟩ (fun i H' hi pv => ⟨hw _, ?_⟩) fun H' pv => ?_
  · have hi : i < n := by omega
    refine hs i H' hi pv.1 _ ?_
    have hl : ((List.range i).filter p).length ≤ i := Nat.le_trans (List.length_filter_le _ _) (by rw [List.length_range]; exact Nat.le_refl _)
    cases hb : p i with
    | true =>
      refine kT rfl ?_
      refine he i H' _ ⟨_, pv.2, szl (by rw [List.length_map]; omega), pv.1.mut hD, ?_⟩
      rw [upd_same, List.range_succ, List.filter_append]
      simp [hb]
    | false =>
      refine kF rfl ⟨pv.1, ?_⟩
      rw [pv.2, List.range_succ, List.filter_append]
      simp [hb]
  · exact hq D H' pv.1 hD (by have := pv.2; simpa using this)
theorem r_chain {r r' : R2} {ta tb tc : TE} (h : ta σ H fun x H1 => tb σ H1 fun y H2 => r x y H2 fun z H3 => ∃ k, z = .bl k ∧ (if k = true then tc σ H3 fun w' H4 => r' y w' H4 Q else Q (.bl false) H3)) : tChain r r' ta tb tc σ H Q := h
end
/-! ### the line -/
def lineL (c : Cut) : List Int := (((List.range c.n).map fun i : Nat => (i : Int)).take c.at' ++ List.replicate c.many (-1) ++ ((List.range c.n).map fun i : Nat => (i : Int)).drop c.at').take c.n
theorem lineL_len {c : Cut} (h : c.at' < c.n) : (lineL c).length = c.n := by
  unfold lineL
  simp only [List.length_take, List.length_append, List.length_map, List.length_range, List.length_replicate, List.length_drop]
  omega
section
variable {P : Program} {w : World} {K : PySem.W.Frag} {mg : Str → Option Value} {base : Heap}
abbrev N__law_line : List Str := ["_law_cut_here", "_law_line_here", "_law_k"]
theorem sc__law_line : FnScope N__law_line ["_law_cut_here"] (defScope (topS 48)) := ⟨rfl, rfl, rfl, by decide +kernel, rfl, by decide +kernel, by decide +kernel⟩
def spLine : Sp := Spc (Addr × Cut) (fun z => [.ref z.1]) (fun z H => CutOk H z.1 z.2)
  fun z H v H' => Same H H' ∧ ∃ l, v = .ref l ∧ H' l = some (.lst ((lineL z.2).map V.int))
theorem cl_line (F : Df K mg "_law_line" 48) (B : Bi mg) : Cl P w K mg base 1 "_law_line" spLine := by
  refine mk_cl F sc__law_line (fun _ _ _ _ _ _ us hl => match us, hl with | [_], _ => rfl) (fun _ => rfl) 2 rfl fun f cdv A outer s H Q z hr hp hq => ?_
  obtain ⟨a, c⟩ := z
  have hp : CutOk H a c := hp
  dsimp only at hq
  obtain ⟨hc, _, hat, hm1, hm2⟩ := hp
  have hn20 : c.n ≤ 20 := by unfold Cut.n; split <;> decide
  have e1 : atI [V.int 10, V.int 20] (if c.rows = true then 1 else 0) = some (.int (c.n : Nat)) := by
    unfold Cut.n
    cases c.rows <;> rfl
  unfold Cut.vs at hc
  refine ⟨_, ((pss_cons (ps_setLc (i := 1) (own := [("_law_k", 2)]) (g := gName 2) rfl sc__law_line.nd rfl rfl (sw_true rfl rfl rfl (by decide +kernel)) (pi_range1 rfl B.trange (pa_cons (pe_ix ix_list (pe_lst (pa_cons pe_int (pa_cons pe_int pa_nil))) (pe_callTy cl_int (by rfl) B.tint (by decide +kernel) (pa_cons (pe_ix ix_list (pv 0) pe_int (fun _ _ => rfl)) pa_nil)) (fun _ _ => rfl)) pa_nil)) (blkOk_by (own := [("_law_k", 2)]) (N := N__law_line) (sc := defScope (topS 48)) (by decide +kernel)) (fun _ _ _ _ _ => pg_name (i := 2) sc__law_line.nd rfl (Or.inl rfl)) (fun _ _ _ _ _ => pts_nil) (fun _ _ _ _ _ => (pv 2)))
      (pss_cons (ps_set (i := 1) sc__law_line.nd rfl (Or.inl rfl) (pe_op op_cat (pe_op op_cat (pe_slice sl_list (pv 1) po_none (po_some (pe_ix ix_list (pv 0) pe_int (fun _ _ => rfl)))) (pe_lc (own := [("_law_k", 2)]) (g := gName 2) rfl sc__law_line.nd (pi_range1 rfl B.trange (pa_cons (pe_ix ix_list (pv 0) pe_int (fun _ _ => rfl)) pa_nil)) (blkOk_by (own := [("_law_k", 2)]) (N := N__law_line) (sc := defScope (topS 48)) (by decide +kernel)) (fun _ _ _ _ _ => pg_name (i := 2) sc__law_line.nd rfl (Or.inl rfl)) (fun _ _ _ _ _ => pts_nil) (fun _ _ _ _ _ => (pe_un un_neg pe_int)))) (pe_slice sl_list (pv 1) (po_some (pe_ix ix_list (pv 0) pe_int (fun _ _ => rfl))) po_none)))
      (pss_one (ps_ret (pe_slice sl_list (pv 1) po_none (po_some (pe_ix ix_list (pe_lst (pa_cons pe_int (pa_cons pe_int pa_nil))) (pe_callTy cl_int (by rfl) B.tint (by decide +kernel) (pa_cons (pe_ix ix_list (pv 0) pe_int (fun _ _ => rfl)) pa_nil)) (fun _ _ => rfl))))))))), ?_⟩
  walk_at "go"
  refine n_lst (szr rfl) fun l1 H1 n1 s1 hl1 => ?_
  have hc1 := s1 _ _ hc
  walk_at "s"
  refine lcR (by omega) (by omega) ⟨fun i v _ _ => v = .int (i : Nat), fun _ _ _ _ _ _ _ _ _ _ _ h => h, fun _ => rfl, fun i x H5 hi hx s Q' hQ' => ?_, fun m H2 ys s2 nm hm hy hE => ?_⟩
  · have hx : x = .int ((0 : Int) + (i : Int)) := hx
    subst hx
    walk_at "s"
    exact hQ' _ _ (Same.refl _) (by rw [Int.zero_add])
  have ey : ys = ((List.range c.n).map fun i : Nat => (i : Int)).map V.int := eq_of_get (by rw [hy]; simp) fun i y h => by
    obtain ⟨_, _, h2⟩ := hE i y h
    have hlt := (List.getElem?_eq_some_iff.mp h).1
    have hi : i < c.n := by omega
    subst h2
    simp [hi]
  subst ey
  have hc2 := s2 _ _ hc1
  walk_at "s"
  refine r_slL (SqL.of hm) fun l3 H3 n3 s3 hl3 => ?_
  rw [cutTo _ (by simp; omega)] at hl3
  have hc3 := s3 _ _ hc2
  walk_at "s"
  refine lcR (by omega) (by omega) ⟨fun i v _ _ => v = .int (-1), fun _ _ _ _ _ _ _ _ _ _ _ h => h, fun _ => rfl, fun i x H5 hi hx s Q' hQ' => ?_, fun m4 H4 ys s4 nm4 hm4 hy4 hE4 => ?_⟩
  · walk_at "s"
    exact hQ' _ _ (Same.refl _) rfl
  have ey : ys = (List.replicate c.many (-1 : Int)).map V.int := eq_of_get (by rw [hy4]; simp) fun i y h => by
    obtain ⟨_, _, h2⟩ := hE4 i y h
    have hlt := (List.getElem?_eq_some_iff.mp h).1
    have hi : i < c.many := by omega
    subst h2
    simp [hi]
  subst ey
  refine r_cat (s4 _ _ hl3) hm4 (by simp; omega) fun l5 H5 n5 s5 hl5 => ?_
  have hm5 := s5 _ _ (s4 _ _ (s3 _ _ hm))
  have hc5 := s5 _ _ (s4 _ _ hc3)
  walk_at "s"
  refine r_slL (SqL.of hm5) fun l6 H6 n6 s6 hl6 => ?_
  rw [cutFrom _ (by simp; omega)] at hl6
  refine r_cat (s6 _ _ hl5) hl6 (by simp; omega) fun l7 H7 n7 s7 hl7 => ?_
  have hc7 := s7 _ _ (s6 _ _ hc5)
  walk_at "s"
  refine n_lst (szr rfl) fun l8 H8 n8 s8 hl8 => ?_
  have hc8 := s8 _ _ hc7
  walk_at "s"
  refine r_slL (SqL.of (s8 _ _ hl7)) fun l9 H9 n9 s9 hl9 => ?_
  rw [cutTo _ (by simp; omega)] at hl9
  refine hq _ _ ⟨((((((((s1.trans s2).trans s3).trans s4).trans s5).trans s6).trans s7).trans s8).trans s9), l9, rfl, ?_⟩
  rw [hl9]
  unfold lineL
  simp only [List.map_take, List.map_append, List.map_drop]
/-! ### _law_due -/
def dueP (lo hi at' : Int) (ln : List Int) (k : Nat) : Bool := match ln[k]? with
  | none => false
  | some x => (decide (lo < at') && decide (at' ≤ hi) && decide (x = -1)) || (decide (lo ≤ x) && decide (x ≤ hi))
def dueL (lo hi at' : Int) (ln : List Int) : List Nat := (List.range ln.length).filter (dueP lo hi at' ln)
abbrev N__law_due : List Str := ["_law_low", "_law_high", "_law_cut_here", "_law_line_here", "_law_k"]
theorem sc__law_due : FnScope N__law_due ["_law_low", "_law_high", "_law_cut_here", "_law_line_here"] (defScope (topS 49)) := ⟨rfl, rfl, rfl, by decide +kernel, rfl, by decide +kernel, by decide +kernel⟩
def spDue : Sp := Spc (Int × Int × Addr × Cut × Addr × List Int) (fun z => [.int z.1, .int z.2.1, .ref z.2.2.1, .ref z.2.2.2.2.1]) (fun z H => CutOk H z.2.2.1 z.2.2.2.1 ∧ H z.2.2.2.2.1 = some (.lst (z.2.2.2.2.2.map V.int)) ∧ z.2.2.2.2.2.length ≤ 100)
  fun z H v H' => Same H H' ∧ ∃ l, v = .ref l ∧ H' l = some (.lst ((dueL z.1 z.2.1 z.2.2.2.1.at' z.2.2.2.2.2).map fun k => V.int (k : Nat)))
theorem cl_due (F : Df K mg "_law_due" 49) (B : Bi mg) : Cl P w K mg base 1 "_law_due" spDue := by
  refine mk_cl F sc__law_due (fun _ _ _ _ _ _ us hl => match us, hl with | [_, _, _, _], _ => rfl) (fun _ => rfl) 1 rfl fun f cdv A outer s H Q z hr hp hq => ?_
  obtain ⟨lo, hi, ca, c, la, ln⟩ := z
  obtain ⟨hc, hl, hlen⟩ := hp
  dsimp only at hc hl hlen hq
  have hc := hc.h
  unfold Cut.vs at hc
  refine ⟨_, ((pss_cons (ps_if (PW.pt (pw_and (pt_cmpR op_lt (pv 0) (pe_ix ix_list (pv 2) pe_int (fun _ _ => rfl)) (nomark _)) (pw_and1 (pt_cmpR op_le (pe_ix ix_list (pv 2) pe_int (fun _ _ => rfl)) (pv 1) (nomark _))))) (pss_one (ps_ret (pe_lc (own := [("_law_k", 4)]) (g := gName 4) rfl sc__law_due.nd (pi_range1 rfl B.trange (pa_cons (pe_callB cl_len (by rfl) B.tlen (by decide +kernel) (pa_cons (pv 3) pa_nil)) pa_nil)) (blkOk_by (own := [("_law_k", 4)]) (N := N__law_due) (sc := defScope (topS 49)) (by decide +kernel)) (fun _ _ _ _ _ => pg_name (i := 4) sc__law_due.nd rfl (Or.inl rfl)) (fun _ _ _ _ _ => (pts_one (PW.pt (pw_or (pt_cmpR op_eq (pe_ix (ix_list : IxR _ (rIxL K)) (pv 3) (pv 4) (fun _ _ => rfl)) (pe_un un_neg pe_int) (nomark _)) (pw_or1 (pt_chain op_le op_le (pv 0) (pe_ix (ix_list : IxR _ (rIxL K)) (pv 3) (pv 4) (fun _ _ => rfl)) (pv 1))))))) (fun _ _ _ _ _ => (pv 4))))) pss_nil)
      (pss_one (ps_ret (pe_lc (own := [("_law_k", 4)]) (g := gName 4) rfl sc__law_due.nd (pi_range1 rfl B.trange (pa_cons (pe_callB cl_len (by rfl) B.tlen (by decide +kernel) (pa_cons (pv 3) pa_nil)) pa_nil)) (blkOk_by (own := [("_law_k", 4)]) (N := N__law_due) (sc := defScope (topS 49)) (by decide +kernel)) (fun _ _ _ _ _ => pg_name (i := 4) sc__law_due.nd rfl (Or.inl rfl)) (fun _ _ _ _ _ => (pts_one (pt_chain op_le op_le (pv 0) (pe_ix (ix_list : IxR _ (rIxL K)) (pv 3) (pv 4) (fun _ _ => rfl)) (pv 1)))) (fun _ _ _ _ _ => (pv 4))))))), ?_⟩
  have hg : ∀ {i : Nat}, i < ln.length → ∃ x, ln[i]? = some x ∧ atI (ln.map V.int) ((0 : Int) + (i : Int)) = some (.int x) := fun h => ⟨_, List.getElem?_eq_getElem h, atI_0 (by rw [List.getElem?_map, List.getElem?_eq_getElem h]; rfl)⟩
  (try simp only [cxK, cxK2]); (try simp only [List.map_cons, List.map_nil, List.replicate, List.cons_append, List.nil_append])
  walk_at "u"
  walk_at "pt"
  refine ib (fun e => ?_) (fun e => ?_)
  · walk_at "u"
    refine r_lcF ?_
    walk_at "u"
    refine r_lenL (SqL.of hl) ?_
    rw [List.length_map]
    walk_at "u"
    refine lcRF (by omega) (dueP lo hi c.at' ln) (fun _ => rfl) (fun i H' hi s QB hQB => ?_) (fun i H' Q' h => ?_) fun l H' s nl hl' => ?_
    · obtain ⟨x, hx, ex⟩ := hg hi
      have hl5 := s _ _ hl
      unfold dueP at hQB
      rw [hx] at hQB
      dsimp only at hQB
      rw [e, Bool.true_and] at hQB
      walk_at "s"
      refine i2 (fun e1 => ?_) (fun e1 => ?_)
      · rw [decide_eq_true (V.int.inj e1), Bool.true_or] at hQB
        exact hQB
      · rw [decide_eq_false (fun h => e1 (by rw [h])), Bool.false_or] at hQB
        walk_at "s"
        refine r_chain ?_
        walk_at "s"
        refine i2 (fun e2 => ?_) (fun e2 => ?_)
        · rw [decide_eq_true e2, Bool.true_and] at hQB
          walk_at "s"
          exact hQB
        · rw [decide_eq_false e2, Bool.false_and] at hQB
          walk_at "s"
          exact hQB
    · walk_at "s"
      rw [Int.zero_add]
      exact h
    · exact hq _ _ ⟨s, l, rfl, hl'⟩
  · walk_at "u"
    refine r_lcF ?_
    walk_at "u"
    refine r_lenL (SqL.of hl) ?_
    rw [List.length_map]
    walk_at "u"
    refine lcRF (by omega) (dueP lo hi c.at' ln) (fun _ => rfl) (fun i H' hi s QB hQB => ?_) (fun i H' Q' h => ?_) fun l H' s nl hl' => ?_
    · obtain ⟨x, hx, ex⟩ := hg hi
      have hl5 := s _ _ hl
      unfold dueP at hQB
      rw [hx] at hQB
      dsimp only at hQB
      rw [e, Bool.false_and, Bool.false_or] at hQB
      walk_at "s"
      refine r_chain ?_
      walk_at "s"
      refine i2 (fun e2 => ?_) (fun e2 => ?_)
      · rw [decide_eq_true e2, Bool.true_and] at hQB
        walk_at "s"
        exact hQB
      · rw [decide_eq_false e2, Bool.false_and] at hQB
        walk_at "s"
        exact hQB
    · walk_at "s"
      rw [Int.zero_add]
      exact h
    · exact hq _ _ ⟨s, l, rfl, hl'⟩
/-! ### _law_covers -/
theorem dpInts {H : Hp} : ∀ {ns : List Int}, DpAll K H (ns.map V.int) (ns.map PyData.int)
  | [] => .nil
  | _ :: _ => .cons (.int _) dpInts
theorem eqvInts : ∀ {ns : List Int}, PyData.eqvAll (ns.map PyData.int) (ns.map PyData.int) = true
  | [] => by simp [PyData.eqvAll]
  | n :: ns => by simp [PyData.eqvAll, PyData.eqv, eqvInts (ns := ns)]
theorem layInts : ∀ {ns : List Int}, PyData.canLayAll0 (ns.map PyData.int) = true
  | [] => by simp [PyData.canLayAll0]
  | n :: ns => by simp [PyData.canLayAll0, PyData.canLay0, layInts (ns := ns)]
theorem depInts : ∀ {ns : List Int}, PyData.depthAll (ns.map PyData.int) = 0
  | [] => by simp [PyData.depthAll]
  | n :: ns => by simp [PyData.depthAll, PyData.depth, depInts (ns := ns)]
theorem shInts {ns : List Int} : SeqAt.shaped (.list (ns.map PyData.int)) = true := by
  unfold SeqAt.shaped
  rw [Bool.and_eq_true]
  refine ⟨?_, decide_eq_true ?_⟩
  · simp [PyData.canLay0, layInts]
  · simp [PyData.depth, depInts]
def spanL (lo hi : Nat) : List V := (List.range' lo (hi + 1 - lo)).map fun k => V.int (k : Nat)
theorem spanL_len (lo hi : Nat) : (spanL lo hi).length = hi + 1 - lo := by unfold spanL; simp
theorem spanL_get {lo hi i : Nat} (h : i < hi + 1 - lo) : (spanL lo hi)[i]? = some (.int ((lo + i : Nat) : Int)) := by
  unfold spanL
  simp [h]
abbrev N__law_covers : List Str := ["_law_after", "_law_axis_here", "_law_due_here", "_law_low", "_law_high", "_law_k"]
theorem sc__law_covers : FnScope N__law_covers ["_law_after", "_law_axis_here", "_law_due_here"] (defScope (topS 47)) := ⟨rfl, rfl, rfl, by decide +kernel, rfl, by decide +kernel, by decide +kernel⟩
structure ZV where
  p : Addr
  ax : Addr
  du : Addr
  ys : List V
  i : Nat
  j : Nat
  lo : Nat
  hi : Nat
def spCovers (K : PySem.W.Frag) : Sp := Spc ZV (fun z => [.ref z.p, .ref z.ax, .ref z.du]) (fun z H => SqT K H z.p z.ys ∧ H z.ax = some (.tup [.int z.i, .int z.j]) ∧ H z.du = some (.lst (spanL z.lo z.hi)) ∧ z.ys[z.i]? = some (.int z.lo) ∧ z.ys[z.j]? = some (.int z.hi) ∧ z.lo ≤ z.hi ∧ z.hi < 100)
  fun z H v H' => Same H H' ∧ v = .bl true
theorem cl_covers (F : Df K mg "_law_covers" 47) (B : Bi mg) (c_law_same : Cl P w K mg base 3 "_law_same" (spSame K 2)) : Cl P w K mg base 4 "_law_covers" (spCovers K) := by
  refine mk_cl F sc__law_covers (fun _ _ _ _ _ _ us hl => match us, hl with | [_, _, _], _ => rfl) (fun _ => rfl) 3 rfl fun f cdv A outer s H Q z hr hp hq => ?_
  obtain ⟨p, ax, du, ys, i, j, lo, hi⟩ := z
  obtain ⟨hs, hax, hdu, ei, ej, h1, h2⟩ := hp
  dsimp only at hs hax hdu ei ej h1 h2 hq
  have ei := atI_nat ei
  have ej := atI_nat ej
  refine ⟨_, ((pss_cons (ps_set (i := 3) sc__law_covers.nd rfl (Or.inl rfl) (pe_ix ix_tup (pv 0) (pe_ix ix_tup (pv 1) pe_int (fun _ _ => rfl)) (fun _ _ => rfl)))
      (pss_cons (ps_set (i := 4) sc__law_covers.nd rfl (Or.inl rfl) (pe_ix ix_tup (pv 0) (pe_ix ix_tup (pv 1) pe_int (fun _ _ => rfl)) (fun _ _ => rfl)))
      (pss_cons (ps_if (pt_not (pt_val (pe_cl c_law_same hr (by decide) (by rfl) (pa_cons (pe_tup (pa_cons (pv 3) (pa_cons (pv 4) pa_nil))) (pa_cons (pe_tup (pa_cons (pe_ix ix_list (pv 2) pe_int (fun _ _ => rfl)) (pa_cons (pe_ix ix_list (pv 2) (pe_op op_sub (pe_callB cl_len (by rfl) B.tlen (by decide +kernel) (pa_cons (pv 2) pa_nil)) pe_int) (fun _ _ => rfl)) pa_nil))) pa_nil))))) (pss_one (ps_ret pe_bl)) pss_nil)
      (pss_one (ps_ret (pe_cmpR (op_eqD hr.units) (pe_lc (own := [("_law_k", 5)]) (g := gName 5) rfl sc__law_covers.nd (pi_range2 rfl B.trange (pa_cons (pv 3) (pa_cons (pe_op op_add (pv 4) pe_int) pa_nil))) (blkOk_by (own := [("_law_k", 5)]) (N := N__law_covers) (sc := defScope (topS 47)) (by decide +kernel)) (fun _ _ _ _ _ => pg_name (i := 5) sc__law_covers.nd rfl (Or.inl rfl)) (fun _ _ _ _ _ => pts_nil) (fun _ _ _ _ _ => (pv 5))) (pv 2) (nomark _)))))))), ?_⟩
  walk_at "go"
  refine n_tup (szr rfl) fun q1 H1 nq1 s1 hq1 => ?_
  have hdu1 := s1 _ _ hdu
  have e0 : atI (spanL lo hi) 0 = some (.int (lo : Nat)) := atI_nat (j := 0) (spanL_get (i := 0) (by omega))
  have e9 : atI (spanL lo hi) (((spanL lo hi).length : Int) - 1) = some (.int (hi : Nat)) := by
    rw [spanL_len, show ((hi + 1 - lo : Nat) : Int) - 1 = ((hi - lo : Nat) : Int) by omega]
    rw [atI_nat (spanL_get (i := hi - lo) (by omega)), show lo + (hi - lo) = hi by omega]
  walk_at "s"
  refine r_lenL (SqL.of hdu1) ?_
  walk_at "s"
  refine n_tup (szr rfl) fun q2 H2 nq2 s2 hq2 => ?_
  walk_at "s"
  refine ⟨(.ref q1, .ref q2, .tuple [.int (lo : Nat), .int (hi : Nat)]), rfl, ⟨.tup (SqT.of (s2 _ _ hq1)) (.cons (.int _) (.cons (.int _) .nil)), .tup (SqT.of hq2) (.cons (.int _) (.cons (.int _) .nil)), .inr ⟨_, rfl, Nat.le_of_ble_eq_true rfl, fun e he => ?_⟩⟩, ?_⟩
  · rcases List.mem_cons.mp he with rfl | he
    · exact .inl trivial
    · rw [List.mem_singleton.mp he]
      exact .inl trivial
  rintro _ _ ⟨rfl, rfl⟩
  walk_at "s"
  walk_at "k"
  refine lcR2 (by omega) (by omega) ⟨fun i v _ _ => v = .int ((lo + i : Nat) : Int), fun _ _ _ _ _ _ _ _ _ _ _ h => h, fun _ => rfl, fun i x H5 hi hx s Q' hQ' => ?_, fun m H3 zs s3 nm hm hy hE => ?_⟩
  · have hx : x = .int ((lo : Int) + (i : Int)) := hx
    subst hx
    walk_at "s"
    exact hQ' _ _ (Same.refl _) rfl
  have ez : zs = spanL lo hi := eq_of_get (by rw [hy, spanL_len]; omega) fun i y h => by
    obtain ⟨_, _, h3⟩ := hE i y h
    have hlt := (List.getElem?_eq_some_iff.mp h).1
    rw [h3]
    exact spanL_get (by omega)
  subst ez
  have eS : spanL lo hi = ((List.range' lo (hi + 1 - lo)).map fun k => ((k : Nat) : Int)).map V.int := by
    unfold spanL
    rw [List.map_map]
    rfl
  have hdu3 := s3 _ _ (s2 _ _ hdu1)
  rw [eS] at hm hdu3
  walk_at "s"
  refine ⟨_, _, .lst (SqL.of hm) dpInts, .lst (SqL.of hdu3) dpInts, shInts, shInts, ?_⟩
  refine hq _ _ ⟨(s1.trans s2).trans s3, ?_⟩
  refine congrArg V.bl ?_
  unfold PyData.eqv
  exact eqvInts
end
end Sw

set_option maxHeartbeats 4000000
namespace Sw
open PySem PySem.Spec PyProof.Rows L2 C8
local macro_rules | `(tactic| walk_at "v") => `(tactic| (with_reducible show tVar _ _ _ _; with_unfolding_all refine r_var rfl ?_))
local macro_rules | `(tactic| walk_at "x") => `(tactic| ((first | with_reducible refine r_ixTc (xs := ?xs) (v := ?v) ?hl ?e ?h | with_reducible refine r_ixLc (xs := ?xs) (v := ?v) ?hl ?e ?h); (case hl => first | assumption | exact SqT.of (by assumption) | exact SqL.of (by assumption)); (case e => first | rfl | assumption | exact atI_zero)))
local macro_rules | `(tactic| walk_at "n") => `(tactic| ((first | with_reducible refine r_mod ?hj (fun _ _ _ => ?_) | with_reducible refine r_mul ?hj ?_ | with_reducible refine r_div ?hj ?hd ?_ | with_reducible refine r_pow ?hj ?_); (case hj => first | (with_reducible show (0 : Int) < _; first | decide | omega) | exact ⟨by decide, by decide, by decide⟩ | exact .inr ⟨by decide, by decide⟩ | exact .inl ⟨by decide, by decide⟩ | exact .inl ⟨by omega, by omega⟩ | exact .inr ⟨by omega, by omega⟩); (try case hd => first | decide | omega)))
local macro_rules | `(tactic| walk_at "s0") => `(tactic| first
  | with_reducible refine r_seq ?_ | with_reducible refine r_asg ?_ | ((with_reducible refine r_gname ?_); dsimp only [List.set_cons_succ, List.set_cons_zero, List.set]) | with_reducible refine r_ret ?_ | with_reducible refine r_drop ?_ | with_reducible refine r_if ?_
  | with_reducible refine r_test ?_ | with_reducible refine r_B ?_ | with_reducible refine r_op ?_ | with_reducible refine r_cons ?_ | with_reducible refine r_nil ?_ | with_reducible refine r_c ?_ | walk_at "v"
  | with_reducible refine r_cl ?_ | with_reducible refine r_cb ?_ | with_reducible refine r_I0 ?_ | with_reducible refine r_bl ?_ | ((with_reducible refine r_eq ?hs ?_); (case hs => rfl)) | ((with_reducible refine r_ne ?hs ?_); (case hs => rfl))
  | with_reducible refine r_un ?_ | with_reducible refine r_neg ?_ | with_reducible refine r_int ?_ | with_reducible refine r_intB ?_ | with_reducible refine r_min2 ?_ | with_reducible refine r_max2 ?_
  | with_reducible refine r_tup ?_ | with_reducible refine r_lst ?_ | with_reducible refine r_not ?_ | with_reducible refine r_ifE ?_
  | with_reducible refine r_andV ?_ | with_reducible refine r_orV ?_ | with_reducible refine r_notV ?_ | with_reducible refine r_next ?_ | with_reducible refine r_brk ?_ | with_reducible refine r_for ?_ | with_reducible refine r_slc ?_ | with_reducible refine r_nop ?_ | with_reducible refine r_part ?_ | with_reducible refine r_ei ?_ | with_reducible refine r_bm ?_ | with_reducible refine r_isN ?_ | with_reducible refine r_notN ?_ | with_reducible refine r_m1 ?_ | with_reducible refine r_lc ?_ | with_reducible refine r_rng1 ?_ | with_reducible refine r_rng2 ?_ | with_reducible refine r_ilist ?_ | with_reducible refine r_itup ?_ | with_reducible refine iteT ?_ | with_reducible refine iteF ?_ | with_reducible refine r_sub ?_ | walk_at "n" | walk_at "x")
local macro_rules | `(tactic| walk_at "s1") => `(tactic| first | walk_at "s0" | with_reducible refine r_and ?_ | with_reducible refine r_or ?_)
local macro_rules | `(tactic| walk_at "u") => `(tactic| (try dsimp only); repeat walk_at "s0")
local macro_rules | `(tactic| walk_at "pt") => `(tactic| first
  | ((with_reducible refine r_and2 (a := ?a) (b := ?b) ?h1 ?h2 ?h); (case h1 => intro _ q; walk_at "pt"; exact q); (case h2 => intro _ q; walk_at "pt"; exact q); (try dsimp only))
  | ((with_reducible refine r_or2 (a := ?a) (b := ?b) ?h1 ?h2 ?h); (case h1 => intro _ q; walk_at "pt"; exact q); (case h2 => intro _ q; walk_at "pt"; exact q); (try dsimp only))
  | walk_at "u")
local macro_rules | `(tactic| walk_at "s") => `(tactic| (try dsimp only); repeat walk_at "s1")
local macro_rules | `(tactic| walk_at "go") => `(tactic| (try simp only [cxK, cxK2]); (try simp only [List.map_cons, List.map_nil, List.replicate, List.cons_append, List.nil_append]); walk_at "s")
local macro_rules | `(tactic| walk_at "t") => `(tactic| ((try dsimp only); (try with_reducible refine iteT ?_); (try dsimp only)))

local macro_rules | `(tactic| walk_at "k") => `(tactic| ((try dsimp only); (first | refine kF (by decide +kernel) ?_ | refine kT (by decide +kernel) ?_ | refine kF (decide_eq_false (fun h => by cases h)) ?_ | refine kT (decide_eq_true rfl) ?_); walk_at "s"))
/-! ### the plain law -/
def Ar.lo : Ar → Bool → Nat
  | .cell _ r c _ _, b => if b then r else c
  | .range _ t l _ _ _ _ _ _, b => if b then t else l
  | .rows _ t _ _ _, _ => t
  | .cols _ l _ _ _, _ => l
def Ar.hi : Ar → Bool → Nat
  | .cell _ r c _ _, b => if b then r else c
  | .range _ _ _ t l _ _ _ _, b => if b then t else l
  | .rows _ _ t _ _, _ => t
  | .cols _ _ l _ _, _ => l
def Ar.put : Ar → Bool → Nat → Nat → Ar
  | .cell sh r c f g, b, x, _ => if b then .cell sh x c f g else .cell sh r x f g
  | .range sh t l b' r f g h i, b, x, y => if b then .range sh x l y r f g h i else .range sh t x b' y f g h i
  | .rows sh _ _ f g, _, x, y => .rows sh x y f g
  | .cols sh _ _ f g, _, x, y => .cols sh x y f g
def Ar.on : Ar → Bool → Bool
  | .rows .., b => b
  | .cols .., b => !b
  | _, _ => true
def Ar.i1 : Ar → Bool → Nat
  | .cell .., b => if b then 2 else 3
  | .range .., b => if b then 2 else 3
  | _, _ => 2
def Ar.i2 : Ar → Bool → Nat
  | .cell .., b => if b then 2 else 3
  | .range .., b => if b then 4 else 5
  | _, _ => 3
def shf (at' many x : Nat) : Nat := if x < at' then x else x + many
def insP (c : Cut) (lo hi : Nat) : Option (Nat × Nat) := if shf c.at' c.many lo < c.n then some (shf c.at' c.many lo, min (shf c.at' c.many hi) (c.n - 1)) else none
def moved (o : Option Int) (c : Cut) (a : Ar) : PyData :=
  if a.sh.or o = some c.key ∧ a.on c.rows = true then
    match insP c (a.lo c.rows) (a.hi c.rows) with
    | some (x, y) => (a.put c.rows x y).d
    | none => .tuple [.str "error", .str "REF"]
  else a.d
theorem ax_on {a : Ar} {b : Bool} (h : a.on b = true) : axV a b = [.int (a.i1 b), .int (a.i2 b)] := by
  cases a <;> cases b <;> first | rfl | cases h
theorem ax_off {a : Ar} {b : Bool} (h : a.on b = false) : axV a b = [] := by
  cases a <;> cases b <;> first | rfl | cases h
theorem vs1 (a : Ar) : a.vs[1]? = some (sV a.sh) := by cases a <;> rfl
theorem vs_lo {a : Ar} {b : Bool} (h : a.on b = true) : a.vs[a.i1 b]? = some (.int (a.lo b)) := by
  cases a <;> cases b <;> first | rfl | cases h
theorem vs_hi {a : Ar} {b : Bool} (h : a.on b = true) : a.vs[a.i2 b]? = some (.int (a.hi b)) := by
  cases a <;> cases b <;> first | rfl | cases h
theorem put_len (a : Ar) (b : Bool) (x y : Nat) : (a.put b x y).vs.length = a.vs.length := by
  cases a <;> cases b <;> rfl
theorem put_lo {a : Ar} {b : Bool} {x y : Nat} (h : a.on b = true) : (a.put b x y).vs[a.i1 b]? = some (.int x) := by
  cases a <;> cases b <;> first | rfl | cases h
theorem put_hi {a : Ar} {b : Bool} {x y : Nat} (h : a.on b = true) (hc : a.i1 b = a.i2 b → x = y) : (a.put b x y).vs[a.i2 b]? = some (.int y) := by
  cases a <;> cases b <;> first | cases h; done | skip
  · have := hc rfl; subst this; rfl
  · have := hc rfl; subst this; rfl
  all_goals rfl
theorem put_out {a : Ar} {b : Bool} {x y k : Nat} (h : a.on b = true) (h1 : k ≠ a.i1 b) (h2 : k ≠ a.i2 b) : (a.put b x y).vs[k]? = a.vs[k]? := by
  cases a <;> cases b <;> first | cases h; done | skip
  all_goals
    simp only [Ar.i1, Ar.i2, if_true, if_false, Bool.false_eq_true] at h1 h2
    match k, h1, h2 with
    | 0, _, _ => rfl
    | 1, _, _ => rfl
    | 2, _, _ => first | rfl | omega
    | 3, _, _ => first | rfl | omega
    | 4, _, _ => first | rfl | omega
    | 5, _, _ => first | rfl | omega
    | 6, _, _ => rfl
    | 7, _, _ => rfl
    | 8, _, _ => rfl
    | 9, _, _ => rfl
    | k + 10, _, _ => rfl
theorem put_mean {o : Option Int} {a : Ar} {b : Bool} {x y : Nat} (h : a.on b = true) (hc : a.i1 b = a.i2 b → x = y) : ((meantV o a).set (if b then 1 else 2) (.int x)).set (if b then 3 else 4) (.int y) = meantV o (a.put b x y) := by
  cases a <;> cases b <;> first | cases h; done | skip
  · have := hc rfl; subst this; rfl
  · have := hc rfl; subst this; rfl
  all_goals rfl
theorem lo_hi {a : Ar} (h : a.ok) (b : Bool) : a.lo b ≤ a.hi b := by
  cases a <;> cases b <;> simp only [Ar.ok] at h <;> simp only [Ar.lo, Ar.hi, if_true, if_false, Bool.false_eq_true] <;> omega
theorem hi_lt {a : Ar} (h : a.ok) {b : Bool} (ho : a.on b = true) : a.hi b < (if b then 20 else 10) := by
  cases a <;> cases b <;> first | cases ho; done | skip
  all_goals
    simp only [Ar.ok] at h
    simp only [Ar.hi, if_true, if_false, Bool.false_eq_true]
    omega
theorem cell_same {a : Ar} {b : Bool} (h : a.i1 b = a.i2 b) : a.lo b = a.hi b := by
  cases a <;> cases b <;> first | rfl | (simp [Ar.i1, Ar.i2] at h)
theorem put_ok {a : Ar} {b : Bool} {x y : Nat} (h : a.ok) (ho : a.on b = true) (h1 : x ≤ y) (h2 : y < (if b then 20 else 10)) : (a.put b x y).ok := by
  cases a <;> cases b <;> first | cases ho; done | skip
  all_goals
    simp only [Ar.ok] at h
    simp only [if_true, if_false, Bool.false_eq_true] at h2
    simp only [Ar.put, if_true, if_false, Bool.false_eq_true, Ar.ok]
    omega
/-- the line at a place -/
theorem line_at {c : Cut} (h : c.at' < c.n) {k : Nat} (hk : k < c.n) : (lineL c)[k]? = some (if k < c.at' then (k : Int) else if k < c.at' + c.many then -1 else ((k - c.many : Nat) : Int)) := by
  unfold lineL
  rw [List.getElem?_take_of_lt hk]
  have hl : (((List.range c.n).map fun i : Nat => (i : Int)).take c.at').length = c.at' := by simp; omega
  by_cases h1 : k < c.at'
  · rw [List.getElem?_append_left (by rw [List.length_append, hl]; omega), List.getElem?_append_left (by rw [hl]; exact h1), if_pos h1]
    simp [h1, hk]
  · rw [if_neg h1]
    by_cases h2 : k < c.at' + c.many
    · rw [List.getElem?_append_left (by rw [List.length_append, hl, List.length_replicate]; exact h2), List.getElem?_append_right (by rw [hl]; omega), hl, if_pos h2]
      rw [List.getElem?_replicate, if_pos (by omega)]
    · rw [List.getElem?_append_right (by rw [List.length_append, hl, List.length_replicate]; omega), List.length_append, hl, List.length_replicate, if_neg h2, List.getElem?_drop]
      have e : c.at' + (k - (c.at' + c.many)) = k - c.many := by omega
      rw [e]
      have hk2 : k - c.many < c.n := by omega
      simp [hk2]
theorem filter_span (a b : Nat) : ∀ n : Nat, (List.range n).filter (fun k => decide (a ≤ k) && decide (k ≤ b)) = List.range' a (min (b + 1) n - a)
  | 0 => by simp
  | n + 1 => by
    rw [List.range_succ, List.filter_append, filter_span a b n]
    by_cases h : a ≤ n ∧ n ≤ b
    · have e : min (b + 1) (n + 1) - a = (min (b + 1) n - a) + 1 := by omega
      rw [e, List.range'_concat]
      have e2 : a + 1 * (min (b + 1) n - a) = n := by omega
      rw [e2]
      simp [h.1, h.2]
    · have e : min (b + 1) (n + 1) - a = min (b + 1) n - a := by omega
      rw [e]
      have : (decide (a ≤ n) && decide (n ≤ b)) = false := by
        rw [Bool.and_eq_false_iff]
        by_cases h1 : a ≤ n
        · exact .inr (decide_eq_false fun h2 => h ⟨h1, h2⟩)
        · exact .inl (decide_eq_false h1)
      simp [this]
theorem due_span {c : Cut} {lo hi : Nat} (hat : c.at' < c.n) (h1 : lo ≤ hi) (h2 : hi < c.n) : dueL lo hi c.at' (lineL c) = List.range' (shf c.at' c.many lo) (min (shf c.at' c.many hi + 1) c.n - shf c.at' c.many lo) := by
  unfold dueL
  rw [lineL_len hat, ← filter_span]
  refine List.filter_congr fun k hk => ?_
  have hk := List.mem_range.mp hk
  unfold dueP
  rw [line_at hat hk]
  dsimp only
  rw [Bool.eq_iff_iff]
  simp only [Bool.or_eq_true, Bool.and_eq_true, decide_eq_true_eq, and_true]
  unfold shf
  by_cases g1 : k < c.at'
  · simp only [if_pos g1]
    split <;> split <;> omega
  · simp only [if_neg g1]
    by_cases g2 : k < c.at' + c.many
    · simp only [if_pos g2, and_true]
      split <;> split <;> omega
    · simp only [if_neg g2]
      split <;> split <;> omega
theorem due_none {c : Cut} {lo hi : Nat} (hat : c.at' < c.n) (h1 : lo ≤ hi) (h2 : hi < c.n) (h : insP c lo hi = none) : dueL lo hi c.at' (lineL c) = [] := by
  rw [due_span hat h1 h2]
  unfold insP at h
  split at h
  · cases h
  · rename_i hn
    rw [show min (shf c.at' c.many hi + 1) c.n - shf c.at' c.many lo = 0 by omega]
    rfl
theorem due_some {c : Cut} {lo hi x y : Nat} (hat : c.at' < c.n) (h1 : lo ≤ hi) (h2 : hi < c.n) (h : insP c lo hi = some (x, y)) : ((dueL lo hi c.at' (lineL c)).map fun k => V.int (k : Nat)) = spanL x y ∧ x ≤ y ∧ y < c.n ∧ (lo = hi → x = y) := by
  rw [due_span hat h1 h2]
  unfold insP at h
  split at h
  · rename_i hn
    have h := Option.some.inj h
    injection h with hx hy
    have hs : shf c.at' c.many lo ≤ shf c.at' c.many hi := by
      unfold shf
      split <;> split <;> omega
    unfold spanL
    rw [show min (shf c.at' c.many hi + 1) c.n - shf c.at' c.many lo = y + 1 - x by omega, hx]
    refine ⟨rfl, by omega, by omega, fun e => ?_⟩
    subst e
    omega
  · cases h
end Sw

set_option maxHeartbeats 4000000
namespace Sw
open PySem PySem.Spec PyProof.Rows L2 C8
local macro_rules | `(tactic| walk_at "v") => `(tactic| (with_reducible show tVar _ _ _ _; with_unfolding_all refine r_var rfl ?_))
local macro_rules | `(tactic| walk_at "x") => `(tactic| ((first | with_reducible refine r_ixTc (xs := ?xs) (v := ?v) ?hl ?e ?h | with_reducible refine r_ixLc (xs := ?xs) (v := ?v) ?hl ?e ?h); (case hl => first | assumption | exact SqT.of (by assumption) | exact SqL.of (by assumption)); (case e => first | rfl | assumption | exact atI_zero)))
local macro_rules | `(tactic| walk_at "n") => `(tactic| ((first | with_reducible refine r_mod ?hj (fun _ _ _ => ?_) | with_reducible refine r_mul ?hj ?_ | with_reducible refine r_div ?hj ?hd ?_ | with_reducible refine r_pow ?hj ?_); (case hj => first | (with_reducible show (0 : Int) < _; first | decide | omega) | exact ⟨by decide, by decide, by decide⟩ | exact .inr ⟨by decide, by decide⟩ | exact .inl ⟨by decide, by decide⟩ | exact .inl ⟨by omega, by omega⟩ | exact .inr ⟨by omega, by omega⟩); (try case hd => first | decide | omega)))
local macro_rules | `(tactic| walk_at "s0") => `(tactic| first
  | with_reducible refine r_seq ?_ | with_reducible refine r_asg ?_ | ((with_reducible refine r_gname ?_); dsimp only [List.set_cons_succ, List.set_cons_zero, List.set]) | with_reducible refine r_ret ?_ | with_reducible refine r_drop ?_ | with_reducible refine r_if ?_
  | with_reducible refine r_test ?_ | with_reducible refine r_B ?_ | with_reducible refine r_op ?_ | with_reducible refine r_cons ?_ | with_reducible refine r_nil ?_ | with_reducible refine r_c ?_ | walk_at "v"
  | with_reducible refine r_cl ?_ | with_reducible refine r_cb ?_ | with_reducible refine r_I0 ?_ | with_reducible refine r_bl ?_ | ((with_reducible refine r_eq ?hs ?_); (case hs => rfl)) | ((with_reducible refine r_ne ?hs ?_); (case hs => rfl))
  | with_reducible refine r_un ?_ | with_reducible refine r_neg ?_ | with_reducible refine r_int ?_ | with_reducible refine r_intB ?_ | with_reducible refine r_min2 ?_ | with_reducible refine r_max2 ?_
  | with_reducible refine r_tup ?_ | with_reducible refine r_lst ?_ | with_reducible refine r_not ?_ | with_reducible refine r_ifE ?_
  | with_reducible refine r_andV ?_ | with_reducible refine r_orV ?_ | with_reducible refine r_notV ?_ | with_reducible refine r_next ?_ | with_reducible refine r_brk ?_ | with_reducible refine r_for ?_ | with_reducible refine r_slc ?_ | with_reducible refine r_nop ?_ | with_reducible refine r_part ?_ | with_reducible refine r_ei ?_ | with_reducible refine r_bm ?_ | with_reducible refine r_isN ?_ | with_reducible refine r_notN ?_ | with_reducible refine r_m1 ?_ | with_reducible refine r_lc ?_ | with_reducible refine r_rng1 ?_ | with_reducible refine r_rng2 ?_ | with_reducible refine r_ilist ?_ | with_reducible refine r_itup ?_ | with_reducible refine iteT ?_ | with_reducible refine iteF ?_ | with_reducible refine r_sub ?_ | walk_at "n" | walk_at "x")
local macro_rules | `(tactic| walk_at "s1") => `(tactic| first | walk_at "s0" | with_reducible refine r_and ?_ | with_reducible refine r_or ?_)
local macro_rules | `(tactic| walk_at "u") => `(tactic| (try dsimp only); repeat walk_at "s0")
local macro_rules | `(tactic| walk_at "pt") => `(tactic| first
  | ((with_reducible refine r_and2 (a := ?a) (b := ?b) ?h1 ?h2 ?h); (case h1 => intro _ q; walk_at "pt"; exact q); (case h2 => intro _ q; walk_at "pt"; exact q); (try dsimp only))
  | ((with_reducible refine r_or2 (a := ?a) (b := ?b) ?h1 ?h2 ?h); (case h1 => intro _ q; walk_at "pt"; exact q); (case h2 => intro _ q; walk_at "pt"; exact q); (try dsimp only))
  | walk_at "u")
local macro_rules | `(tactic| walk_at "s") => `(tactic| (try dsimp only); repeat walk_at "s1")
local macro_rules | `(tactic| walk_at "go") => `(tactic| (try simp only [cxK, cxK2]); (try simp only [List.map_cons, List.map_nil, List.replicate, List.cons_append, List.nil_append]); walk_at "s")
local macro_rules | `(tactic| walk_at "t") => `(tactic| ((try dsimp only); (try with_reducible refine iteT ?_); (try dsimp only)))

local macro_rules | `(tactic| walk_at "k") => `(tactic| ((try dsimp only); (first | refine kF (by decide +kernel) ?_ | refine kT (by decide +kernel) ?_ | refine kF (decide_eq_false (fun h => by cases h)) ?_ | refine kT (decide_eq_true rfl) ?_); walk_at "s"))
theorem dn_flat {ds : List PyData} (h : ∀ d ∈ ds, flatD d) (hl : ds.length ≤ 1000) : DN 2 (.tuple ds) := .inr ⟨ds, rfl, hl, fun e he => .inl (h e he)⟩
theorem meant_flat (o : Option Int) (a : Ar) : ∀ d ∈ meantD o a, flatD d := by
  have hs : ∀ s : Option Int, flatD (sD s) := fun s => match s with | none => trivial | some _ => trivial
  cases a <;>
  · refine List.forall_mem_cons.mpr ⟨hs _, ?_⟩
    repeat (refine List.forall_mem_cons.mpr ⟨trivial, ?_⟩)
    intro d hd
    cases hd
theorem meant_len (o : Option Int) (a : Ar) : (meantD o a).length = 5 := by cases a <;> rfl
theorem Ar.dsl (a : Ar) : a.ds.length ≤ 1000 := by cases a <;> exact Nat.le_of_ble_eq_true rfl
theorem Ar.vsl (a : Ar) : a.vs.length ≤ 1000 := by cases a <;> exact Nat.le_of_ble_eq_true rfl
theorem Ar.dn (a : Ar) : DN 2 a.d := dn_flat a.flat a.dsl
theorem inV2 {k i j : Nat} : inV (.int ((0 : Int) + (k : Int))) [.int (i : Nat), .int (j : Nat)] = (decide (k = i) || decide (k = j)) := by
  have h : ∀ i : Nat, ((i : Int) == (0 : Int) + (k : Int)) = decide (k = i) := fun i => by
    rw [Bool.eq_iff_iff, beq_iff_eq, decide_eq_true_eq]
    omega
  show (((i : Int) == (0 : Int) + (k : Int)) || (((j : Int) == (0 : Int) + (k : Int)) || false)) = _
  rw [h i, h j, Bool.or_false]
section
variable {P : Program} {w : World} {K : PySem.W.Frag} {mg : Str → Option Value} {base : Heap}
/-! ### _law_led -/
abbrev N__law_led : List Str := ["_law_node_here", "_law_after", "_law_cut_here", "_law_line_here", "_law_sheet", "_law_axis_here", "_law_due_here", "_law_k", "_law_area_here"]
theorem sc__law_led : FnScope N__law_led ["_law_node_here", "_law_after", "_law_cut_here", "_law_line_here"] (defScope (topS 50)) := ⟨rfl, rfl, rfl, by decide +kernel, rfl, by decide +kernel, by decide +kernel⟩
structure ZE where
  p : Addr
  v : V
  ca : Addr
  la : Addr
  o : Option Int
  c : Cut
  a : Ar
def spLed (K : PySem.W.Frag) : Sp := Spc ZE (fun z => [.ref z.p, z.v, .ref z.ca, .ref z.la]) (fun z H => SqT K H z.p z.a.vs ∧ z.a.ok ∧ Dt K H z.v (moved z.o z.c z.a) ∧ CutOk H z.ca z.c ∧ z.c.own = sV z.o ∧ H z.la = some (.lst ((lineL z.c).map V.int)))
  fun z H v H' => Same H H' ∧ v = .bl true
theorem cl_led (F : Df K mg "_law_led" 50) (B : Bi mg) (carea_of : Cl P w K mg base 1 "area_of" (spMeant K)) (c_law_meant : Cl P w K mg base 1 "_law_meant" (spMeant K)) (c_law_axis : Cl P w K mg base 1 "_law_axis" (spAxis K)) (c_law_due : Cl P w K mg base 1 "_law_due" spDue)
    (c_law_same : Cl P w K mg base 3 "_law_same" (spSame K 2)) (c_law_covers : Cl P w K mg base 4 "_law_covers" (spCovers K)) : Cl P w K mg base 5 "_law_led" (spLed K) := by
  refine mk_cl F sc__law_led (fun _ _ _ _ _ _ us hl => match us, hl with | [_, _, _, _], _ => rfl) (fun _ => rfl) 5 rfl fun f cdv A outer s H Q z hr hp hq => ?_
  obtain ⟨p, v, ca, la, o, c, a⟩ := z
  obtain ⟨hs, hok, hv, hcut, hown, hla⟩ := hp
  dsimp only at hs hok hv hcut hown hla hq
  have hc := hcut.h
  have hat := hcut.at0
  have e1 := atI_nat (vs1 a)
  have e1 : atI a.vs 1 = some (sV a.sh) := e1
  unfold Cut.vs at hc
  rw [hown] at hc
  have sh1 : ∀ (sh : Option Int), sV sh = .non → sV o = sV (sh.or o) := fun sh h => by cases sh with | none => rfl | some i => cases h
  have sh2 : ∀ (sh : Option Int), ¬ sV sh = .non → sV sh = sV (sh.or o) := fun sh h => by cases sh with | none => exact absurd rfl h | some i => rfl
  refine ⟨_, ((pss_cons (ps_set (i := 4) sc__law_led.nd rfl (Or.inl rfl) (pe_ix ix_tup (pv 0) pe_int (fun _ _ => rfl)))
      (C8.pss_cut (ps_if (pt_cmpR op_isNn (pv 4) pe_non (nomark _)) (pss_one (ps_set (i := 4) sc__law_led.nd rfl (Or.inl rfl) (pe_ix ix_list (pv 2) pe_int (fun _ _ => rfl)))) pss_nil)
      (C8.pss_cut (ps_if (PW.pt (pw_and (pt_cmpR op_notNn (pe_ix ix_list (pv 2) pe_int (fun _ _ => rfl)) pe_non (nomark _)) (pw_and1 (pt_not (pt_val (pe_cl c_law_same hr (by omega) (by rfl) (pa_cons (pe_cl carea_of hr (by omega) (by rfl) (pa_cons (pv 0) (pa_cons (pe_ix ix_list (pv 2) pe_int (fun _ _ => rfl)) pa_nil))) (pa_cons (pe_cl c_law_meant hr (by omega) (by rfl) (pa_cons (pv 0) (pa_cons (pe_ix ix_list (pv 2) pe_int (fun _ _ => rfl)) pa_nil))) pa_nil)))))))) (pss_one (ps_ret pe_bl)) pss_nil)
      (pss_cons (ps_set (i := 5) sc__law_led.nd rfl (Or.inl rfl) (pe_cl c_law_axis hr (by omega) (by rfl) (pa_cons (pv 0) (pa_cons (pe_ix ix_list (pv 2) pe_int (fun _ _ => rfl)) pa_nil))))
      (pss_cons (ps_if (PW.pt (pw_or (pt_cmpR op_ne (pv 4) (pe_ix ix_list (pv 2) pe_int (fun _ _ => rfl)) (nomark _)) (pw_or1 (pt_cmpR op_eq (pe_callB cl_len (by rfl) B.tlen (by decide +kernel) (pa_cons (pv 5) pa_nil)) pe_int (nomark _))))) (pss_one (ps_ret (pe_cl c_law_same hr (by omega) (by rfl) (pa_cons (pv 1) (pa_cons (pv 0) pa_nil))))) pss_nil)
      (pss_cons (ps_set (i := 6) sc__law_led.nd rfl (Or.inl rfl) (pe_cl c_law_due hr (by omega) (by rfl) (pa_cons (pe_ix ix_tup (pv 0) (pe_ix ix_tup (pv 5) pe_int (fun _ _ => rfl)) (fun _ _ => rfl)) (pa_cons (pe_ix ix_tup (pv 0) (pe_ix ix_tup (pv 5) pe_int (fun _ _ => rfl)) (fun _ _ => rfl)) (pa_cons (pv 2) (pa_cons (pv 3) pa_nil))))))
      (pss_cons (ps_if (pt_cmpR op_eq (pe_callB cl_len (by rfl) B.tlen (by decide +kernel) (pa_cons (pv 6) pa_nil)) pe_int (nomark _)) (pss_one (ps_ret (pe_cl c_law_same hr (by omega) (by rfl) (pa_cons (pv 1) (pa_cons (pe_tup (pa_cons pe_str (pa_cons pe_str pa_nil))) pa_nil))))) pss_nil)
      (pss_cons (ps_if (PW.pt (pw_or (pt_not (pt_val (pe_callB call_isi (by rfl) B.tisinstance (by decide +kernel) (pa_cons (pv 1) (pa_cons (pe_bltn (v := .ty "tuple") (by rfl) B.ttuple (by decide +kernel) rfl) pa_nil))))) (pw_or1 (pt_cmpR op_ne (pe_callB cl_len (by rfl) B.tlen (by decide +kernel) (pa_cons (pv 1) pa_nil)) (pe_callB cl_len (by rfl) B.tlen (by decide +kernel) (pa_cons (pv 0) pa_nil)) (nomark _))))) (pss_one (ps_ret pe_bl)) pss_nil)
      (pss_cons (ps_for PassesOwn.never rfl (pi_range1 rfl B.trange (pa_cons (pe_callB cl_len (by rfl) B.tlen (by decide +kernel) (pa_cons (pv 0) pa_nil)) pa_nil)) (pg_name (i := 7) sc__law_led.nd rfl (Or.inl rfl)) (pss_one (ps_if (PW.pt (pw_and (pt_cmpR op_notIn_seq (pv 7) (pv 5) (by rfl)) (pw_and1 (pt_not (pt_val (pe_cl c_law_same hr (by omega) (by rfl) (pa_cons (pe_ix ix_tup (pv 1) (pv 7) (fun _ _ => rfl)) (pa_cons (pe_ix ix_tup (pv 0) (pv 7) (fun _ _ => rfl)) pa_nil)))))))) (pss_one (ps_ret pe_bl)) pss_nil)))
      (pss_cons (ps_if (pt_not (pt_val (pe_cl c_law_covers hr (by omega) (by rfl) (pa_cons (pv 1) (pa_cons (pv 5) (pa_cons (pv 6) pa_nil)))))) (pss_one (ps_ret pe_bl)) pss_nil)
      (pss_cons (ps_set (i := 8) sc__law_led.nd rfl (Or.inl rfl) (pe_callTy cl_list (by rfl) B.tlist (by decide +kernel) (pa_cons (pe_cl c_law_meant hr (by omega) (by rfl) (pa_cons (pv 0) (pa_cons (pe_ix ix_list (pv 2) pe_int (fun _ _ => rfl)) pa_nil))) pa_nil)))
      (pss_cons (ps_asg (pe_ix ix_list (pv 6) pe_int (fun _ _ => rfl)) (pg_sub (pv 8) (pe_op op_sub pe_int (pe_callTy cl_int (by rfl) B.tint (by decide +kernel) (pa_cons (pe_ix ix_list (pv 2) pe_int (fun _ _ => rfl)) pa_nil))) set_list))
      (pss_cons (ps_asg (pe_ix ix_list (pv 6) (pe_op op_sub (pe_callB cl_len (by rfl) B.tlen (by decide +kernel) (pa_cons (pv 6) pa_nil)) pe_int) (fun _ _ => rfl)) (pg_sub (pv 8) (pe_op op_sub pe_int (pe_callTy cl_int (by rfl) B.tint (by decide +kernel) (pa_cons (pe_ix ix_list (pv 2) pe_int (fun _ _ => rfl)) pa_nil))) set_list))
      (pss_one (ps_ret (pe_or (pe_cmpR op_isNn (pe_ix ix_list (pv 2) pe_int (fun _ _ => rfl)) pe_non (nomark _)) (pe_one (pe_cl c_law_same hr (by omega) (by rfl) (pa_cons (pe_cl carea_of hr (by omega) (by rfl) (pa_cons (pv 1) (pa_cons (pe_ix ix_list (pv 2) pe_int (fun _ _ => rfl)) pa_nil))) (pa_cons (pe_callTy cl_tuple (by rfl) B.ttuple (by decide +kernel) (pa_cons (pv 8) pa_nil)) pa_nil))))))))))))))))))))), ?_⟩
  walk_at "go"
  refine r_cut (Mid := fun σ' H' => σ' = [some (.ref p), some v, some (.ref ca), some (.ref la), some (sV (a.sh.or o)), none, none, none, none] ∧ H' = H) ?_ ?_
  · walk_at "s"
    refine i2 (fun h => ?_) (fun h => ?_)
    · walk_at "s"
      exact ⟨by rw [sh1 _ h], rfl⟩
    · walk_at "s"
      exact ⟨by rw [← sh2 _ h], rfl⟩
  rintro σ' H' ⟨rfl, rfl⟩
  refine r_cut (Mid := fun σ' H1 => σ' = [some (.ref p), some v, some (.ref ca), some (.ref la), some (sV (a.sh.or o)), none, none, none, none] ∧ Same H' H1) ?_ ?_
  · walk_at "s"
    refine i2n (fun h => ?_) (fun h => ?_)
    · walk_at "s"
      refine ⟨(p, a, o), rfl, hs, ?_⟩
      rintro _ H1 ⟨s1, q1, rfl, hq1⟩
      have hc1 := s1 _ _ hc
      walk_at "s"
      refine ⟨(p, a, o), rfl, s1.seqT hs, ?_⟩
      rintro _ H2 ⟨s2, q2, rfl, hq2⟩
      walk_at "s"
      refine ⟨(.ref q1, .ref q2, .tuple (meantD o a)), rfl, ⟨.tup (SqT.of (s2 _ _ hq1)) (meantDt o a), .tup (SqT.of hq2) (meantDt o a), dn_flat (meant_flat o a) (by rw [meant_len]; decide)⟩, ?_⟩
      rintro _ _ ⟨rfl, rfl⟩
      walk_at "s"
      repeat walk_at "k"
      exact ⟨rfl, s1.trans s2⟩
    · walk_at "s"
      repeat walk_at "k"
      exact ⟨rfl, Same.refl _⟩
  rintro σ' H1 ⟨rfl, s1⟩
  have hc1 := s1 _ _ hc
  have hs1 := s1.seqT hs
  walk_at "s"
  refine ⟨(p, a, c.rows), rfl, hs1, ?_⟩
  rintro _ H2 ⟨s2, ax, rfl, hax⟩
  have hc2 := s2 _ _ hc1
  have s02 := s1.trans s2
  have hv2 := hv.up s02
  have hsc : scal (sV (a.sh.or o)) (.int c.key) = true := by cases a.sh.or o <;> rfl
  dsimp only at hax
  have sameA : ¬ (a.sh.or o = some c.key ∧ a.on c.rows = true) → spSame K 2 [v, .ref p] H2 Q L2.E0 := fun h => by
    refine ⟨(v, .ref p, a.d), rfl, ⟨?_, Ar.dt (s2.seqT hs1), a.dn⟩, ?_⟩
    · unfold moved at hv2
      rw [if_neg h] at hv2
      exact hv2
    · rintro _ _ ⟨rfl, rfl⟩
      exact hq _ _ ⟨s02, rfl⟩
  walk_at "s"
  refine r_ne hsc ?_
  walk_at "s"
  refine i2n (fun h => ?_) (fun h => ?_)
  · walk_at "s"
    exact sameA fun ⟨h1, _⟩ => h (by rw [h1]; rfl)
  have hkey : a.sh.or o = some c.key := by
    cases e : a.sh.or o with
    | none => rw [e] at h; cases h
    | some i => rw [e] at h; cases h; rfl
  walk_at "s"
  refine r_lenT (SqT.of hax) ?_
  cases hon : a.on c.rows with
  | false =>
    rw [ax_off hon]
    walk_at "s"
    repeat walk_at "k"
    exact sameA fun ⟨_, h2⟩ => by rw [hon] at h2; cases h2
  | true =>
    rw [ax_on hon] at hax ⊢
    walk_at "s"
    repeat walk_at "k"
    have elo := atI_nat (vs_lo hon)
    have ehi := atI_nat (vs_hi hon)
    have hs2 := s2.seqT hs1
    walk_at "s"
    refine ⟨((a.lo c.rows : Nat), (a.hi c.rows : Nat), ca, c, la, lineL c), rfl, ⟨hcut.up s02, s02 _ _ hla, by show (lineL c).length ≤ 100; rw [lineL_len hat]; unfold Cut.n; split <;> decide⟩, ?_⟩
    rintro _ H3 ⟨s3, du, rfl, hdu⟩
    dsimp only at hdu
    have s03 := s02.trans s3
    have hlt : a.hi c.rows < c.n := hi_lt hok hon
    unfold moved at hv
    rw [if_pos ⟨hkey, hon⟩] at hv
    cases hI : insP c (a.lo c.rows) (a.hi c.rows) with
    | none =>
      rw [hI] at hv
      rw [due_none hat (lo_hi hok _) hlt hI] at hdu
      walk_at "s"
      refine r_lenL (SqL.of hdu) ?_
      walk_at "s"
      repeat walk_at "k"
      refine n_tup (szr rfl) fun q H4 nq s4 hq4 => ?_
      walk_at "s"
      refine ⟨(v, .ref q, .tuple [.str "error", .str "REF"]), rfl, ⟨hv.up (s03.trans s4), .tup (SqT.of hq4) (.cons (.str _) (.cons (.str _) .nil)), dn_flat (fun d hd => ?_) (Nat.le_of_ble_eq_true rfl)⟩, ?_⟩
      · rcases List.mem_cons.mp hd with rfl | hd
        · exact trivial
        · rw [List.mem_singleton.mp hd]
          exact trivial
      · rintro _ _ ⟨rfl, rfl⟩
        exact hq _ _ ⟨s03.trans s4, rfl⟩
    | some xy =>
      obtain ⟨x, y⟩ := xy
      rw [hI] at hv
      obtain ⟨eS, hxy, hyn, hcell⟩ := due_some hat (lo_hi hok _) hlt hI
      rw [eS] at hdu
      obtain ⟨p2, rfl, hs2'⟩ := Ar.inv hv
      have hcell2 : a.i1 c.rows = a.i2 c.rows → x = y := fun h => hcell (cell_same h)
      have hslen : (spanL x y).length = y + 1 - x := spanL_len x y
      have hb : SqT K H3 p2 (a.put c.rows x y).vs := s03.seqT hs2'
      have hs3 := s3.seqT hs2
      walk_at "s"
      refine r_lenL (SqL.of hdu) ?_
      walk_at "s"
      refine kF (decide_eq_false fun h => by have := V.int.inj h; omega) ?_
      walk_at "s"
      refine r_isi (Ar.dt hb) kb_tt ?_
      walk_at "s"
      repeat walk_at "k"
      refine r_lenT hb ?_
      walk_at "s"
      refine r_lenT hs3 ?_
      rw [put_len]
      walk_at "s"
      refine kF (by simp) ?_
      walk_at "s"
      refine r_lenT hs3 ?_
      walk_at "s"
      have hvl := a.vsl
      refine foR (by omega) (by omega) (fun i σ' H5 => H5 = H3 ∧ ∃ t, σ' = [some (.ref p), some (.ref p2), some (.ref ca), some (.ref la), some (sV (a.sh.or o)), some (.ref ax), some (.ref du), t, none]) ⟨rfl, _, rfl⟩ ?_ ?_
      · rintro i σ' H5 hi ⟨rfl, t, rfl⟩
        have hi : i < a.vs.length := by omega
        have hax3 := s3 _ _ hax
        walk_at "s"
        refine ⟨ax, _, rfl, .inr (SqT.of hax3), rfl, rfl, ?_⟩
        rw [if_pos rfl, inV2]
        walk_at "s"
        by_cases g1 : i = a.i1 c.rows
        · rw [decide_eq_true g1, Bool.true_or]
          walk_at "k"
          exact ⟨rfl, _, rfl⟩
        · by_cases g2 : i = a.i2 c.rows
          · rw [decide_eq_true g2, Bool.or_true]
            walk_at "k"
            exact ⟨rfl, _, rfl⟩
          · rw [decide_eq_false g1, decide_eq_false g2]
            walk_at "k"
            obtain ⟨dd, hdd, hDt⟩ := (a.dta (K := K) (H := H5)).get' (List.getElem?_eq_getElem hi)
            have hfl := a.flat dd (List.mem_of_getElem? hdd)
            have ea := atI_0 (List.getElem?_eq_getElem hi)
            have eb : atI (a.put c.rows x y).vs ((0 : Int) + (i : Int)) = some a.vs[i] := atI_0 (by rw [put_out hon g1 g2, List.getElem?_eq_getElem hi])
            walk_at "s"
            refine ⟨(a.vs[i], a.vs[i], dd), rfl, ⟨hDt, hDt, .inl hfl⟩, ?_⟩
            rintro _ _ ⟨rfl, rfl⟩
            walk_at "s"
            repeat walk_at "k"
            exact ⟨rfl, _, rfl⟩
      · rintro σ' H5 ⟨rfl, t, rfl⟩
        walk_at "s"
        refine ⟨⟨p2, ax, du, (a.put c.rows x y).vs, a.i1 c.rows, a.i2 c.rows, x, y⟩, rfl, ⟨hb, s3 _ _ hax, hdu, put_lo hon, put_hi hon hcell2, hxy, by show y < 100; have : c.n ≤ 20 := (by unfold Cut.n; split <;> decide); omega⟩, ?_⟩
        rintro _ H6 ⟨s6, rfl⟩
        have s06 := s03.trans s6
        have hc6 := s06 _ _ hc
        have hs6 := s06.seqT hs
        walk_at "s"
        walk_at "k"
        refine ⟨(p, a, o), rfl, hs6, ?_⟩
        rintro _ H7 ⟨s7, q7, rfl, hq7⟩
        dsimp only at hq7
        walk_at "s"
        refine r_list (.inr (SqT.of hq7)) fun l H8 nl s8 hl8 => ?_
        have s68 := s7.trans s8
        have hdu8 := s68 _ _ (s6 _ _ hdu)
        have hc8 := s68 _ _ hc6
        have e0 : atI (spanL x y) 0 = some (.int (x : Nat)) := atI_nat (j := 0) (spanL_get (i := 0) (by omega))
        have e9 : atI (spanL x y) (((spanL x y).length : Int) - 1) = some (.int (y : Nat)) := by
          rw [spanL_len, show ((y + 1 - x : Nat) : Int) - 1 = ((y - x : Nat) : Int) by omega]
          rw [atI_nat (spanL_get (i := y - x) (by omega)), show x + (y - x) = y by omega]
        have hlen5 : (meantV o a).length = 5 := by cases a <;> rfl
        have nc : ca ≠ l := fun e => by rw [← e, s7 _ _ hc6] at nl; cases nl
        have nd : du ≠ l := fun e => by rw [← e, s7 _ _ (s6 _ _ hdu)] at nl; cases nl
        walk_at "s"
        refine r_setL (j := if c.rows then 1 else 2) hl8 (by rw [hlen5]; cases c.rows <;> rfl) ?_
        generalize hH9 : upd H8 l (.lst ((meantV o a).set (if c.rows then 1 else 2) (.int (x : Nat)))) = H9
        have hl9 : H9 l = some (.lst ((meantV o a).set (if c.rows then 1 else 2) (.int (x : Nat)))) := by rw [← hH9, upd_same]
        have hdu9 : H9 du = some (.lst (spanL x y)) := by rw [← hH9, upd_ne nd]; exact hdu8
        have hc9 : H9 ca = some (.lst [sV o, .int c.key, .int c.at', .int c.many, .bl c.rows]) := by rw [← hH9, upd_ne nc]; exact hc8
        walk_at "s"
        refine r_lenL (SqL.of hdu9) ?_
        walk_at "s"
        refine r_setL (j := if c.rows then 3 else 4) hl9 (by rw [List.length_set, hlen5]; cases c.rows <;> rfl) ?_
        rw [put_mean hon hcell2, ← hH9, upd_upd]
        have s7A : Same H7 (upd H8 l (.lst (meantV o (a.put c.rows x y)))) := s8.mut nl
        generalize hHA : upd H8 l (.lst (meantV o (a.put c.rows x y))) = HA at s7A
        have hlA : HA l = some (.lst (meantV o (a.put c.rows x y))) := by rw [← hHA, upd_same]
        have s0A := (s06.trans s7).trans s7A
        have hcA := s7A _ _ (s7 _ _ hc6)
        walk_at "s"
        refine i2 (fun h => ?_) (fun h => ?_)
        · exact hq _ _ ⟨s0A, rfl⟩
        · walk_at "s"
          refine ⟨(p2, a.put c.rows x y, o), rfl, s0A.seqT hs2', ?_⟩
          rintro _ HB ⟨sB, qB, rfl, hqB⟩
          walk_at "s"
          refine r_tupL (SqL.of (sB _ _ hlA)) fun t HC nt sC hC => ?_
          walk_at "s"
          refine ⟨(.ref qB, .ref t, .tuple (meantD o (a.put c.rows x y))), rfl, ⟨.tup (SqT.of (sC _ _ hqB)) (meantDt o _), .tup (SqT.of hC) (meantDt o _), dn_flat (meant_flat o _) (by rw [meant_len]; decide)⟩, ?_⟩
          rintro _ _ ⟨rfl, rfl⟩
          exact hq _ _ ⟨(s0A.trans sB).trans sC, rfl⟩
/-! ### _law_follows -/
def rLen3 (K : PySem.W.Frag) : List V → Hp → VK → Prop := fun xs H Q => ∃ p ys, xs = [.ref p] ∧ (SqL K H p ys ∨ SqT K H p ys) ∧ (ys.length ≤ sizeLine → Q (.int ys.length) H)
theorem cl_len3 {X : Cx} : CallR X (.builtin "len") (rLen3 X.K) := by
  intro pins s σ H xs us Q I r h
  obtain ⟨p, ys, rfl, hs, q⟩ := h
  have hz : ys.length ≤ sizeLine := by
    rcases hs with hs | hs
    · obtain ⟨_, _, _, hz⟩ := I.list hs
      exact hz
    · obtain ⟨_, _, _, hz⟩ := I.tuple hs
      exact hz
  exact cl_len pins s σ H _ us Q I r ⟨p, ys, rfl, hs, q hz⟩
theorem sizeLine_lt : sizeLine < 2 ^ 62 := by decide
theorem foR9 {tb : TS} {j : Nat} {σ : L2.St} {D : Ends} {H : Hp} {n : Nat} (hn : n ≤ sizeLine) (Pv : Nat → L2.St → Hp → Prop) (p0 : Pv 0 σ H) (hs : ∀ (i : Nat) σ H, i < n → Pv i σ H → tb { D with nx := Pv (i + 1), ct := Pv (i + 1), bk := D.nx } (σ.set j (some (.int ((0 : Int) + (i : Int))))) H) (hd : ∀ σ H, Pv n σ H → D.nx σ H) :
    ∃ m : Int, [V.int (n : Nat)] = [V.int m] ∧ -(2 ^ 62) ≤ m ∧ m < 2 ^ 62 ∧ FoW (gName j) tb D σ (Itr 0 m.toNat) H := by
  have := sizeLine_lt
  exact ⟨(n : Nat), rfl, by omega, by omega, foW_range Pv p0 hs hd⟩
/-- what becomes of an area -/
def Mv (o : Option Int) (c : Cut) (d d' : PyData) : Prop := ∃ a : Ar, d = a.d ∧ a.ok ∧ d' = moved o c a
abbrev N__law_follows : List Str := ["_law_tree_here", "_law_after", "_law_cut_here", "_law_line_here", "_law_k"]
theorem sc__law_follows : FnScope N__law_follows ["_law_tree_here", "_law_after", "_law_cut_here", "_law_line_here"] (defScope (topS 51)) := ⟨rfl, rfl, rfl, by decide +kernel, rfl, by decide +kernel, by decide +kernel⟩
structure ZW where
  v : V
  u : V
  ca : Addr
  la : Addr
  o : Option Int
  c : Cut
  d : PyData
  d' : PyData
def spFollows (K : PySem.W.Frag) (n : Nat) : Sp := Spc ZW (fun z => [z.v, z.u, .ref z.ca, .ref z.la]) (fun z H => Dt K H z.v z.d ∧ Dt K H z.u z.d' ∧ Fl (Mv z.o z.c) n z.d z.d' ∧ CutOk H z.ca z.c ∧ z.c.own = sV z.o ∧ H z.la = some (.lst ((lineL z.c).map V.int)))
  fun z H v H' => Same H H' ∧ v = .bl true
theorem cl_follows (F : Df K mg "_law_follows" 51) (B : Bi mg) (c_law_is_area : Cl P w K mg base 1 "_law_is_area" (spIsArea K)) (c_law_same : Cl P w K mg base 3 "_law_same" (spSame K 2)) (c_law_led : Cl P w K mg base 5 "_law_led" (spLed K)) : ∀ n, Cl P w K mg base (n + 6) "_law_follows" (spFollows K n)
  | 0 => by
    refine mk_cl F sc__law_follows (fun _ _ _ _ _ _ us hl => match us, hl with | [_, _, _, _], _ => rfl) (fun _ => rfl) 1 rfl fun f cdv A outer s H Q z hr hp hq => ?_
    exact hp.2.2.1.elim
  | n + 1 => by
    have c_law_follows := cl_follows F B c_law_is_area c_law_same c_law_led n
    refine mk_cl F sc__law_follows (fun _ _ _ _ _ _ us hl => match us, hl with | [_, _, _, _], _ => rfl) (fun _ => rfl) 1 rfl fun f cdv A outer s H Q z hr hp hq => ?_
    obtain ⟨v, u, ca, la, o, c, d, d'⟩ := z
    obtain ⟨hv, hu, hf, hcut, hown, hla⟩ := hp
    dsimp only at hv hu hf hcut hown hla hq
    refine ⟨_, ((pss_cons (ps_if (pt_not (pt_val (pe_callB call_isi (by rfl) B.tisinstance (by decide +kernel) (pa_cons (pv 0) (pa_cons (pe_bltn (v := .ty "tuple") (by rfl) B.ttuple (by decide +kernel) rfl) pa_nil))))) (pss_one (ps_ret (pe_cl c_law_same hr (by omega) (by rfl) (pa_cons (pv 1) (pa_cons (pv 0) pa_nil))))) pss_nil)
      (C8.pss_cut (ps_if (PW.pt (pw_and (pt_cmpR op_gt (pe_callB cl_len3 (by rfl) B.tlen (by decide +kernel) (pa_cons (pv 0) pa_nil)) pe_int (nomark _)) (pw_and1 (pt_val (pe_cl c_law_is_area hr (by omega) (by rfl) (pa_cons (pv 0) pa_nil)))))) (pss_one (ps_ret (pe_cl c_law_led hr (by omega) (by rfl) (pa_cons (pv 0) (pa_cons (pv 1) (pa_cons (pv 2) (pa_cons (pv 3) pa_nil))))))) pss_nil)
      (C8.pss_cut (ps_if (PW.pt (pw_or (pt_not (pt_val (pe_callB call_isi (by rfl) B.tisinstance (by decide +kernel) (pa_cons (pv 1) (pa_cons (pe_bltn (v := .ty "tuple") (by rfl) B.ttuple (by decide +kernel) rfl) pa_nil))))) (pw_or1 (pt_cmpR op_ne (pe_callB cl_len3 (by rfl) B.tlen (by decide +kernel) (pa_cons (pv 1) pa_nil)) (pe_callB cl_len3 (by rfl) B.tlen (by decide +kernel) (pa_cons (pv 0) pa_nil)) (nomark _))))) (pss_one (ps_ret pe_bl)) pss_nil)
      (pss_cons (ps_for PassesOwn.never rfl (pi_range1 rfl B.trange (pa_cons (pe_callB cl_len3 (by rfl) B.tlen (by decide +kernel) (pa_cons (pv 0) pa_nil)) pa_nil)) (pg_name (i := 4) sc__law_follows.nd rfl (Or.inl rfl)) (pss_one (ps_if (pt_not (pt_val (pe_cl c_law_follows hr (by omega) (by rfl) (pa_cons (pe_ix ix_tup (pv 0) (pv 4) (fun _ _ => rfl)) (pa_cons (pe_ix ix_tup (pv 1) (pv 4) (fun _ _ => rfl)) (pa_cons (pv 2) (pa_cons (pv 3) pa_nil))))))) (pss_one (ps_ret pe_bl)) pss_nil)))
      (pss_one (ps_ret pe_bl))))))), ?_⟩
    have flatK : flatD d → kitB (tyD d) "tuple" = some false := fun hd => by
      cases hv with
      | non => exact kb_nt
      | bl => exact kb_bt
      | int => exact kb_it
      | str => exact kb_st
      | tup => exact hd.elim
    rcases hf with ⟨hd, rfl⟩ | ⟨a, rfl, hok, rfl⟩ | ⟨ds, ds', rfl, rfl, hh, hp⟩
    · walk_at "go"
      refine r_isi hv (flatK hd) ?_
      walk_at "s"
      walk_at "k"
      refine ⟨(u, v, d'), rfl, ⟨hu, hv, .inl hd⟩, ?_⟩
      rintro _ _ ⟨rfl, rfl⟩
      exact hq _ _ ⟨Same.refl _, rfl⟩
    · obtain ⟨p, rfl, hs⟩ := Ar.inv hv
      have hl : 0 < a.vs.length := by cases a <;> exact Nat.succ_pos _
      walk_at "go"
      refine r_isi hv kb_tt ?_
      walk_at "s"
      walk_at "k"
      refine r_cut (Mid := fun _ _ => False) ?_ (fun _ _ h => h.elim)
      walk_at "s"
      refine ⟨p, _, rfl, .inr hs, fun _ => ?_⟩
      walk_at "s"
      refine kT (decide_eq_true (by omega)) ?_
      walk_at "s"
      refine ⟨(p, a.vs, a.ds), rfl, ⟨hs, a.dta, by cases a <;> exact True.intro⟩, ?_⟩
      rintro _ H1 ⟨s1, rfl⟩
      have hB : hdB a.ds = true := by
        cases a with
        | cell => exact (by decide +kernel : decide (("cell" : Str) ∈ kinds4) = true)
        | range => exact (by decide +kernel : decide (("range" : Str) ∈ kinds4) = true)
        | rows => exact (by decide +kernel : decide (("rows" : Str) ∈ kinds4) = true)
        | cols => exact (by decide +kernel : decide (("columns" : Str) ∈ kinds4) = true)
      dsimp only
      rw [hB]
      walk_at "s"
      exact ⟨⟨p, u, ca, la, o, c, a⟩, rfl, ⟨s1.seqT hs, hok, hu.up s1, hcut.up s1, hown, s1 _ _ hla⟩, fun v H' ⟨s, e⟩ => hq _ _ ⟨s1.trans s, e⟩⟩
    · cases hv with
      | @tup p xs _ hs hx =>
      cases hu with
      | @tup q ys _ hs' hy =>
      walk_at "go"
      refine r_isi (Dt.tup hs hx) kb_tt ?_
      walk_at "s"
      walk_at "k"
      refine r_cut (Mid := fun σ' H1 => σ' = [some (.ref p), some (.ref q), some (.ref ca), some (.ref la), none] ∧ Same H H1) ?_ ?_
      · walk_at "s"
        refine ⟨p, _, rfl, .inr hs, fun _ => ?_⟩
        walk_at "s"
        cases hx with
        | nil =>
          walk_at "k"
          repeat walk_at "k"
          exact ⟨rfl, Same.refl _⟩
        | @cons x xs dd ds hd ht =>
          have hm : (match dd :: ds with | .str _ :: _ => True | .tuple _ :: _ => True | _ => False) := by
            cases dd <;> first | exact True.intro | exact hh.elim
          have hB : hdB (dd :: ds) = false := by
            cases dd <;> first | rfl | exact hh.elim | exact decide_eq_false hh
          refine kT (decide_eq_true (by simp only [List.length_cons]; omega)) ?_
          walk_at "s"
          refine ⟨(p, _, _), rfl, ⟨hs, .cons hd ht, hm⟩, ?_⟩
          rintro _ H1 ⟨s1, rfl⟩
          dsimp only
          rw [hB]
          walk_at "s"
          exact ⟨rfl, s1⟩
      rintro σ' H1 ⟨rfl, s1⟩
      have hs1 := s1.seqT hs
      have hs2 := s1.seqT hs'
      have eL : ys.length = xs.length := by rw [hx.length, hy.length, hp.length]
      refine r_cut (Mid := fun σ' H2 => σ' = [some (.ref p), some (.ref q), some (.ref ca), some (.ref la), none] ∧ H2 = H1) ?_ ?_
      · walk_at "s"
        refine r_isi (Dt.tup hs2 (hy.up s1)) kb_tt ?_
        walk_at "s"
        walk_at "k"
        refine ⟨q, _, rfl, .inr hs2, fun _ => ?_⟩
        walk_at "s"
        refine ⟨p, _, rfl, .inr hs1, fun _ => ?_⟩
        rw [eL]
        walk_at "s"
        refine kF (by simp) ?_
        walk_at "s"
        exact ⟨rfl, rfl⟩
      rintro σ' H2 ⟨rfl, rfl⟩
      walk_at "s"
      refine ⟨p, _, rfl, .inr hs1, fun hz => ?_⟩
      walk_at "s"
      refine foR9 hz (fun i σ' H3 => Same H2 H3 ∧ ∃ o, σ' = [some (.ref p), some (.ref q), some (.ref ca), some (.ref la), o]) ⟨Same.refl _, _, rfl⟩ ?_ ?_
      · rintro i σ' H3 hi ⟨s3, t, rfl⟩
        obtain ⟨dx, edx, hdx⟩ := hx.get' (List.getElem?_eq_getElem hi)
        obtain ⟨dy, edy, hF⟩ := hp.get edx
        obtain ⟨y, ey, hdy⟩ := hy.get edy
        have e1 := atI_0 (List.getElem?_eq_getElem hi)
        have e2 := atI_0 ey
        have hs3 := s3.seqT hs1
        have hs4 := s3.seqT hs2
        have s03 := s1.trans s3
        walk_at "s"
        refine ⟨⟨xs[i], y, ca, la, o, c, dx, dy⟩, rfl, ⟨hdx.up s03, hdy.up s03, hF, hcut.up s03, hown, s03 _ _ hla⟩, ?_⟩
        rintro _ H4 ⟨s4, rfl⟩
        walk_at "s"
        repeat walk_at "k"
        exact ⟨s3.trans s4, _, rfl⟩
      · rintro σ' H3 ⟨s3, t, rfl⟩
        walk_at "s"
        exact hq _ _ ⟨s1.trans s3, rfl⟩
end
end Sw

set_option maxHeartbeats 4000000
namespace Sw
open PySem PySem.Spec PyProof.Rows L2 C8 LamX NdefX
/-! ### a base that takes in what is not tracked -/
def trk (H : Hp) (n : Nat) : List Addr := (List.range n).filter fun a => (H a).isSome
def rebase (s : Shared) (H : Hp) (outer : List Env) : Heap := PySem.W.hideAll s.heap (trk H s.heap.objs.size ++ frs outer)
theorem rebase_get {s : Shared} {H : Hp} {outer : List Env} {b : Addr} {o : Obj} (e : s.heap.get? b = some o) (n : H b = none) (nf : b ∉ frs outer) : (rebase s H outer).get? b = some o := by
  refine PySem.W.hideAll_get _ e fun h => ?_
  rcases List.mem_append.mp h with h | h
  · have := (List.mem_filter.mp h).2
    rw [n] at this
    cases this
  · exact nf h
theorem funFr_at {h base base' : Heap} : ∀ {l : List Env}, h.FunFrames base l → (∀ b ∈ frs l, base'.get? b = none) → h.FunFrames base' l
  | [], _, _ => trivial
  | env :: rest, ⟨hk, ⟨L, o, hf, hn, ho, hd⟩, hr⟩, hx => by
    have e : frs (env :: rest) = L :: frs rest := by unfold frs; rw [List.filterMap_cons, hf]
    rw [e] at hx
    exact ⟨hk, ⟨L, o, hf, hx L List.mem_cons_self, ho, hd⟩, funFr_at hr fun b hb => hx b (List.mem_cons_of_mem _ hb)⟩
theorem mod_keep {K : PySem.W.Frag} {mg : Str → Option Value} {base base' : Heap} (m : Mod K mg base) (k : ∀ b o, base.get? b = some o → base'.get? b = some o) : Mod K mg base' := by
  obtain ⟨mb, hb, hx⟩ := m.blt
  exact ⟨PySem.W.Frag.In.keeps m.kin k, m.glob.keeps k, ⟨mb, hb.keeps k, hx⟩, m.nolimit.keeps k⟩
structure Up (base base' : Heap) : Prop where
  keep : ∀ b o, base.get? b = some o → base'.get? b = some o
  sz : base.objs.size ≤ base'.objs.size
section
variable {P : Program} {w : World} {K : PySem.W.Frag} {mg : Str → Option Value} {base base' : Heap} {A : Around} {outer : List Env} {s : Shared} {H : Hp}
theorem up_rebase (e : Env0 P w K mg base A outer s H) : Up base (rebase s H outer) := ⟨fun b o h => rebase_get (e.bs b o h).1 (e.bs b o h).2 fun hb => by
    have := (e.funs.mem hb).1
    rw [h] at this
    exact absurd this (fun z => nomatch z), by
    unfold rebase
    rw [PySem.W.hideAll_size]
    exact e.bsz⟩
theorem env_rebase (e : Env0 P w K mg base A outer s H) : Env0 P w K mg (rebase s H outer) A outer s H := by
  refine ⟨e.frames, mod_keep e.mod (up_rebase e).keep, fun b o h => ⟨PySem.W.of_hideAll _ h, ?_⟩, Nat.le_of_eq (PySem.W.hideAll_size _ _), funFr_at e.funs fun b hb => PySem.W.hideAll_none _ (List.mem_append_right _ hb), e.frf, e.hok, e.bare⟩
  cases hb : H b with
  | none => rfl
  | some u =>
    have h2 : s.heap.get? b = some o := PySem.W.of_hideAll _ h
    have h3 : (rebase s H outer).get? b = none := PySem.W.hideAll_none _ (List.mem_append_left _ (List.mem_filter.mpr ⟨List.mem_range.mpr (Heap.lt_size h2), by rw [hb]; rfl⟩))
    rw [h] at h3
    cases h3
/-- a smaller base will do -/
theorem env_shrink (m : Mod K mg base) (u : Up base base') (e : Env0 P w K mg base' A outer s H) : Env0 P w K mg base A outer s H :=
  ⟨e.frames, m, fun b o h => e.bs b o (u.keep b o h), Nat.le_trans u.sz e.bsz, funFr_at e.funs fun b hb => by
    have := (e.funs.mem hb).1
    cases h : base.get? b with
    | none => rfl
    | some o =>
      rw [u.keep b o h] at this
      exact absurd this (fun z => nomatch z), e.frf, e.hok, e.bare⟩
theorem tabB_up {c T : Addr} (t : TabB base mg c T) (u : Up base base') : TabB base' mg c T := ⟨t.code.keeps u.keep, t.bm.keeps u.keep, t.gP⟩
end
/-! ### lambdas in a base -/
/-- the lambda at f -/
def LamB (base : Heap) (f c' : Addr) (q : Str) (params : Arguments) (body : Expr) (scope : Scope) (fr : List Str) (ws : List (Option V)) : Prop :=
  ∃ cl pm ctv, base.get? f = some (PySem.W.kla_obj "<lambda>" q params body scope cl pm c' ctv) ∧ CellsAt cl fr ws base fun _ => none
structure LmOk (P : Program) (w : World) (K : PySem.W.Frag) (mg : Str → Option Value) (base : Heap) (k : Nat) (f c' : Addr) (q : Str) (sp : Sp) : Prop where
  md : Mod K mg base
  at_ : PySem.W.FnAt f base
  run : ∀ (A : Around) (outer : List Env) (s : Shared) (H : Hp) (us : List Value) (vs : List V) (Q : VK), Room k A → Env0 P w K mg base A outer s H → H c' = some (CodeO c' q) → Vals vs us → sp vs H Q L2.E0 →
    codeAny (model P w) A (.call (.ref f) ⟨us, []⟩) (CR L2.CX0 outer P w H s Q L2.E0) s
section
variable {P : Program} {w : World} {K : PySem.W.Frag} {mg : Str → Option Value} {base base' : Heap} {k j : Nat} {f c' : Addr} {q : Str} {sp : Sp}
theorem LmOk.mono (h : LmOk P w K mg base j f c' q sp) (e : j ≤ k) : LmOk P w K mg base k f c' q sp := ⟨h.md, h.at_, fun A outer s H us vs Q hr => h.run A outer s H us vs Q (hr.mono e)⟩
theorem LmOk.grow (h : LmOk P w K mg base k f c' q sp) (u : Up base base') : LmOk P w K mg base' k f c' q sp := by
  refine ⟨mod_keep h.md u.keep, ?_, fun A outer s H us vs Q hr e => h.run A outer s H us vs Q hr (env_shrink h.md u e)⟩
  obtain ⟨oc, od, fd, sl, e⟩ := h.at_
  exact ⟨oc, od, fd, sl, u.keep _ _ e⟩
theorem lm_of {N ps fr : List Str} {params : Arguments} {body : Expr} {scope : Scope} {ws : List (Option V)} (md : Mod K mg base) (L : LamB base f c' q params body scope fr ws) (S : NScope N ps fr scope)
    (hb : ∀ (cl : List (Str × Addr)) (pm ctv : Value) (us : List Value), us.length = ps.length → bindArgs (PySem.W.kla_fn "<lambda>" q params body scope cl pm (.ref c') ctv) ⟨us, []⟩ = pure (ps.zip us)) (len : ∀ vs H Q, sp vs H Q L2.E0 → vs.length = ps.length)
    (hbody : ∀ (cl : List (Str × Addr)) (A : Around) (outer : List Env) (s : Shared) (H : Hp) (vs : List V) (Q : VK), Room k (A.deeper (envF ⟨"<lambda>", q, params, [], scope, cl, c'⟩ f s.heap.objs.size)) → sp vs H Q L2.E0 →
      ∃ t, PE (ncx L2.CX0 P w K mg base N ⟨"<lambda>", q, params, [], scope, cl, c'⟩ f A outer s H L2.E0) body t ∧ t (startF N vs ws) H Q) :
    LmOk P w K mg base (k + 1) f c' q sp := by
  obtain ⟨cl, pm, ctv, ho, C⟩ := L
  refine ⟨md, ⟨_, _, _, _, ho⟩, fun A outer s H us vs Q hr e0 hc r hsp => ?_⟩
  have hl := len _ _ _ hsp
  have kb : ∀ b o, base.get? b = some o → s.heap.get? b = some o := fun b o e => (e0.bs b o e).1
  have roomy := e0.mod.nolimit.keeps kb
  obtain ⟨c2, oc, vs2, t2, e2, hoc, hdc, hvc⟩ := codeO_at e0.hok hc
  cases e2
  have C2 : CellsAt cl fr ws s.heap H := ⟨C.len, fun y c e => by
      obtain ⟨_, v, o, h1, h2⟩ := C.all y c e
      exact ⟨(e0.bs c o h1).2, v, o, kb _ _ h1, h2⟩, C.inj, fun i y e => by
      obtain ⟨c, h1, h2⟩ := C.has i y e
      refine ⟨c, h1, fun v ev => ?_⟩
      obtain ⟨u, h3, h4⟩ := h2 v ev
      exact ⟨u, h3, h4.keeps kb⟩⟩
  refine PySem.W.kla_callFunE hr.depth (kb _ _ ho) rfl S.co S.gen rfl ⟨c', oc, vs2, t2, rfl, hoc, hdc, hvc⟩ ?_
  rw [hb cl pm ctv us (by rw [← r.length]; exact hl)]
  have own : ∀ y ∈ ps.zip us, scope.names.lookup y.1 = some .local := fun y hy => S.par y.1 (List.of_mem_zip (a := y.1) (b := y.2) hy).1
  refine wpAny_pure (wpAny_newFunctionEnv S.nocell own (fun g gns gsb => ⟨roomy.fresh _ gsb, ?_⟩) S.kind)
  show codeAny _ _ (.expr body (envF ⟨"<lambda>", q, params, [], scope, cl, c'⟩ f s.heap.objs.size)) _ _
  have old : ∀ b o, s.heap.get? b = some o → g.get? b = some o := fun b o e => gsb.extBut b o (Nat.ne_of_lt (Heap.lt_size e)) (Heap.get?_push_of_some _ e)
  obtain ⟨t, ht, hq⟩ := hbody cl A outer s H vs Q (hr.deeper _) hsp
  have J : Inv (ncx L2.CX0 P w K mg base N ⟨"<lambda>", q, params, [], scope, cl, c'⟩ f A outer s H L2.E0) [] (startF N vs ws) H { s with heap := g, toks := s.toks + (ps.zip us).length } := inv_startN S hr.hd e0 hl r C2 gns old
  refine PySem.W.kla_codeExpr (wpAny_mono (ht.run [] _ (startF N vs ws) H Q J hq) (fun v s' hq => ?_) fun e s' hq => hq)
  obtain ⟨x, H2, I2, hx, hQ⟩ := hq
  exact ⟨x, H2, I2.os, I2.bare, I2.base, I2.hok, hx, hQ⟩
end
/-! ### a call of it by a name -/
section
variable {X : Cx} {k j i : Nat} {f c' : Addr} {q x : Str} {sp : Sp} {p pos : Pos} {e : Expr} {es : List Expr} {t : TA}
def tDeed (i : Nat) (f c' : Addr) (q : Str) (sp : Sp) (t : TA) : TE := fun σ H Q => σ[i]? = some (some (.ref f)) ∧ t σ H fun vs H1 => H1 c' = some (CodeO c' q) ∧ sp vs H1 Q L2.E0
theorem pe_deed (C : LmOk X.prog X.w X.K X.mg X.base k f c' q sp) (hr : Room j X.A) (hk : k ≤ j) (hN : X.N[i]? = some x) (hv : Vis X.env.scope x) (ha : PA X (e :: es) t)
    (hd : (x == ("__debug__" : Str)) = false := by decide) (hcd : (x == ("__classdict__" : Str)) = false := by decide)
    (he : starEach (e :: es) X.env = (false, eval e X.env) :: starEach es X.env := by rfl) (hpl : (backTo pos (starEach es X.env)).any (·.1) = false := by rfl) :
    PE X (.Call (.Name x p) (e :: es) [] pos) (tDeed i f c' q sp t) := by
  refine ⟨fun pins s σ H Q I h => ?_⟩
  have hf := pe_var (pos := p) hN hv hd hcd
  refine wpAny_Call_Name_kw (thn (hf.run pins s σ H (fun y G => y = .ref f ∧ G = H) I ⟨_, h.1, rfl, rfl⟩) fun u s1 ⟨y, G, I1, r1, e1, e2⟩ => ?_)
  have ht := h.2
  subst e1 e2
  obtain rfl : u = Value.ref f := r1
  have fnAt : ∀ {s : Shared} {H : Hp}, Inv X pins σ H s → PySem.W.FnAt f s.heap := fun I => by
    obtain ⟨oc, od, fd, sl, e⟩ := C.at_
    exact ⟨oc, od, fd, sl, I.bk _ _ e⟩
  refine PySem.W.callWith_F (first := []) (fnAt I1) (thn (ha.run pos pins s1 σ G _ I1 ht) fun us s2 ⟨vs, H2, I2, r, h2, q⟩ => ⟨fnAt I2, ?_⟩) he hpl
  refine wpAny_call (codeAny_mono (C.run X.A X.stack s2 H2 us vs Q (hr.mono hk) I2.env0 h2 r q) fun r s' hq => ?_)
  cases r with
  | error e => exact (show False from hq).elim
  | ok fl =>
    cases fl with
    | ret u => exact I2.after hq
    | next => exact False.elim hq
    | brk => exact False.elim hq
    | cont => exact False.elim hq
end
/-! ### a call whose last argument is a lambda -/
section
variable {X : Cx}
structure PAX (X : Cx) (es : List Expr) (t : L2.St → Hp → (List V → Hp → Heap → Prop) → Prop) : Prop where
  run : ∀ (pos : Pos) (pins : List (Addr × Obj)) (s : Shared) (σ : L2.St) (H : Hp) (R : List V → Hp → Heap → Prop), Inv X pins σ H s → t σ H R →
    wpAny (model X.prog X.w) X.A (spliced (backTo pos (starEach es X.env))) (fun us s' => ∃ vs H', Inv X pins σ H' s' ∧ Vals vs us ∧ R vs H' (rebase s' H' X.stack)) X.xe s
theorem pax_cons {e : Expr} {es : List Expr} {te : TE} {t : L2.St → Hp → (List V → Hp → Heap → Prop) → Prop} (ha : PE X e te) (hr : PAX X es t) (hs : starEach (e :: es) X.env = (false, eval e X.env) :: starEach es X.env := by rfl) :
    PAX X (e :: es) (fun σ H R => te σ H fun x H1 => t σ H1 fun xs H2 b => R (x :: xs) H2 b) := by
  refine ⟨fun pos pins s σ H Q I h => ?_⟩
  have e0 : backTo pos (starEach (e :: es) X.env) = (false, eval e X.env) :: backTo pos (starEach es X.env) := by rw [hs]; rfl
  rw [e0]
  refine Calls.spliced_cons ?_
  refine thn (ha.run pins s σ H _ I h) fun u s1 hu => ?_
  obtain ⟨y, G, J, ry, qy⟩ := hu
  refine thn (hr.run pos pins s1 σ G _ J qy) fun us s2 hus => ?_
  obtain ⟨ys, G2, J2, rs, qs⟩ := hus
  exact ⟨_, G2, J2, .cons ry rs, qs⟩
/-- the lambda's reading -/
def tLamX (X : Cx) (T : List (Addr × Str)) (params : Arguments) (body : Expr) (scope : Scope) (fr : List Str) (js : List Nat) : L2.St → Hp → (List V → Hp → Heap → Prop) → Prop := fun σ H R => Tabs T H ∧
  ∀ (f c' : Addr) (H1 : Hp) (base' : Heap), ExtN H H1 → Tabs T H1 → H1 c' = some (CodeO c' (X.env.qual ++ "<lambda>")) → Up X.base base' → Mod X.K X.mg base' → LamB base' f c' (X.env.qual ++ "<lambda>") params body scope fr (js.map (slotAt σ)) → R [.ref f] H1 base'
theorem pax_lam {T : List (Addr × Str)} {c P : Addr} {params : Arguments} {body : Expr} {scope : Scope} {lpos : Pos} {fr : List Str} {js : List Nat} (TB : TabB X.base X.mg c P) (hcode : X.env.code = .ref c) (hm : (P, X.env.qual ++ "<lambda>") ∈ T) (hu : ∀ p ∈ T, p.1 = P → p.2 = X.env.qual ++ "<lambda>")
    (hdef : defaultsOf params X.env = ([], [])) (hfree : ∀ y ∈ scope.names, y.2 = .free → X.env.scope.names.lookup y.1 = some .cell ∨ X.env.scope.names.lookup y.1 = some .free) (hfr : ∀ y ∈ fr, (y, NameKind.free) ∈ scope.names) (hjs : js.map (fun j => X.N[j]?) = fr.map some) (hfn : ∀ y, X.fn y = true) 
    (hs : starEach [.Lambda params body scope lpos] X.env = [(false, eval (.Lambda params body scope lpos) X.env)] := by rfl) : PAX X [.Lambda params body scope lpos] (tLamX X T params body scope fr js) := by
  refine ⟨fun pos pins s σ H R I h => ?_⟩
  obtain ⟨hT, h⟩ := h
  rw [hs]
  show wpAny _ _ (spliced ((false, eval (.Lambda params body scope lpos) X.env) :: [])) _ _ s
  refine Calls.spliced_cons (lam_make2 I TB hcode hm hu hT hdef (fun y hy e => (hfree y hy e).elim (fun k => I.ok.has _ (.inl k)) fun k => I.ok.has _ (.inr k)) fun f c' pm ctv H1 s' I1 eN T1 hf hfn' hfr' hco => ?_)
  refine Calls.spliced_nil ⟨[.ref f], H1, I1, .cons rfl .nil, ?_⟩
  have cp : Caps X (cloFrom X.env.cells scope.names []) fr js := Caps.made I1.ok hfree hfr hjs
  have C := cells_of I1 cp
  have e0 := I1.env0
  have ncell : ∀ {y : Str} {c : Addr}, (cloFrom X.env.cells scope.names []).lookup y = some c → c ∉ frs X.stack := fun {y c} hy hc => by
    have hy2 := cp.sub y c hy
    rcases List.mem_cons.mp (I1.stkSub _ hc) with e | e
    · subst e
      obtain ⟨v, o, h1, h2⟩ := I1.cell y _ hy2
      obtain ⟨m, ⟨o2, es, ep, h3, h4, _⟩, _⟩ := I1.loc
      rw [h1] at h3
      cases h3
      rw [h2] at h4
      cases h4
    · have h1 := I1.ok.cab y c (hfn y) hy2
      obtain ⟨_, o, h2, _⟩ := I1.ok.funs.mem e
      exact Nat.lt_irrefl _ (Nat.lt_of_lt_of_le (Heap.lt_size h2) h1)
  have get : ∀ {y : Str} {c : Addr} {v : Option Value}, (cloFrom X.env.cells scope.names []).lookup y = some c → s'.heap.IsCell c v → (rebase s' H1 X.stack).IsCell c v := fun {y c v} hy ⟨o, h1, h2⟩ => ⟨o, rebase_get h1 (C.all y c hy).1 (ncell hy), h2⟩
  refine h f c' H1 _ eN T1 hco (up_rebase e0) (env_rebase e0).mod ⟨_, pm, ctv, rebase_get hf hfn' hfr', C.len, fun y c hy => ?_, C.inj, fun i y hy => ?_⟩
  · obtain ⟨_, v, hc⟩ := C.all y c hy
    exact ⟨rfl, v, get hy hc⟩
  · obtain ⟨c, h1, h2⟩ := C.has i y hy
    refine ⟨c, h1, fun v ev => ?_⟩
    obtain ⟨u, h3, h4⟩ := h2 v ev
    exact ⟨u, h3, get h1 h4⟩
def tCallX (X : Cx) (k : Nat) (x : Str) (t : L2.St → Hp → (List V → Hp → Heap → Prop) → Prop) : TE := fun σ H Q => t σ H fun vs H1 b => ∃ sp, Cl X.prog X.w X.K X.mg b k x sp ∧ sp vs H1 Q L2.E0
theorem pe_callX {k j : Nat} {x : Str} {e : Expr} {es : List Expr} {p pos : Pos} {t : L2.St → Hp → (List V → Hp → Heap → Prop) → Prop} {f0 : Addr} (hm : X.mg x = some (.ref f0)) (hkp : PySem.W.keepIn X.K (.ref f0) = true) (hr : Room j X.A) (hk : k ≤ j) (hg : Gl X x) (ha : PAX X (e :: es) t)
    (hdb : (x == ("__debug__" : Str)) = false := by decide) (he : starEach (e :: es) X.env = (false, eval e X.env) :: starEach es X.env := by rfl) (hpl : (backTo pos (starEach es X.env)).any (·.1) = false := by rfl) :
    PE X (.Call (.Name x p) (e :: es) [] pos) (tCallX X k x t) := by
  refine ⟨fun pins s σ H Q I h => ?_⟩
  refine wpAny_Call_Name_kw (ld_glob I hg hm ?_ hdb)
  refine PySem.W.callWith_K (h₀ := X.base) I.ok.mod.kin hkp (thn (ha.run pos pins s σ H _ I h) fun us s1 ⟨vs, H1, I1, r, sp, c, q⟩ => ⟨I1.kIn, ?_⟩) he hpl
  obtain ⟨f, fd, ps, F, hm2, _, b⟩ := c.ex
  rw [hm] at hm2
  cases hm2
  have hl : us.length = ps.length := by rw [← r.length]; exact F.len _ _ _ _ q
  have hb := b s1 us I1.kIn (by rw [List.append_nil]; exact hl)
  rw [List.append_nil] at hb
  show wpAny _ _ (call (.ref f0) us) _ _ _
  refine wpAny_call (codeAny_mono (F.run X.A X.stack s1 H1 ⟨us, []⟩ us vs Q L2.E0 (hr.mono hk) (env_rebase I1.env0) hb r q) fun r s' hq => ?_)
  cases r with
  | error e => exact (show False from hq).elim
  | ok fl =>
    cases fl with
    | ret u => exact I1.after hq
    | next => exact False.elim hq
    | brk => exact False.elim hq
    | cont => exact False.elim hq
end
/-! ### a def whose code object is told -/
structure DfC (K : PySem.W.Frag) (mg : Str → Option Value) (x : Str) (i : Nat) (c : Addr) : Prop where
  ex : ∃ (f : Addr) (fd : FuncData), FunD K x x (defArgs (topS i)) (defBody (topS i)) (defScope (topS i)) [] [] f fd ∧ mg x = some (.ref f) ∧ fd.code = .ref c
theorem DfC.df {K : PySem.W.Frag} {mg : Str → Option Value} {x : Str} {i : Nat} {c : Addr} (h : DfC K mg x i c) : Df K mg x i := let ⟨f, fd, h1, h2, _⟩ := h.ex; ⟨f, fd, h1, h2⟩
theorem mk_clC {P : Program} {w : World} {K : PySem.W.Frag} {mg : Str → Option Value} {base : Heap} {x : Str} {i k : Nat} {N ps : List Str} {Z : Type} {args : Z → List V} {pre : Z → Hp → Prop} {post : Z → Hp → V → Hp → Prop} {c : Addr} (F : DfC K mg x i c) (S : FnScope N ps (defScope (topS i)))
    (hb : ∀ (kV doc pm : Value) (an : Option Addr) (cdv ct : Value) (us : List Value), us.length = ps.length → bindArgs (PySem.W.fnOf x x (defArgs (topS i)) (defBody (topS i)) (defScope (topS i)) .none kV doc pm an cdv ct) ⟨us, []⟩ = pure (ps.zip us))
    (len : ∀ z, (args z).length = ps.length) (m : Nat) (hm : N.length - ps.length = m)
    (hbody : ∀ (f : Addr) (A : Around) (outer : List Env) (s : Shared) (H : Hp) (Q : VK) (z : Z), Room k (A.deeper (envOfC x (defScope (topS i)) s.heap.objs.size f (.ref c))) → pre z H → (∀ v H', post z H v H' → Q v H') →
      ∃ t, PSs (cxOf L2.CX0 P w K mg base N x (defScope (topS i)) f (.ref c) A outer s H L2.E0).nox (defBody (topS i)) t ∧ t { nx := fun _ H' => Q .non H', rt := Q } ((args z).map some ++ List.replicate m none) H) :
    Cl P w K mg base (k + 1) x (Spc Z args pre post) := by
  obtain ⟨f, fd, F, hmg, hcd⟩ := F.ex
  refine ⟨f, fd, ps, ?_, hmg, F.kp, F.bindsN hb⟩
  obtain ⟨oc, od, dV, kV, doc, pm, an, cdv, ct, osl, rfl, lk, hcI, _, _⟩ := F.ex
  obtain rfl : cdv = .ref c := hcd
  refine fn_of lk hcI S (fun vs H Q E ⟨z, e, _⟩ => by rw [e]; exact len z) fun A outer s H vs Q E hr ⟨z, e, hp, hq⟩ => ?_
  subst e
  obtain ⟨t, h, q⟩ := hbody f A outer s H Q z hr hp hq
  have e0 : L2.start N (args z) = (args z).map some ++ List.replicate m none := by
    unfold L2.start
    rw [len z, hm]
  rw [← e0] at q
  exact ⟨t, (show PSs (cxOf L2.CX0 P w K mg base N x (defScope (topS i)) f (.ref c) A outer s H E).nox (defBody (topS i)) t from h).nox, q⟩
end Sw

set_option maxHeartbeats 4000000
namespace Sw
open PySem PySem.Spec PyProof.Rows L2 C8
local macro_rules | `(tactic| walk_at "v") => `(tactic| (with_reducible show tVar _ _ _ _; with_unfolding_all refine r_var rfl ?_))
local macro_rules | `(tactic| walk_at "x") => `(tactic| ((first | with_reducible refine r_ixTc (xs := ?xs) (v := ?v) ?hl ?e ?h | with_reducible refine r_ixLc (xs := ?xs) (v := ?v) ?hl ?e ?h); (case hl => first | assumption | exact SqT.of (by assumption) | exact SqL.of (by assumption)); (case e => first | rfl | assumption | exact atI_zero)))
local macro_rules | `(tactic| walk_at "n") => `(tactic| ((first | with_reducible refine r_mod ?hj (fun _ _ _ => ?_) | with_reducible refine r_mul ?hj ?_ | with_reducible refine r_div ?hj ?hd ?_ | with_reducible refine r_pow ?hj ?_); (case hj => first | (with_reducible show (0 : Int) < _; first | decide | omega) | exact ⟨by decide, by decide, by decide⟩ | exact .inr ⟨by decide, by decide⟩ | exact .inl ⟨by decide, by decide⟩ | exact .inl ⟨by omega, by omega⟩ | exact .inr ⟨by omega, by omega⟩); (try case hd => first | decide | omega)))
local macro_rules | `(tactic| walk_at "s0") => `(tactic| first
  | with_reducible refine r_seq ?_ | with_reducible refine r_asg ?_ | ((with_reducible refine r_gname ?_); dsimp only [List.set_cons_succ, List.set_cons_zero, List.set]) | with_reducible refine r_ret ?_ | with_reducible refine r_drop ?_ | with_reducible refine r_if ?_
  | with_reducible refine r_test ?_ | with_reducible refine r_B ?_ | with_reducible refine r_op ?_ | with_reducible refine r_cons ?_ | with_reducible refine r_nil ?_ | with_reducible refine r_c ?_ | walk_at "v"
  | with_reducible refine r_cl ?_ | with_reducible refine r_cb ?_ | with_reducible refine r_I0 ?_ | with_reducible refine r_bl ?_ | ((with_reducible refine r_eq ?hs ?_); (case hs => rfl)) | ((with_reducible refine r_ne ?hs ?_); (case hs => rfl))
  | with_reducible refine r_un ?_ | with_reducible refine r_neg ?_ | with_reducible refine r_int ?_ | with_reducible refine r_intB ?_ | with_reducible refine r_min2 ?_ | with_reducible refine r_max2 ?_
  | with_reducible refine r_tup ?_ | with_reducible refine r_lst ?_ | with_reducible refine r_not ?_ | with_reducible refine r_ifE ?_
  | with_reducible refine r_andV ?_ | with_reducible refine r_orV ?_ | with_reducible refine r_notV ?_ | with_reducible refine r_next ?_ | with_reducible refine r_brk ?_ | with_reducible refine r_for ?_ | with_reducible refine r_slc ?_ | with_reducible refine r_nop ?_ | with_reducible refine r_part ?_ | with_reducible refine r_ei ?_ | with_reducible refine r_bm ?_ | with_reducible refine r_isN ?_ | with_reducible refine r_notN ?_ | with_reducible refine r_m1 ?_ | with_reducible refine r_lc ?_ | with_reducible refine r_rng1 ?_ | with_reducible refine r_rng2 ?_ | with_reducible refine r_ilist ?_ | with_reducible refine r_itup ?_ | with_reducible refine iteT ?_ | with_reducible refine iteF ?_ | with_reducible refine r_sub ?_ | walk_at "n" | walk_at "x")
local macro_rules | `(tactic| walk_at "s1") => `(tactic| first | walk_at "s0" | with_reducible refine r_and ?_ | with_reducible refine r_or ?_)
local macro_rules | `(tactic| walk_at "u") => `(tactic| (try dsimp only); repeat walk_at "s0")
local macro_rules | `(tactic| walk_at "pt") => `(tactic| first
  | ((with_reducible refine r_and2 (a := ?a) (b := ?b) ?h1 ?h2 ?h); (case h1 => intro _ q; walk_at "pt"; exact q); (case h2 => intro _ q; walk_at "pt"; exact q); (try dsimp only))
  | ((with_reducible refine r_or2 (a := ?a) (b := ?b) ?h1 ?h2 ?h); (case h1 => intro _ q; walk_at "pt"; exact q); (case h2 => intro _ q; walk_at "pt"; exact q); (try dsimp only))
  | walk_at "u")
local macro_rules | `(tactic| walk_at "s") => `(tactic| (try dsimp only); repeat walk_at "s1")
local macro_rules | `(tactic| walk_at "go") => `(tactic| (try simp only [cxK, cxK2]); (try simp only [List.map_cons, List.map_nil, List.replicate, List.cons_append, List.nil_append]); walk_at "s")
local macro_rules | `(tactic| walk_at "t") => `(tactic| ((try dsimp only); (try with_reducible refine iteT ?_); (try dsimp only)))

local macro_rules | `(tactic| walk_at "k") => `(tactic| ((try dsimp only); (first | refine kF (by decide +kernel) ?_ | refine kT (by decide +kernel) ?_ | refine kF (decide_eq_false (fun h => by cases h)) ?_ | refine kT (decide_eq_true rfl) ?_); walk_at "s"))
section
variable {K : PySem.W.Frag} {H : Hp} {Q : VK} {p q : Addr} {xs ys : List V} {lo hi : Option Int}
theorem r_slT (h : SqT K H p xs) (k : ∀ l H1, Same H H1 → SqT K H1 l (cutV xs lo hi) → Q (.ref l) H1) : rSlA K (.ref p) lo hi H Q := by
  refine ⟨p, xs, rfl, h, fun ⟨e1, e2⟩ => k p H (Same.refl _) ?_, fun _ l hl => k l _ (Same.new hl) (SqT.of upd_same)⟩
  unfold cutV
  rw [e1, e2]
  simp only [List.drop_zero, Nat.sub_zero, List.take_length]
  exact h
theorem r_catT (h1 : SqT K H p xs) (h2 : SqT K H q ys) (hz : xs.length + ys.length ≤ 100000) (k : ∀ l H1, Same H H1 → SqT K H1 l (xs ++ ys) → Q (.ref l) H1) : rCatA K (.ref p) (.ref q) H Q :=
  ⟨p, q, xs, ys, rfl, rfl, h1, h2, sz hz, fun e => k q H (Same.refl _) (by rw [e]; exact h2), fun _ e => k p H (Same.refl _) (by rw [e, List.append_nil]; exact h1), fun _ _ l hl => k l _ (Same.new hl) (SqT.of upd_same)⟩
theorem r_gT {t : TGs} {σ : L2.St} {Qs : L2.St → Hp → Prop} {n : Nat} (h : SqT K H p xs) (hn : xs.length = n) (k : t xs σ H Qs) : gTup K n t (.ref p) σ H Qs := ⟨p, xs, rfl, h, hn, k⟩
end
def linesV : Ar → List V
  | .range _ t _ b _ f _ h _ => [.int t, .int b, .bl f, .bl h]
  | .rows _ t b f g => [.int t, .int b, .bl f, .bl g]
  | .cell .. => []
  | .cols .. => []
def ranksV : Ar → List V
  | .range _ _ l _ r _ g _ i => [.int l, .int r, .bl g, .bl i]
  | .cols _ l r f g => [.int l, .int r, .bl f, .bl g]
  | .cell .. => []
  | .rows .. => []
section
variable {P : Program} {w : World} {K : PySem.W.Frag} {mg : Str → Option Value} {base : Heap}
abbrev N_lines_of : List Str := ["node"]
theorem sc_lines_of : FnScope N_lines_of ["node"] (defScope (topS 10)) := ⟨rfl, rfl, rfl, by decide +kernel, rfl, by decide +kernel, by decide +kernel⟩
def spLines (K : PySem.W.Frag) : Sp := Spc (Addr × Ar) (fun z => [.ref z.1]) (fun z H => SqT K H z.1 z.2.vs ∧ linesV z.2 ≠ [])
  fun z H v H' => Same H H' ∧ ∃ q, v = .ref q ∧ H' q = some (.tup (linesV z.2))
theorem cl_lines_of (F : Df K mg "lines_of" 10) (B : Bi mg) : Cl P w K mg base 1 "lines_of" (spLines K) := by
  refine mk_cl F sc_lines_of (fun _ _ _ _ _ _ us hl => match us, hl with | [_], _ => rfl) (fun _ => rfl) 0 rfl fun f cdv A outer s H Q z hr hp hq => ?_
  obtain ⟨p, a⟩ := z
  obtain ⟨hs, hn⟩ := hp
  dsimp only at hs hn hq
  refine ⟨_, ((pss_cons (ps_if (pt_cmpR op_eq (pe_ix ix_tup (pv 0) pe_int (fun _ _ => rfl)) pe_str (nomark _)) (pss_one (ps_ret (pe_tup (pa_cons (pe_ix ix_tup (pv 0) pe_int (fun _ _ => rfl)) (pa_cons (pe_ix ix_tup (pv 0) pe_int (fun _ _ => rfl)) (pa_cons (pe_ix ix_tup (pv 0) pe_int (fun _ _ => rfl)) (pa_cons (pe_ix ix_tup (pv 0) pe_int (fun _ _ => rfl)) pa_nil))))))) pss_nil)
      (pss_one (ps_ret (pe_tup (pa_cons (pe_ix ix_tup (pv 0) pe_int (fun _ _ => rfl)) (pa_cons (pe_ix ix_tup (pv 0) pe_int (fun _ _ => rfl)) (pa_cons (pe_ix ix_tup (pv 0) pe_int (fun _ _ => rfl)) (pa_cons (pe_ix ix_tup (pv 0) pe_int (fun _ _ => rfl)) pa_nil))))))))), ?_⟩
  cases a with
  | cell => exact absurd rfl hn
  | cols => exact absurd rfl hn
  | range sh _ _ _ _ _ _ _ _ =>
    unfold Ar.vs at hs
    walk_at "go"
    walk_at "k"
    refine n_tup (szr rfl) fun q H1 np s1 hq1 => ?_
    exact hq _ _ ⟨s1, q, rfl, hq1⟩
  | rows sh _ _ _ _ =>
    unfold Ar.vs at hs
    walk_at "go"
    walk_at "k"
    refine n_tup (szr rfl) fun q H1 np s1 hq1 => ?_
    exact hq _ _ ⟨s1, q, rfl, hq1⟩
abbrev N_ranks_of : List Str := ["node"]
theorem sc_ranks_of : FnScope N_ranks_of ["node"] (defScope (topS 11)) := ⟨rfl, rfl, rfl, by decide +kernel, rfl, by decide +kernel, by decide +kernel⟩
def spRanks (K : PySem.W.Frag) : Sp := Spc (Addr × Ar) (fun z => [.ref z.1]) (fun z H => SqT K H z.1 z.2.vs ∧ ranksV z.2 ≠ [])
  fun z H v H' => Same H H' ∧ ∃ q, v = .ref q ∧ H' q = some (.tup (ranksV z.2))
theorem cl_ranks_of (F : Df K mg "ranks_of" 11) (B : Bi mg) : Cl P w K mg base 1 "ranks_of" (spRanks K) := by
  refine mk_cl F sc_ranks_of (fun _ _ _ _ _ _ us hl => match us, hl with | [_], _ => rfl) (fun _ => rfl) 0 rfl fun f cdv A outer s H Q z hr hp hq => ?_
  obtain ⟨p, a⟩ := z
  obtain ⟨hs, hn⟩ := hp
  dsimp only at hs hn hq
  refine ⟨_, ((pss_cons (ps_if (pt_cmpR op_eq (pe_ix ix_tup (pv 0) pe_int (fun _ _ => rfl)) pe_str (nomark _)) (pss_one (ps_ret (pe_tup (pa_cons (pe_ix ix_tup (pv 0) pe_int (fun _ _ => rfl)) (pa_cons (pe_ix ix_tup (pv 0) pe_int (fun _ _ => rfl)) (pa_cons (pe_ix ix_tup (pv 0) pe_int (fun _ _ => rfl)) (pa_cons (pe_ix ix_tup (pv 0) pe_int (fun _ _ => rfl)) pa_nil))))))) pss_nil)
      (pss_one (ps_ret (pe_tup (pa_cons (pe_ix ix_tup (pv 0) pe_int (fun _ _ => rfl)) (pa_cons (pe_ix ix_tup (pv 0) pe_int (fun _ _ => rfl)) (pa_cons (pe_ix ix_tup (pv 0) pe_int (fun _ _ => rfl)) (pa_cons (pe_ix ix_tup (pv 0) pe_int (fun _ _ => rfl)) pa_nil))))))))), ?_⟩
  cases a with
  | cell => exact absurd rfl hn
  | rows => exact absurd rfl hn
  | range sh _ _ _ _ _ _ _ _ =>
    unfold Ar.vs at hs
    walk_at "go"
    walk_at "k"
    refine n_tup (szr rfl) fun q H1 np s1 hq1 => ?_
    exact hq _ _ ⟨s1, q, rfl, hq1⟩
  | cols sh _ _ _ _ =>
    unfold Ar.vs at hs
    walk_at "go"
    walk_at "k"
    refine n_tup (szr rfl) fun q H1 np s1 hq1 => ?_
    exact hq _ _ ⟨s1, q, rfl, hq1⟩
abbrev N_range_of : List Str := ["sheet", "lines", "ranks", "top", "bottom", "fixed_top", "fixed_bottom", "left", "right", "fixed_left", "fixed_right"]
theorem sc_range_of : FnScope N_range_of ["sheet", "lines", "ranks"] (defScope (topS 4)) := ⟨rfl, rfl, rfl, by decide +kernel, rfl, by decide +kernel, by decide +kernel⟩
structure ZR where
  sh : V
  l : Addr
  r : Addr
  t : V
  b : V
  f : V
  h : V
  lf : V
  rt : V
  g : V
  i : V
def spRangeOf (K : PySem.W.Frag) : Sp := Spc ZR (fun z => [z.sh, .ref z.l, .ref z.r]) (fun z H => SqT K H z.l [z.t, z.b, z.f, z.h] ∧ SqT K H z.r [z.lf, z.rt, z.g, z.i])
  fun z H v H' => Same H H' ∧ ∃ q, v = .ref q ∧ H' q = some (.tup [.str "range", z.sh, z.t, z.lf, z.b, z.rt, z.f, z.g, z.h, z.i])
theorem cl_range_of (F : Df K mg "range_of" 4) (B : Bi mg) : Cl P w K mg base 1 "range_of" (spRangeOf K) := by
  refine mk_cl F sc_range_of (fun _ _ _ _ _ _ us hl => match us, hl with | [_, _, _], _ => rfl) (fun _ => rfl) 8 rfl fun f cdv A outer s H Q z hr hp hq => ?_
  obtain ⟨sh, l, r, t, b, f', h, lf, rt, g, i⟩ := z
  obtain ⟨h1, h2⟩ := hp
  dsimp only at h1 h2 hq
  refine ⟨_, ((pss_cons (ps_asg (pv 1) (pg_tup (by rfl) (pgs_cons (pg_name (i := 3) sc_range_of.nd rfl (Or.inl rfl)) (pgs_cons (pg_name (i := 4) sc_range_of.nd rfl (Or.inl rfl)) (pgs_cons (pg_name (i := 5) sc_range_of.nd rfl (Or.inl rfl)) (pgs_cons (pg_name (i := 6) sc_range_of.nd rfl (Or.inl rfl)) pgs_nil))))))
      (pss_cons (ps_asg (pv 2) (pg_tup (by rfl) (pgs_cons (pg_name (i := 7) sc_range_of.nd rfl (Or.inl rfl)) (pgs_cons (pg_name (i := 8) sc_range_of.nd rfl (Or.inl rfl)) (pgs_cons (pg_name (i := 9) sc_range_of.nd rfl (Or.inl rfl)) (pgs_cons (pg_name (i := 10) sc_range_of.nd rfl (Or.inl rfl)) pgs_nil))))))
      (pss_one (ps_ret (pe_tup (pa_cons pe_str (pa_cons (pv 0) (pa_cons (pv 3) (pa_cons (pv 7) (pa_cons (pv 4) (pa_cons (pv 8) (pa_cons (pv 5) (pa_cons (pv 9) (pa_cons (pv 6) (pa_cons (pv 10) pa_nil)))))))))))))))), ?_⟩
  walk_at "go"
  refine r_gT h1 rfl ?_
  refine ⟨_, _, rfl, ?_⟩
  walk_at "s"
  refine ⟨_, _, rfl, ?_⟩
  walk_at "s"
  refine ⟨_, _, rfl, ?_⟩
  walk_at "s"
  refine ⟨_, _, rfl, ?_⟩
  walk_at "s"
  refine ⟨rfl, ?_⟩
  walk_at "s"
  refine r_gT h2 rfl ?_
  refine ⟨_, _, rfl, ?_⟩
  walk_at "s"
  refine ⟨_, _, rfl, ?_⟩
  walk_at "s"
  refine ⟨_, _, rfl, ?_⟩
  walk_at "s"
  refine ⟨_, _, rfl, ?_⟩
  walk_at "s"
  refine ⟨rfl, ?_⟩
  walk_at "s"
  refine n_tup (szr rfl) fun q H1 np s1 hq1 => ?_
  exact hq _ _ ⟨s1, q, rfl, hq1⟩
/-! ### inserted_pair -/
abbrev N_inserted_pair : List Str := ["first", "last", "at", "many", "size"]
theorem sc_inserted_pair : FnScope N_inserted_pair ["first", "last", "at", "many", "size"] (defScope (topS 13)) := ⟨rfl, rfl, rfl, by decide +kernel, rfl, by decide +kernel, by decide +kernel⟩
def PairOk (c : Cut) (a b : Nat) (H : Hp) (v : V) (H' : Hp) : Prop := Same H H' ∧ match insP c a b with
  | none => v = .non
  | some (x, y) => ∃ q, v = .ref q ∧ H' q = some (.tup [.int (x : Nat), .int (y : Nat)])
def spPairD (c : Cut) : Sp := Spc (Nat × Nat) (fun z => [.int (z.1 : Nat), .int (z.2 : Nat), .int (c.at' : Nat), .int (c.many : Nat), .int (c.n : Nat)]) (fun _ _ => True) fun z H v H' => PairOk c z.1 z.2 H v H'
theorem shf_int {at' many x : Nat} : ((shf at' many x : Nat) : Int) = if (x : Int) < at' then (x : Int) else (x : Int) + many := by
  unfold shf
  split <;> split <;> omega
theorem cl_inserted_pair (c : Cut) (F : Df K mg "inserted_pair" 13) (B : Bi mg) : Cl P w K mg base 1 "inserted_pair" (spPairD c) := by
  refine mk_cl F sc_inserted_pair (fun _ _ _ _ _ _ us hl => match us, hl with | [_, _, _, _, _], _ => rfl) (fun _ => rfl) 0 rfl fun f cdv A outer s H Q z hr hp hq => ?_
  obtain ⟨a, b⟩ := z
  dsimp only at hq
  have n0 : 10 ≤ c.n := by unfold Cut.n; split <;> decide
  have sa := shf_int (at' := c.at') (many := c.many) (x := a)
  have sb := shf_int (at' := c.at') (many := c.many) (x := b)
  refine ⟨_, ((C8.pss_cut (ps_if (pt_cmpR op_ge (pv 0) (pv 2) (nomark _)) (pss_one (ps_set (i := 0) sc_inserted_pair.nd rfl (Or.inl rfl) (pe_op op_add (pv 0) (pv 3)))) pss_nil)
      (C8.pss_cut (ps_if (pt_cmpR op_ge (pv 1) (pv 2) (nomark _)) (pss_one (ps_set (i := 1) sc_inserted_pair.nd rfl (Or.inl rfl) (pe_op op_add (pv 1) (pv 3)))) pss_nil)
      (pss_cons (ps_if (pt_cmpR op_ge (pv 0) (pv 4) (nomark _)) (pss_one (ps_ret pe_non)) pss_nil)
      (pss_one (ps_ret (pe_tup (pa_cons (pv 0) (pa_cons (pe_callB (cl_min2 rfl) (by rfl) B.tmin (by decide +kernel) (pa_cons (pv 1) (pa_cons (pe_op op_sub (pv 4) pe_int) pa_nil))) pa_nil))))))))), ?_⟩
  walk_at "go"
  refine r_cut (Mid := fun σ' H' => σ' = [some (.int (shf c.at' c.many a : Nat)), some (.int (b : Nat)), some (.int (c.at' : Nat)), some (.int (c.many : Nat)), some (.int (c.n : Nat))] ∧ H' = H) ?_ ?_
  · walk_at "s"
    refine i2 (fun e => ?_) (fun e => ?_)
    · walk_at "s"
      exact ⟨by rw [sa, if_neg (by omega)], rfl⟩
    · walk_at "s"
      exact ⟨by rw [sa, if_pos (by omega)], rfl⟩
  rintro σ' H' ⟨rfl, rfl⟩
  refine r_cut (Mid := fun σ' H1 => σ' = [some (.int (shf c.at' c.many a : Nat)), some (.int (shf c.at' c.many b : Nat)), some (.int (c.at' : Nat)), some (.int (c.many : Nat)), some (.int (c.n : Nat))] ∧ H1 = H') ?_ ?_
  · walk_at "s"
    refine i2 (fun e => ?_) (fun e => ?_)
    · walk_at "s"
      exact ⟨by rw [sb, if_neg (by omega)], rfl⟩
    · walk_at "s"
      exact ⟨by rw [sb, if_pos (by omega)], rfl⟩
  rintro σ' H1 ⟨rfl, rfl⟩
  walk_at "s"
  refine i2 (fun e => ?_) (fun e => ?_)
  · walk_at "s"
    refine hq _ _ ⟨Same.refl _, ?_⟩
    have : insP c a b = none := by
      unfold insP
      rw [if_neg (by omega)]
    rw [this]
  · walk_at "s"
    refine n_tup (szr rfl) fun q H2 np s2 hq2 => ?_
    refine hq _ _ ⟨s2, ?_⟩
    have : insP c a b = some (shf c.at' c.many a, min (shf c.at' c.many b) (c.n - 1)) := by
      unfold insP
      rw [if_pos (by omega)]
    rw [this]
    refine ⟨q, rfl, ?_⟩
    rw [hq2]
    have e2 : ((min (shf c.at' c.many b) (c.n - 1) : Nat) : Int) = if (c.n : Int) - 1 < (shf c.at' c.many b : Nat) then (c.n : Int) - 1 else (shf c.at' c.many b : Nat) := by
      split <;> omega
    rw [e2]
end
end Sw

set_option maxHeartbeats 4000000
namespace Sw
open PySem PySem.Spec PyProof.Rows L2 C8 LamX
local macro_rules | `(tactic| walk_at "v") => `(tactic| (with_reducible show tVar _ _ _ _; with_unfolding_all refine r_var rfl ?_))
local macro_rules | `(tactic| walk_at "x") => `(tactic| ((first | with_reducible refine r_ixTc (xs := ?xs) (v := ?v) ?hl ?e ?h | with_reducible refine r_ixLc (xs := ?xs) (v := ?v) ?hl ?e ?h); (case hl => first | assumption | exact SqT.of (by assumption) | exact SqL.of (by assumption)); (case e => first | rfl | assumption | exact atI_zero)))
local macro_rules | `(tactic| walk_at "n") => `(tactic| ((first | with_reducible refine r_mod ?hj (fun _ _ _ => ?_) | with_reducible refine r_mul ?hj ?_ | with_reducible refine r_div ?hj ?hd ?_ | with_reducible refine r_pow ?hj ?_); (case hj => first | (with_reducible show (0 : Int) < _; first | decide | omega) | exact ⟨by decide, by decide, by decide⟩ | exact .inr ⟨by decide, by decide⟩ | exact .inl ⟨by decide, by decide⟩ | exact .inl ⟨by omega, by omega⟩ | exact .inr ⟨by omega, by omega⟩); (try case hd => first | decide | omega)))
local macro_rules | `(tactic| walk_at "s0") => `(tactic| first
  | with_reducible refine r_seq ?_ | with_reducible refine r_asg ?_ | ((with_reducible refine r_gname ?_); dsimp only [List.set_cons_succ, List.set_cons_zero, List.set]) | with_reducible refine r_ret ?_ | with_reducible refine r_drop ?_ | with_reducible refine r_if ?_
  | with_reducible refine r_test ?_ | with_reducible refine r_B ?_ | with_reducible refine r_op ?_ | with_reducible refine r_cons ?_ | with_reducible refine r_nil ?_ | with_reducible refine r_c ?_ | walk_at "v"
  | with_reducible refine r_cl ?_ | with_reducible refine r_cb ?_ | with_reducible refine r_I0 ?_ | with_reducible refine r_bl ?_ | ((with_reducible refine r_eq ?hs ?_); (case hs => rfl)) | ((with_reducible refine r_ne ?hs ?_); (case hs => rfl))
  | with_reducible refine r_un ?_ | with_reducible refine r_neg ?_ | with_reducible refine r_int ?_ | with_reducible refine r_intB ?_ | with_reducible refine r_min2 ?_ | with_reducible refine r_max2 ?_
  | with_reducible refine r_tup ?_ | with_reducible refine r_lst ?_ | with_reducible refine r_not ?_ | with_reducible refine r_ifE ?_
  | with_reducible refine r_andV ?_ | with_reducible refine r_orV ?_ | with_reducible refine r_notV ?_ | with_reducible refine r_next ?_ | with_reducible refine r_brk ?_ | with_reducible refine r_for ?_ | with_reducible refine r_slc ?_ | with_reducible refine r_nop ?_ | with_reducible refine r_part ?_ | with_reducible refine r_ei ?_ | with_reducible refine r_bm ?_ | with_reducible refine r_isN ?_ | with_reducible refine r_notN ?_ | with_reducible refine r_m1 ?_ | with_reducible refine r_lc ?_ | with_reducible refine r_rng1 ?_ | with_reducible refine r_rng2 ?_ | with_reducible refine r_ilist ?_ | with_reducible refine r_itup ?_ | with_reducible refine iteT ?_ | with_reducible refine iteF ?_ | with_reducible refine r_sub ?_ | walk_at "n" | walk_at "x")
local macro_rules | `(tactic| walk_at "s1") => `(tactic| first | walk_at "s0" | with_reducible refine r_and ?_ | with_reducible refine r_or ?_)
local macro_rules | `(tactic| walk_at "u") => `(tactic| (try dsimp only); repeat walk_at "s0")
local macro_rules | `(tactic| walk_at "pt") => `(tactic| first
  | ((with_reducible refine r_and2 (a := ?a) (b := ?b) ?h1 ?h2 ?h); (case h1 => intro _ q; walk_at "pt"; exact q); (case h2 => intro _ q; walk_at "pt"; exact q); (try dsimp only))
  | ((with_reducible refine r_or2 (a := ?a) (b := ?b) ?h1 ?h2 ?h); (case h1 => intro _ q; walk_at "pt"; exact q); (case h2 => intro _ q; walk_at "pt"; exact q); (try dsimp only))
  | walk_at "u")
local macro_rules | `(tactic| walk_at "s") => `(tactic| (try dsimp only); repeat walk_at "s1")
local macro_rules | `(tactic| walk_at "go") => `(tactic| (try simp only [cxK, cxK2]); (try simp only [List.map_cons, List.map_nil, List.replicate, List.cons_append, List.nil_append]); walk_at "s")
local macro_rules | `(tactic| walk_at "t") => `(tactic| ((try dsimp only); (try with_reducible refine iteT ?_); (try dsimp only)))

local macro_rules | `(tactic| walk_at "k") => `(tactic| ((try dsimp only); (first | refine kF (by decide +kernel) ?_ | refine kT (by decide +kernel) ?_ | refine kF (decide_eq_false (fun h => by cases h)) ?_ | refine kT (decide_eq_true rfl) ?_); walk_at "s"))
/-- the pair's deed, as the lambda of inserted -/
def spPair (c : Cut) : Sp := Spc (Nat × Nat) (fun z => [.int (z.1 : Nat), .int (z.2 : Nat)]) (fun _ _ => True) fun z H v H' => PairOk c z.1 z.2 H v H'
section
variable {P : Program} {w : World} {K : PySem.W.Frag} {mg : Str → Option Value} {base : Heap}
abbrev N_restructured_area : List Str := ["node", "own", "key", "is_rows", "deed", "kind", "sheet", "number", "pair", "old", "new"]
theorem sc_restructured_area : FnScope N_restructured_area ["node", "own", "key", "is_rows", "deed"] (defScope (topS 15)) := ⟨rfl, rfl, rfl, by decide +kernel, rfl, by decide +kernel, by decide +kernel⟩
def spRA (K : PySem.W.Frag) (o : Option Int) (c : Cut) (f1 c1 : Addr) (q1 : Str) : Sp := Spc (Addr × Ar) (fun z => [.ref z.1, sV o, .int c.key, .bl c.rows, .ref f1]) (fun z H => SqT K H z.1 z.2.vs ∧ H c1 = some (CodeO c1 q1))
  fun z H v H' => Same H H' ∧ Dt K H' v (moved o c z.2)
theorem insP_cell {c : Cut} {n x y : Nat} (h : insP c n n = some (x, y)) : x = y ∨ True := .inr trivial
theorem cl_restructured_area (o : Option Int) (c : Cut) {f1 c1 aL : Addr} {q1 : Str} {kC : Nat} (hk1 : 1 ≤ kC) (F : Df K mg "restructured_area" 15) (B : Bi mg) (C : LmOk P w K mg base kC f1 c1 q1 (spPair c)) (gLOST : mg "LOST" = some (.ref aL) ∧ RelV (.ref aL) (.ref aL)) (hLOST : ∀ H, Dt K H (.ref aL) (.tuple [.str "error", .str "REF"]))
    (clines_of : Cl P w K mg base 1 "lines_of" (spLines K)) (cranks_of : Cl P w K mg base 1 "ranks_of" (spRanks K)) (crange_of : Cl P w K mg base 1 "range_of" (spRangeOf K)) : Cl P w K mg base (kC + 1) "restructured_area" (spRA K o c f1 c1 q1) := by
  refine mk_cl F sc_restructured_area (fun _ _ _ _ _ _ us hl => match us, hl with | [_, _, _, _, _], _ => rfl) (fun _ => rfl) 6 rfl fun f cdv A outer s H Q z hr hp hq => ?_
  obtain ⟨p, a⟩ := z
  obtain ⟨hs, hc1⟩ := hp
  dsimp only at hs hc1 hq
  have hkC : kC ≤ kC := Nat.le_refl _
  refine ⟨_, ((pss_cons (ps_set (i := 5) sc_restructured_area.nd rfl (Or.inl rfl) (pe_ix ix_tup (pv 0) pe_int (fun _ _ => rfl)))
      (C8.pss_cut (ps_set (i := 6) sc_restructured_area.nd rfl (Or.inl rfl) (pe_ifExp (pt_cmpR op_isNn (pe_ix ix_tup (pv 0) pe_int (fun _ _ => rfl)) pe_non (nomark _)) (pv 1) (pe_ix ix_tup (pv 0) pe_int (fun _ _ => rfl))))
      (pss_cons (ps_if (PW.pt (pw_or (pt_cmpR op_ne (pv 6) (pv 2) (nomark _)) (pw_or1 (pt_cmpR op_eq (pv 5) (pe_ifExp (pt_val (pv 3)) pe_str pe_str) (nomark _))))) (pss_one (ps_ret (pv 0))) pss_nil)
      (pss_cons (ps_if (pt_cmpR op_eq (pv 5) pe_str (nomark _)) (pss_cons (ps_set (i := 7) sc_restructured_area.nd rfl (Or.inl rfl) (pe_ifExp (pt_val (pv 3)) (pe_ix ix_tup (pv 0) pe_int (fun _ _ => rfl)) (pe_ix ix_tup (pv 0) pe_int (fun _ _ => rfl))))
      (pss_cons (ps_set (i := 8) sc_restructured_area.nd rfl (Or.inl rfl) (pe_deed (i := 4) C hr hkC rfl (Or.inl rfl) (pa_cons (pv 7) (pa_cons (pv 7) pa_nil))))
      (pss_cons (ps_if (pt_cmpR op_isNn (pv 8) pe_non (nomark _)) (pss_one (ps_ret (pe_glob (by rfl) gLOST.1 gLOST.2))) pss_nil)
      (pss_cons (ps_if (pt_val (pv 3)) (pss_one (ps_ret (pe_op op_catA (pe_op op_catA (pe_slice sl_tupA (pv 0) po_none (po_some pe_int)) (pe_tup (pa_cons (pe_ix ix_tup (pv 8) pe_int (fun _ _ => rfl)) pa_nil))) (pe_slice sl_tupA (pv 0) (po_some pe_int) po_none)))) pss_nil)
      (pss_one (ps_ret (pe_op op_catA (pe_op op_catA (pe_slice sl_tupA (pv 0) po_none (po_some pe_int)) (pe_tup (pa_cons (pe_ix ix_tup (pv 8) pe_int (fun _ _ => rfl)) pa_nil))) (pe_slice sl_tupA (pv 0) (po_some pe_int) po_none)))))))) pss_nil)
      (pss_cons (ps_set (i := 9) sc_restructured_area.nd rfl (Or.inl rfl) (pe_ifExp (pt_val (pv 3)) (pe_cl clines_of hr (by omega) (by rfl) (pa_cons (pv 0) pa_nil)) (pe_cl cranks_of hr (by omega) (by rfl) (pa_cons (pv 0) pa_nil))))
      (pss_cons (ps_set (i := 8) sc_restructured_area.nd rfl (Or.inl rfl) (pe_deed (i := 4) C hr hkC rfl (Or.inl rfl) (pa_cons (pe_ix ix_tup (pv 9) pe_int (fun _ _ => rfl)) (pa_cons (pe_ix ix_tup (pv 9) pe_int (fun _ _ => rfl)) pa_nil))))
      (pss_cons (ps_if (pt_cmpR op_isNn (pv 8) pe_non (nomark _)) (pss_one (ps_ret (pe_glob (by rfl) gLOST.1 gLOST.2))) pss_nil)
      (pss_cons (ps_set (i := 10) sc_restructured_area.nd rfl (Or.inl rfl) (pe_op op_catA (pv 8) (pe_slice sl_tupA (pv 9) (po_some pe_int) po_none)))
      (pss_cons (ps_if (pt_cmpR op_ne (pv 5) pe_str (nomark _)) (pss_one (ps_ret (pe_op op_catA (pe_tup (pa_cons (pv 5) (pa_cons (pe_ix ix_tup (pv 0) pe_int (fun _ _ => rfl)) pa_nil))) (pv 10)))) pss_nil)
      (pss_cons (ps_if (pt_val (pv 3)) (pss_one (ps_ret (pe_cl crange_of hr (by omega) (by rfl) (pa_cons (pe_ix ix_tup (pv 0) pe_int (fun _ _ => rfl)) (pa_cons (pv 10) (pa_cons (pe_cl cranks_of hr (by omega) (by rfl) (pa_cons (pv 0) pa_nil)) pa_nil)))))) pss_nil)
      (pss_one (ps_ret (pe_cl crange_of hr (by omega) (by rfl) (pa_cons (pe_ix ix_tup (pv 0) pe_int (fun _ _ => rfl)) (pa_cons (pe_cl clines_of hr (by omega) (by rfl) (pa_cons (pv 0) pa_nil)) (pa_cons (pv 10) pa_nil))))))))))))))))), ?_⟩
  obtain ⟨own, key, at', many, rows⟩ := c
  generalize hc : Cut.mk own key at' many rows = c at *
  have ek : c.key = key := by rw [← hc]
  have er : c.rows = rows := by rw [← hc]
  rw [ek, er]
  have sh1 : ∀ (sh : Option Int), sV sh = .non → sV o = sV (sh.or o) := fun sh h => by cases sh with | none => rfl | some i => cases h
  have sh2 : ∀ (sh : Option Int), ¬ sV sh = .non → sV sh = sV (sh.or o) := fun sh h => by cases sh with | none => exact absurd rfl h | some i => rfl
  have hsc : ∀ so : Option Int, scal (sV so) (.int key) = true := fun so => by cases so <;> rfl
  have hkey : ∀ {so : Option Int}, sV so = .int key → so = some c.key := fun {so} h => by
    rw [ek]
    cases so with
    | none => cases h
    | some i => cases h; rfl
  have stay : ¬ (a.sh.or o = some c.key ∧ a.on c.rows = true) → Q (.ref p) H := fun h => hq _ _ ⟨Same.refl _, by
    unfold moved
    rw [if_neg h]
    exact Ar.dt hs⟩
  have stay1 : ¬ sV (a.sh.or o) = .int key → Q (.ref p) H := fun h => stay fun ⟨h1, _⟩ => h (by rw [h1, ek]; rfl)
  have mvN : a.sh.or o = some c.key → a.on c.rows = true → insP c (a.lo c.rows) (a.hi c.rows) = none → ∀ H1, Same H H1 → Q (.ref aL) H1 := fun h1 h2 h3 H1 s => hq _ _ ⟨s, by
    unfold moved
    rw [if_pos ⟨h1, h2⟩, h3]
    exact hLOST H1⟩
  have mvS : ∀ {x y : Nat}, a.sh.or o = some c.key → a.on c.rows = true → insP c (a.lo c.rows) (a.hi c.rows) = some (x, y) → ∀ H1 l, Same H H1 → SqT K H1 l (a.put c.rows x y).vs → Q (.ref l) H1 := fun h1 h2 h3 H1 l s hl => hq _ _ ⟨s, by
    unfold moved
    rw [if_pos ⟨h1, h2⟩, h3]
    exact Ar.dt hl⟩
  rw [er] at stay mvN mvS
  cases a with
  | cell sh r cc f' g =>
    unfold Ar.vs at hs
    walk_at "go"
    refine r_cut (Mid := fun σ' H' => σ' = [some (.ref p), some (sV o), some (.int key), some (.bl rows), some (.ref f1), some (.str "cell"), some (sV (sh.or o)), none, none, none, none] ∧ H' = H) ?_ ?_
    · walk_at "s"
      refine i2 (fun h => ?_) (fun h => ?_)
      · walk_at "s"
        exact ⟨by rw [sh1 _ h], rfl⟩
      · walk_at "s"
        exact ⟨by rw [← sh2 _ h], rfl⟩
    rintro σ' H' ⟨rfl, rfl⟩
    walk_at "s"
    refine r_ne (hsc _) ?_
    walk_at "s"
    refine i2n (fun h => ?_) (fun h => ?_)
    · walk_at "s"
      exact stay1 h
    have hk := hkey h
    cases rows with
    | true =>
      walk_at "s"
      repeat walk_at "k"
      refine ⟨rfl, ?_⟩
      walk_at "s"
      refine ⟨hc1, (r, r), rfl, trivial, ?_⟩
      rintro v H1 ⟨s1, hv⟩
      cases hI : insP c r r with
      | none =>
        rw [hI] at hv
        subst hv
        walk_at "s"
        walk_at "k"
        exact mvN hk rfl hI _ s1
      | some xy =>
        obtain ⟨x, y⟩ := xy
        rw [hI] at hv
        obtain ⟨q, rfl, hq1⟩ := hv
        have hs1 := s1.seqT hs
        walk_at "s"
        repeat walk_at "k"
        refine r_slT hs1 fun l2 H2 s2 hl2 => ?_
        have hq2 := s2 _ _ hq1
        walk_at "s"
        refine n_tup (szr rfl) fun l3 H3 n3 s3 hl3 => ?_
        refine r_catT (s3.seqT hl2) (SqT.of hl3) (Nat.le_of_ble_eq_true rfl) fun l4 H4 s4 hl4 => ?_
        have hs4 := s4.seqT (s3.seqT (s2.seqT hs1))
        walk_at "s"
        refine r_slT hs4 fun l5 H5 s5 hl5 => ?_
        refine r_catT (s5.seqT hl4) hl5 (Nat.le_of_ble_eq_true rfl) fun l6 H6 s6 hl6 => ?_
        exact mvS hk rfl hI _ _ (((((s1.trans s2).trans s3).trans s4).trans s5).trans s6) hl6
    | false =>
      walk_at "s"
      repeat walk_at "k"
      refine ⟨rfl, ?_⟩
      walk_at "s"
      refine ⟨hc1, (cc, cc), rfl, trivial, ?_⟩
      rintro v H1 ⟨s1, hv⟩
      cases hI : insP c cc cc with
      | none =>
        rw [hI] at hv
        subst hv
        walk_at "s"
        walk_at "k"
        exact mvN hk rfl hI _ s1
      | some xy =>
        obtain ⟨x, y⟩ := xy
        rw [hI] at hv
        obtain ⟨q, rfl, hq1⟩ := hv
        have hs1 := s1.seqT hs
        walk_at "s"
        repeat walk_at "k"
        refine r_slT hs1 fun l2 H2 s2 hl2 => ?_
        have hq2 := s2 _ _ hq1
        walk_at "s"
        refine n_tup (szr rfl) fun l3 H3 n3 s3 hl3 => ?_
        refine r_catT (s3.seqT hl2) (SqT.of hl3) (Nat.le_of_ble_eq_true rfl) fun l4 H4 s4 hl4 => ?_
        have hs4 := s4.seqT (s3.seqT (s2.seqT hs1))
        walk_at "s"
        refine r_slT hs4 fun l5 H5 s5 hl5 => ?_
        refine r_catT (s5.seqT hl4) hl5 (Nat.le_of_ble_eq_true rfl) fun l6 H6 s6 hl6 => ?_
        exact mvS hk rfl hI _ _ (((((s1.trans s2).trans s3).trans s4).trans s5).trans s6) hl6
  | range sh t l b r f' g h' i =>
    unfold Ar.vs at hs
    walk_at "go"
    refine r_cut (Mid := fun σ' H' => σ' = [some (.ref p), some (sV o), some (.int key), some (.bl rows), some (.ref f1), some (.str "range"), some (sV (sh.or o)), none, none, none, none] ∧ H' = H) ?_ ?_
    · walk_at "s"
      refine i2 (fun h => ?_) (fun h => ?_)
      · walk_at "s"
        exact ⟨by rw [sh1 _ h], rfl⟩
      · walk_at "s"
        exact ⟨by rw [← sh2 _ h], rfl⟩
    rintro σ' H' ⟨rfl, rfl⟩
    walk_at "s"
    refine r_ne (hsc _) ?_
    walk_at "s"
    refine i2n (fun h => ?_) (fun h => ?_)
    · walk_at "s"
      exact stay1 h
    have hk := hkey h
    cases rows with
    | true =>
      walk_at "s"
      repeat walk_at "k"
      refine ⟨(p, (.range sh t l b r f' g h' i)), rfl, ⟨hs, fun h => nomatch h⟩, ?_⟩
      rintro _ H0 ⟨s0, q0, rfl, hq0⟩
      have hq0 : H0 q0 = some (.tup [.int (t : Nat), .int (b : Nat), .bl f', .bl h']) := hq0
      have hs0 := s0.seqT hs
      walk_at "s"
      refine ⟨rfl, ?_⟩
      walk_at "s"
      refine ⟨s0 _ _ hc1, (t, b), rfl, trivial, ?_⟩
      rintro v H1 ⟨s1, hv⟩
      cases hI : insP c t b with
      | none =>
        rw [hI] at hv
        subst hv
        walk_at "s"
        walk_at "k"
        exact mvN hk rfl hI _ (s0.trans s1)
      | some xy =>
        obtain ⟨x, y⟩ := xy
        rw [hI] at hv
        obtain ⟨q, rfl, hq1⟩ := hv
        have hs1 := s1.seqT hs0
        walk_at "s"
        walk_at "k"
        refine r_slT (SqT.of (s1 _ _ hq0)) fun l2 H2 s2 hl2 => ?_
        refine r_catT (SqT.of (s2 _ _ hq1)) hl2 (Nat.le_of_ble_eq_true rfl) fun l3 H3 s3 hl3 => ?_
        have hl3 : SqT K H3 l3 [.int (x : Nat), .int (y : Nat), .bl f', .bl h'] := hl3
        have hs3 := s3.seqT (s2.seqT hs1)
        walk_at "s"
        repeat walk_at "k"
        refine ⟨(p, .range sh t l b r f' g h' i), rfl, ⟨hs3, fun h => nomatch h⟩, ?_⟩
        rintro _ H4 ⟨s4, q4, rfl, hq4⟩
        walk_at "s"
        refine ⟨⟨sV sh, l3, q4, .int (x : Nat), .int (y : Nat), .bl f', .bl h', .int (l : Nat), .int (r : Nat), .bl g, .bl i⟩, rfl, ⟨s4.seqT hl3, SqT.of hq4⟩, ?_⟩
        rintro _ H5 ⟨s5, q5, rfl, hq5⟩
        exact mvS hk rfl hI _ _ (((((s0.trans s1).trans s2).trans s3).trans s4).trans s5) (SqT.of hq5)
    | false =>
      walk_at "s"
      repeat walk_at "k"
      refine ⟨(p, (.range sh t l b r f' g h' i)), rfl, ⟨hs, fun h => nomatch h⟩, ?_⟩
      rintro _ H0 ⟨s0, q0, rfl, hq0⟩
      have hq0 : H0 q0 = some (.tup [.int (l : Nat), .int (r : Nat), .bl g, .bl i]) := hq0
      have hs0 := s0.seqT hs
      walk_at "s"
      refine ⟨rfl, ?_⟩
      walk_at "s"
      refine ⟨s0 _ _ hc1, (l, r), rfl, trivial, ?_⟩
      rintro v H1 ⟨s1, hv⟩
      cases hI : insP c l r with
      | none =>
        rw [hI] at hv
        subst hv
        walk_at "s"
        walk_at "k"
        exact mvN hk rfl hI _ (s0.trans s1)
      | some xy =>
        obtain ⟨x, y⟩ := xy
        rw [hI] at hv
        obtain ⟨q, rfl, hq1⟩ := hv
        have hs1 := s1.seqT hs0
        walk_at "s"
        walk_at "k"
        refine r_slT (SqT.of (s1 _ _ hq0)) fun l2 H2 s2 hl2 => ?_
        refine r_catT (SqT.of (s2 _ _ hq1)) hl2 (Nat.le_of_ble_eq_true rfl) fun l3 H3 s3 hl3 => ?_
        have hl3 : SqT K H3 l3 [.int (x : Nat), .int (y : Nat), .bl g, .bl i] := hl3
        have hs3 := s3.seqT (s2.seqT hs1)
        walk_at "s"
        repeat walk_at "k"
        refine ⟨(p, .range sh t l b r f' g h' i), rfl, ⟨hs3, fun h => nomatch h⟩, ?_⟩
        rintro _ H4 ⟨s4, q4, rfl, hq4⟩
        walk_at "s"
        refine ⟨⟨sV sh, q4, l3, .int (t : Nat), .int (b : Nat), .bl f', .bl h', .int (x : Nat), .int (y : Nat), .bl g, .bl i⟩, rfl, ⟨SqT.of hq4, s4.seqT hl3⟩, ?_⟩
        rintro _ H5 ⟨s5, q5, rfl, hq5⟩
        exact mvS hk rfl hI _ _ (((((s0.trans s1).trans s2).trans s3).trans s4).trans s5) (SqT.of hq5)
  | rows sh t b f' g =>
    unfold Ar.vs at hs
    walk_at "go"
    refine r_cut (Mid := fun σ' H' => σ' = [some (.ref p), some (sV o), some (.int key), some (.bl rows), some (.ref f1), some (.str "rows"), some (sV (sh.or o)), none, none, none, none] ∧ H' = H) ?_ ?_
    · walk_at "s"
      refine i2 (fun h => ?_) (fun h => ?_)
      · walk_at "s"
        exact ⟨by rw [sh1 _ h], rfl⟩
      · walk_at "s"
        exact ⟨by rw [← sh2 _ h], rfl⟩
    rintro σ' H' ⟨rfl, rfl⟩
    walk_at "s"
    refine r_ne (hsc _) ?_
    walk_at "s"
    refine i2n (fun h => ?_) (fun h => ?_)
    · walk_at "s"
      exact stay1 h
    have hk := hkey h
    cases rows with
    | true =>
      walk_at "s"
      repeat walk_at "k"
      refine ⟨(p, (.rows sh t b f' g)), rfl, ⟨hs, fun h => nomatch h⟩, ?_⟩
      rintro _ H0 ⟨s0, q0, rfl, hq0⟩
      have hq0 : H0 q0 = some (.tup [.int (t : Nat), .int (b : Nat), .bl f', .bl g]) := hq0
      have hs0 := s0.seqT hs
      walk_at "s"
      refine ⟨rfl, ?_⟩
      walk_at "s"
      refine ⟨s0 _ _ hc1, (t, b), rfl, trivial, ?_⟩
      rintro v H1 ⟨s1, hv⟩
      cases hI : insP c t b with
      | none =>
        rw [hI] at hv
        subst hv
        walk_at "s"
        walk_at "k"
        exact mvN hk rfl hI _ (s0.trans s1)
      | some xy =>
        obtain ⟨x, y⟩ := xy
        rw [hI] at hv
        obtain ⟨q, rfl, hq1⟩ := hv
        have hs1 := s1.seqT hs0
        walk_at "s"
        walk_at "k"
        refine r_slT (SqT.of (s1 _ _ hq0)) fun l2 H2 s2 hl2 => ?_
        refine r_catT (SqT.of (s2 _ _ hq1)) hl2 (Nat.le_of_ble_eq_true rfl) fun l3 H3 s3 hl3 => ?_
        have hl3 : SqT K H3 l3 [.int (x : Nat), .int (y : Nat), .bl f', .bl g] := hl3
        have hs3 := s3.seqT (s2.seqT hs1)
        walk_at "s"
        repeat walk_at "k"
        refine n_tup (szr rfl) fun q4 H4 n4 s4 hq4 => ?_
        walk_at "s"
        refine r_catT (SqT.of hq4) (s4.seqT hl3) (Nat.le_of_ble_eq_true rfl) fun l5 H5 s5 hl5 => ?_
        exact mvS hk rfl hI _ _ (((((s0.trans s1).trans s2).trans s3).trans s4).trans s5) hl5
    | false =>
      walk_at "s"
      repeat walk_at "k"
      exact stay fun ⟨_, h2⟩ => by cases h2
  | cols sh l r f' g =>
    unfold Ar.vs at hs
    walk_at "go"
    refine r_cut (Mid := fun σ' H' => σ' = [some (.ref p), some (sV o), some (.int key), some (.bl rows), some (.ref f1), some (.str "columns"), some (sV (sh.or o)), none, none, none, none] ∧ H' = H) ?_ ?_
    · walk_at "s"
      refine i2 (fun h => ?_) (fun h => ?_)
      · walk_at "s"
        exact ⟨by rw [sh1 _ h], rfl⟩
      · walk_at "s"
        exact ⟨by rw [← sh2 _ h], rfl⟩
    rintro σ' H' ⟨rfl, rfl⟩
    walk_at "s"
    refine r_ne (hsc _) ?_
    walk_at "s"
    refine i2n (fun h => ?_) (fun h => ?_)
    · walk_at "s"
      exact stay1 h
    have hk := hkey h
    cases rows with
    | false =>
      walk_at "s"
      repeat walk_at "k"
      refine ⟨(p, (.cols sh l r f' g)), rfl, ⟨hs, fun h => nomatch h⟩, ?_⟩
      rintro _ H0 ⟨s0, q0, rfl, hq0⟩
      have hq0 : H0 q0 = some (.tup [.int (l : Nat), .int (r : Nat), .bl f', .bl g]) := hq0
      have hs0 := s0.seqT hs
      walk_at "s"
      refine ⟨rfl, ?_⟩
      walk_at "s"
      refine ⟨s0 _ _ hc1, (l, r), rfl, trivial, ?_⟩
      rintro v H1 ⟨s1, hv⟩
      cases hI : insP c l r with
      | none =>
        rw [hI] at hv
        subst hv
        walk_at "s"
        walk_at "k"
        exact mvN hk rfl hI _ (s0.trans s1)
      | some xy =>
        obtain ⟨x, y⟩ := xy
        rw [hI] at hv
        obtain ⟨q, rfl, hq1⟩ := hv
        have hs1 := s1.seqT hs0
        walk_at "s"
        walk_at "k"
        refine r_slT (SqT.of (s1 _ _ hq0)) fun l2 H2 s2 hl2 => ?_
        refine r_catT (SqT.of (s2 _ _ hq1)) hl2 (Nat.le_of_ble_eq_true rfl) fun l3 H3 s3 hl3 => ?_
        have hl3 : SqT K H3 l3 [.int (x : Nat), .int (y : Nat), .bl f', .bl g] := hl3
        have hs3 := s3.seqT (s2.seqT hs1)
        walk_at "s"
        repeat walk_at "k"
        refine n_tup (szr rfl) fun q4 H4 n4 s4 hq4 => ?_
        walk_at "s"
        refine r_catT (SqT.of hq4) (s4.seqT hl3) (Nat.le_of_ble_eq_true rfl) fun l5 H5 s5 hl5 => ?_
        exact mvS hk rfl hI _ _ (((((s0.trans s1).trans s2).trans s3).trans s4).trans s5) hl5
    | true =>
      walk_at "s"
      repeat walk_at "k"
      exact stay fun ⟨_, h2⟩ => by cases h2
end
end Sw

set_option maxHeartbeats 4000000
namespace Sw
open PySem PySem.Spec PyProof.Rows L2 C8 LamX
local macro_rules | `(tactic| walk_at "v") => `(tactic| (with_reducible show tVar _ _ _ _; with_unfolding_all refine r_var rfl ?_))
local macro_rules | `(tactic| walk_at "x") => `(tactic| ((first | with_reducible refine r_ixTc (xs := ?xs) (v := ?v) ?hl ?e ?h | with_reducible refine r_ixLc (xs := ?xs) (v := ?v) ?hl ?e ?h); (case hl => first | assumption | exact SqT.of (by assumption) | exact SqL.of (by assumption)); (case e => first | rfl | assumption | exact atI_zero)))
local macro_rules | `(tactic| walk_at "n") => `(tactic| ((first | with_reducible refine r_mod ?hj (fun _ _ _ => ?_) | with_reducible refine r_mul ?hj ?_ | with_reducible refine r_div ?hj ?hd ?_ | with_reducible refine r_pow ?hj ?_); (case hj => first | (with_reducible show (0 : Int) < _; first | decide | omega) | exact ⟨by decide, by decide, by decide⟩ | exact .inr ⟨by decide, by decide⟩ | exact .inl ⟨by decide, by decide⟩ | exact .inl ⟨by omega, by omega⟩ | exact .inr ⟨by omega, by omega⟩); (try case hd => first | decide | omega)))
local macro_rules | `(tactic| walk_at "s0") => `(tactic| first
  | with_reducible refine r_seq ?_ | with_reducible refine r_asg ?_ | ((with_reducible refine r_gname ?_); dsimp only [List.set_cons_succ, List.set_cons_zero, List.set]) | with_reducible refine r_ret ?_ | with_reducible refine r_drop ?_ | with_reducible refine r_if ?_
  | with_reducible refine r_test ?_ | with_reducible refine r_B ?_ | with_reducible refine r_op ?_ | with_reducible refine r_cons ?_ | with_reducible refine r_nil ?_ | with_reducible refine r_c ?_ | walk_at "v"
  | with_reducible refine r_cl ?_ | with_reducible refine r_cb ?_ | with_reducible refine r_I0 ?_ | with_reducible refine r_bl ?_ | ((with_reducible refine r_eq ?hs ?_); (case hs => rfl)) | ((with_reducible refine r_ne ?hs ?_); (case hs => rfl))
  | with_reducible refine r_un ?_ | with_reducible refine r_neg ?_ | with_reducible refine r_int ?_ | with_reducible refine r_intB ?_ | with_reducible refine r_min2 ?_ | with_reducible refine r_max2 ?_
  | with_reducible refine r_tup ?_ | with_reducible refine r_lst ?_ | with_reducible refine r_not ?_ | with_reducible refine r_ifE ?_
  | with_reducible refine r_andV ?_ | with_reducible refine r_orV ?_ | with_reducible refine r_notV ?_ | with_reducible refine r_next ?_ | with_reducible refine r_brk ?_ | with_reducible refine r_for ?_ | with_reducible refine r_slc ?_ | with_reducible refine r_nop ?_ | with_reducible refine r_part ?_ | with_reducible refine r_ei ?_ | with_reducible refine r_bm ?_ | with_reducible refine r_isN ?_ | with_reducible refine r_notN ?_ | with_reducible refine r_m1 ?_ | with_reducible refine r_lc ?_ | with_reducible refine r_rng1 ?_ | with_reducible refine r_rng2 ?_ | with_reducible refine r_ilist ?_ | with_reducible refine r_itup ?_ | with_reducible refine iteT ?_ | with_reducible refine iteF ?_ | with_reducible refine r_sub ?_ | walk_at "n" | walk_at "x")
local macro_rules | `(tactic| walk_at "s1") => `(tactic| first | walk_at "s0" | with_reducible refine r_and ?_ | with_reducible refine r_or ?_)
local macro_rules | `(tactic| walk_at "u") => `(tactic| (try dsimp only); repeat walk_at "s0")
local macro_rules | `(tactic| walk_at "pt") => `(tactic| first
  | ((with_reducible refine r_and2 (a := ?a) (b := ?b) ?h1 ?h2 ?h); (case h1 => intro _ q; walk_at "pt"; exact q); (case h2 => intro _ q; walk_at "pt"; exact q); (try dsimp only))
  | ((with_reducible refine r_or2 (a := ?a) (b := ?b) ?h1 ?h2 ?h); (case h1 => intro _ q; walk_at "pt"; exact q); (case h2 => intro _ q; walk_at "pt"; exact q); (try dsimp only))
  | walk_at "u")
local macro_rules | `(tactic| walk_at "s") => `(tactic| (try dsimp only); repeat walk_at "s1")
local macro_rules | `(tactic| walk_at "go") => `(tactic| (try simp only [cxK, cxK2]); (try simp only [List.map_cons, List.map_nil, List.replicate, List.cons_append, List.nil_append]); walk_at "s")
local macro_rules | `(tactic| walk_at "t") => `(tactic| ((try dsimp only); (try with_reducible refine iteT ?_); (try dsimp only)))

local macro_rules | `(tactic| walk_at "k") => `(tactic| ((try dsimp only); (first | refine kF (by decide +kernel) ?_ | refine kT (by decide +kernel) ?_ | refine kF (decide_eq_false (fun h => by cases h)) ?_ | refine kT (decide_eq_true rfl) ?_); walk_at "s"))
theorem Pr.snoc {α β : Type} {R : α → β → Prop} {a : α} {b : β} : ∀ {as : List α} {bs : List β}, Pr R as bs → R a b → Pr R (as ++ [a]) (bs ++ [b])
  | [], [], _, h => ⟨h, trivial⟩
  | _ :: _, _ :: _, ⟨h1, h2⟩, h => ⟨h1, Pr.snoc h2 h⟩
  | [], _ :: _, h, _ => h.elim
  | _ :: _, [], h, _ => h.elim
theorem DtA.snoc {K : PySem.W.Frag} {H : Hp} {v : V} {d : PyData} : ∀ {vs : List V} {ds : List PyData}, DtA K H vs ds → Dt K H v d → DtA K H (vs ++ [v]) (ds ++ [d])
  | _, _, .nil, h => .cons h .nil
  | _, _, .cons a t, h => .cons a (DtA.snoc t h)
/-- a tree after a move is a tree -/
theorem moved_wf {o : Option Int} {c : Cut} {a : Ar} {n : Nat} (hat : c.at' < c.n) (hok : a.ok) : WF (n + 1) (moved o c a) := by
  unfold moved
  split
  · rename_i h
    have hlt : a.hi c.rows < c.n := hi_lt hok h.2
    cases hI : insP c (a.lo c.rows) (a.hi c.rows) with
    | none => exact .inr (.inl (ScD.leaf ⟨_, _, rfl, by decide, trivial⟩))
    | some xy =>
      obtain ⟨x, y⟩ := xy
      obtain ⟨_, h1, h2, _⟩ := due_some hat (lo_hi hok _) hlt hI
      exact .inl (Ar.area (put_ok hok h.2 h1 h2))
  · exact .inl (Ar.area hok)
theorem trees_head {n : Nat} {ds : List PyData} (h : ∀ d ∈ ds, WF n d) : headOk ds := by
  cases ds with
  | nil => trivial
  | cons d r =>
    obtain ⟨k, x, rfl⟩ := (h d List.mem_cons_self).head
    trivial
theorem names_pl {ws : List Str} (h : ∀ w ∈ ws, NmOk w) : Pl 2 (.tuple (List.map PyData.str ws)) := by
  refine Pl.tup ?_ fun d hd => ?_
  · cases ws with
    | nil => trivial
    | cons w r => exact h w List.mem_cons_self
  · obtain ⟨w, _, rfl⟩ := List.mem_map.mp hd
    exact Pl.flat trivial
section
variable {P : Program} {w : World} {K : PySem.W.Frag} {mg : Str → Option Value} {base : Heap}
/-- the deed on the nodes, as the lambda of restructured -/
def spNd (K : PySem.W.Frag) (o : Option Int) (c : Cut) (c1 : Addr) (q1 : Str) : Sp := Spc (Addr × Ar) (fun z => [.ref z.1]) (fun z H => SqT K H z.1 z.2.vs ∧ H c1 = some (CodeO c1 q1))
  fun z H v H' => Same H H' ∧ Dt K H' v (moved o c z.2)
def Cd (H : Hp) (c1 c2 : Addr) (q1 q2 : Str) : Prop := H c1 = some (CodeO c1 q1) ∧ H c2 = some (CodeO c2 q2)
theorem Cd.up {H H' : Hp} {c1 c2 : Addr} {q1 q2 : Str} (s : Same H H') (h : Cd H c1 c2 q1 q2) : Cd H' c1 c2 q1 q2 := ⟨s _ _ h.1, s _ _ h.2⟩
abbrev N_changed_areas : List Str := ["tree", "deed", "kind"]
theorem sc_changed_areas : FnScope N_changed_areas ["tree", "deed"] (defScope (topS 2)) := ⟨rfl, rfl, rfl, by decide +kernel, rfl, by decide +kernel, by decide +kernel⟩
def spCh (K : PySem.W.Frag) (o : Option Int) (c : Cut) (f2 c1 c2 : Addr) (q1 q2 : Str) (n : Nat) : Sp := Spc (V × PyData) (fun z => [z.1, .ref f2]) (fun z H => Dt K H z.1 z.2 ∧ WF n z.2 ∧ Cd H c1 c2 q1 q2)
  fun z H v H' => Same H H' ∧ ∃ d', Dt K H' v d' ∧ Fl (Mv o c) (2 * n + 3) z.2 d' ∧ WF n d'
abbrev N_changed_parts : List Str := ["trees", "deed", "changed", "tree"]
theorem sc_changed_parts : FnScope N_changed_parts ["trees", "deed"] (defScope (topS 3)) := ⟨rfl, rfl, rfl, by decide +kernel, rfl, by decide +kernel, by decide +kernel⟩
def spChP (K : PySem.W.Frag) (o : Option Int) (c : Cut) (f2 c1 c2 : Addr) (q1 q2 : Str) (n : Nat) : Sp := Spc (Addr × List V × List PyData) (fun z => [.ref z.1, .ref f2]) (fun z H => SqT K H z.1 z.2.1 ∧ DtA K H z.2.1 z.2.2 ∧ z.2.2.length ≤ 1000 ∧ (∀ d ∈ z.2.2, WF n d) ∧ Cd H c1 c2 q1 q2)
  fun z H v H' => Same H H' ∧ ∃ q vs' ds', v = .ref q ∧ H' q = some (.tup vs') ∧ DtA K H' vs' ds' ∧ Pr (Fl (Mv o c) (2 * n + 3)) z.2.2 ds' ∧ ∀ d ∈ ds', WF n d
variable {o : Option Int} {c : Cut} {f2 c1 c2 : Addr} {q1 q2 : Str} {kD : Nat}
theorem cl_changed_parts (F : Df K mg "changed_parts" 3) (B : Bi mg) {k n : Nat} (cchanged_areas : Cl P w K mg base k "changed_areas" (spCh K o c f2 c1 c2 q1 q2 n)) : Cl P w K mg base (k + 1) "changed_parts" (spChP K o c f2 c1 c2 q1 q2 n) := by
  refine mk_cl F sc_changed_parts (fun _ _ _ _ _ _ us hl => match us, hl with | [_, _], _ => rfl) (fun _ => rfl) 2 rfl fun f cdv A outer s H Q z hr hp hq => ?_
  obtain ⟨p, vs, ds⟩ := z
  obtain ⟨hs, hd, hl, hw, hc⟩ := hp
  dsimp only at hs hd hl hw hc hq
  refine ⟨_, ((pss_cons (ps_set (i := 2) sc_changed_parts.nd rfl (Or.inl rfl) (pe_lst pa_nil))
      (pss_cons (ps_for PassesOwn.never rfl (pi_tup (pv 0)) (pg_name (i := 3) sc_changed_parts.nd rfl (Or.inl rfl)) (pss_one (ps_expr (pe_bm PySem.F.plainAttrs_list PySem.F.slot_list_append PySem.F.type_list_append mt_append (pv 2) (pa_cons (pe_cl cchanged_areas hr (by omega) (by rfl) (pa_cons (pv 3) (pa_cons (pv 1) pa_nil))) pa_nil)))))
      (pss_one (ps_ret (pe_callTy cl_tuple (by rfl) B.ttuple (by decide +kernel) (pa_cons (pv 2) pa_nil))))))), ?_⟩
  have hvl := hd.length
  walk_at "go"
  refine n_lst (szr rfl) fun l H1 nl s1 hl1 => ?_
  walk_at "s"
  refine foT (s1.seqT hs) (fun i σ' H' => Same H H' ∧ ∃ (ws : List V) (es : List PyData) (t : Option V), σ' = [some (.ref p), some (.ref f2), some (.ref l), t] ∧ H' l = some (.lst ws) ∧ ws.length ≤ i ∧ DtA K H' ws es ∧ Pr (Fl (Mv o c) (2 * n + 3)) (ds.take i) es ∧ ∀ d ∈ es, WF n d) ⟨s1, [], [], _, rfl, hl1, Nat.le_refl _, .nil, by rw [List.take_zero]; trivial, fun d h => by cases h⟩ (fun i σ' H' ⟨s, _⟩ => s.seqT hs) ?_ ?_
  · rintro i x σ' H' hx ⟨s, ws, es, t, rfl, hw1, hwl, hda, hpr, hwf⟩
    obtain ⟨d, ed, hdx⟩ := hd.get' hx
    have hi : i < vs.length := (List.getElem?_eq_some_iff.mp hx).1
    walk_at "s"
    refine ⟨ty_list hw1, ?_⟩
    walk_at "s"
    refine ⟨(x, d), rfl, ⟨hdx.up s, hw d (List.mem_of_getElem? ed), hc.up s⟩, ?_⟩
    rintro v H2 ⟨s2, d', hd', hF, hwd⟩
    have hw2 := s2 _ _ hw1
    walk_at "s"
    refine r_app hw2 (by omega) ?_
    have ts := ts_upd (K := K) (o := .lst (ws ++ [v])) hw2
    walk_at "s"
    refine ⟨(s.trans s2).mut nl, _, es ++ [d'], _, rfl, upd_same, by rw [List.length_append]; show _ + 1 ≤ _; omega, ((hda.up s2).snoc hd').ts ts, ?_, fun e he => ?_⟩
    · have e : ds.take (i + 1) = ds.take i ++ [d] := by
        rw [List.take_succ, ed]
        rfl
      rw [e]
      exact hpr.snoc hF
    · rcases List.mem_append.mp he with he | he
      · exact hwf e he
      · rw [List.mem_singleton.mp he]; exact hwd
  · rintro σ' H' ⟨s, ws, es, t, rfl, hw1, hwl, hda, hpr, hwf⟩
    rw [List.take_of_length_le (by omega)] at hpr
    walk_at "s"
    refine r_tupL (SqL.of hw1) fun t2 H2 nt s2 ht2 => ?_
    exact hq _ _ ⟨s.trans s2, t2, ws, es, rfl, ht2, hda.up s2, hpr, hwf⟩
theorem cl_changed_areas {aK : Addr} (F : Df K mg "changed_areas" 2) (Fp : Df K mg "changed_parts" 3) (B : Bi mg) (hat : c.at' < c.n) (C : LmOk P w K mg base kD f2 c2 q2 (spNd K o c c1 q1)) (gAREA_KINDS : mg "AREA_KINDS" = some (.ref aK) ∧ RelV (.ref aK) (.ref aK)) (hKINDS : ∀ H, SqT K H aK (kinds4.map V.str)) :
    ∀ n, Cl P w K mg base (kD + 1 + 2 * n) "changed_areas" (spCh K o c f2 c1 c2 q1 q2 n)
  | 0 => by
    refine mk_cl F sc_changed_areas (fun _ _ _ _ _ _ us hl => match us, hl with | [_, _], _ => rfl) (fun _ => rfl) 1 rfl fun f cdv A outer s H Q z hr hp hq => ?_
    exact hp.2.1.elim
  | n + 1 => by
    have cA := cl_changed_areas F Fp B hat C gAREA_KINDS hKINDS n
    have cchanged_areas := cA.mono (k := kD + 1 + 2 * n + 1) (by omega)
    have cchanged_parts := cl_changed_parts Fp B cA
    have hkC : kD ≤ kD + 1 + 2 * n + 1 := by omega
    have e : kD + 1 + 2 * (n + 1) = (kD + 1 + 2 * n + 1) + 1 := by omega
    rw [e]
    refine mk_cl F sc_changed_areas (fun _ _ _ _ _ _ us hl => match us, hl with | [_, _], _ => rfl) (fun _ => rfl) 1 rfl fun f cdv A outer s H Q z hr hp hq => ?_
    obtain ⟨v0, d⟩ := z
    obtain ⟨hd, hw, hc⟩ := hp
    dsimp only at hd hw hc hq
    obtain ⟨p, xs, rfl, hs, hn⟩ := nv hd hw
    refine ⟨_, ((pss_cons (ps_set (i := 2) sc_changed_areas.nd rfl (Or.inl rfl) (pe_ix ix_tup (pv 0) pe_int (fun _ _ => rfl)))
      (pss_cons (ps_if (pt_cmpR op_in_seq (pv 2) (pe_glob (by rfl) gAREA_KINDS.1 gAREA_KINDS.2) (by rfl)) (pss_one (ps_ret (pe_deed (i := 1) C hr hkC rfl (Or.inl rfl) (pa_cons (pv 0) pa_nil)))) pss_nil)
      (pss_cons (ps_if (pt_cmpR op_eq (pv 2) pe_str (nomark _)) (pss_one (ps_ret (pe_tup (pa_cons pe_str (pa_cons (pe_ix ix_tup (pv 0) pe_int (fun _ _ => rfl)) (pa_cons (pe_cl cchanged_areas hr (by omega) (by rfl) (pa_cons (pe_ix ix_tup (pv 0) pe_int (fun _ _ => rfl)) (pa_cons (pv 1) pa_nil))) pa_nil)))))) pss_nil)
      (pss_cons (ps_if (pt_cmpR op_eq (pv 2) pe_str (nomark _)) (pss_one (ps_ret (pe_tup (pa_cons pe_str (pa_cons (pe_ix ix_tup (pv 0) pe_int (fun _ _ => rfl)) (pa_cons (pe_cl cchanged_areas hr (by omega) (by rfl) (pa_cons (pe_ix ix_tup (pv 0) pe_int (fun _ _ => rfl)) (pa_cons (pv 1) pa_nil))) (pa_cons (pe_cl cchanged_areas hr (by omega) (by rfl) (pa_cons (pe_ix ix_tup (pv 0) pe_int (fun _ _ => rfl)) (pa_cons (pv 1) pa_nil))) pa_nil))))))) pss_nil)
      (pss_cons (ps_if (pt_cmpR op_eq (pv 2) pe_str (nomark _)) (pss_one (ps_ret (pe_tup (pa_cons pe_str (pa_cons (pe_ix ix_tup (pv 0) pe_int (fun _ _ => rfl)) (pa_cons (pe_cl cchanged_parts hr (by omega) (by rfl) (pa_cons (pe_ix ix_tup (pv 0) pe_int (fun _ _ => rfl)) (pa_cons (pv 1) pa_nil))) pa_nil)))))) pss_nil)
      (pss_cons (ps_if (pt_cmpR op_eq (pv 2) pe_str (nomark _)) (pss_one (ps_ret (pe_tup (pa_cons pe_str (pa_cons (pe_ix ix_tup (pv 0) pe_int (fun _ _ => rfl)) (pa_cons (pe_cl cchanged_parts hr (by omega) (by rfl) (pa_cons (pe_ix ix_tup (pv 0) pe_int (fun _ _ => rfl)) (pa_cons (pv 1) pa_nil))) (pa_cons (pe_cl cchanged_areas hr (by omega) (by rfl) (pa_cons (pe_ix ix_tup (pv 0) pe_int (fun _ _ => rfl)) (pa_cons (pv 1) pa_nil))) pa_nil))))))) pss_nil)
      (pss_cons (ps_if (pt_cmpR op_eq (pv 2) pe_str (nomark _)) (pss_one (ps_ret (pe_tup (pa_cons pe_str (pa_cons (pe_ix ix_tup (pv 0) pe_int (fun _ _ => rfl)) (pa_cons (pe_cl cchanged_areas hr (by omega) (by rfl) (pa_cons (pe_ix ix_tup (pv 0) pe_int (fun _ _ => rfl)) (pa_cons (pv 1) pa_nil))) pa_nil)))))) pss_nil)
      (pss_cons (ps_if (pt_cmpR op_eq (pv 2) pe_str (nomark _)) (pss_one (ps_ret (pe_tup (pa_cons pe_str (pa_cons (pe_cl cchanged_areas hr (by omega) (by rfl) (pa_cons (pe_ix ix_tup (pv 0) pe_int (fun _ _ => rfl)) (pa_cons (pv 1) pa_nil))) (pa_cons (pe_cl cchanged_parts hr (by omega) (by rfl) (pa_cons (pe_ix ix_tup (pv 0) pe_int (fun _ _ => rfl)) (pa_cons (pv 1) pa_nil))) pa_nil)))))) pss_nil)
      (pss_one (ps_ret (pv 0)))))))))))), ?_⟩
    have hKi : ∀ {k : Str} {Q' : VK} {H' : Hp}, Q' (.bl (decide (k ∈ kinds4))) H' → rIn K false (.str k) (.ref aK) H' Q' := fun {k Q' H'} h => ⟨aK, _, rfl, .inr (hKINDS _), rfl, by decide, by
      rw [if_neg Bool.false_ne_true, inV_strs]
      exact h⟩
    have flS : ∀ s : Str, Fl (Mv o c) (2 * n + 4) (.str s) (.str s) := fun s => Fl.flat (n := 2 * n + 3) trivial
    have up : ∀ {d d' : PyData}, Fl (Mv o c) (2 * n + 3) d d' → Fl (Mv o c) (2 * n + 4) d d' := fun h => h.succ
    have fin : ∀ {H' : Hp} {q : Addr} {k : Str} {us : List V} {ds ds' : List PyData}, Same H H' → H' q = some (.tup us) → DtA K H' us (.str k :: ds') → d = .tuple (.str k :: ds) → k ∉ kinds4 → Pr (Fl (Mv o c) (2 * n + 4)) ds ds' → WF (n + 1) (.tuple (.str k :: ds')) → Q (.ref q) H' := fun {H' q k us ds ds'} s h1 h2 h3 h4 h5 h6 =>
      hq _ _ ⟨s, _, .tup (SqT.of h1) h2, .inr (.inr ⟨_, _, h3, rfl, h4, flS k, h5⟩), h6⟩
    cases hn with
    | @other k r ds hA hda =>
      have hne := notTree (hA.elim (fun h => .inl h.2) fun h => .inr h.2)
      have e1 := hne "sign" (by decide)
      have e2 := hne "lambda" (by decide)
      have e3 := hne "binary" (by decide)
      have e4 := hne "call" (by decide)
      have e5 := hne "let" (by decide)
      have e6 := hne "apply" (by decide)
      rcases hA with ⟨hA, hk⟩ | ⟨hA, hk⟩
      · obtain ⟨a, ea, hok⟩ := area_ar hA
        rw [ea] at hd
        walk_at "go"
        refine hKi ?_
        walk_at "s"
        refine kT (decide_eq_true hk) ?_
        walk_at "s"
        refine ⟨rfl, ?_⟩
        walk_at "s"
        obtain ⟨p', e', hs'⟩ := Ar.inv hd
        cases e'
        refine ⟨hc.2, (p, a), rfl, ⟨hs', hc.1⟩, ?_⟩
        rintro v H1 ⟨s1, hv⟩
        exact hq _ _ ⟨s1, _, hv, .inr (.inl ⟨a, ea, hok, rfl⟩), moved_wf hat hok⟩
      · walk_at "go"
        refine hKi ?_
        walk_at "s"
        refine kF (decide_eq_false (leaf_not hk)) ?_
        walk_at "s"
        repeat (refine kF (by assumption) ?_; walk_at "s")
        obtain ⟨_, _, _, _, hP⟩ := hA
        exact hq _ _ ⟨Same.refl _, _, hd, (hP _).mono (by omega), hw⟩
    | @sign s v d h1 h2 =>
      walk_at "go"
      refine hKi ?_
      walk_at "s"
      repeat walk_at "k"
      refine ⟨(v, d), rfl, ⟨h1, h2, hc⟩, ?_⟩
      rintro v' H1 ⟨s1, d', hd', hF, hwd⟩
      walk_at "s"
      refine n_tup (szr rfl) fun q H2 n2 s2 hq2 => ?_
      exact fin (s1.trans s2) hq2 (.cons (.str _) (.cons (.str _) (.cons (hd'.up s2) .nil))) rfl (by decide) ⟨flS _, up hF, trivial⟩ (.inr (.inr (.inl ⟨_, _, rfl, hwd⟩)))
    | @binary s v u d e h1 h2 h3 h4 =>
      walk_at "go"
      refine hKi ?_
      walk_at "s"
      repeat walk_at "k"
      refine ⟨(v, d), rfl, ⟨h1, h2, hc⟩, ?_⟩
      rintro v' H1 ⟨s1, d', hd', hF, hwd⟩
      have hs1 := s1.seqT hs
      walk_at "s"
      refine ⟨(u, e), rfl, ⟨h3.up s1, h4, hc.up s1⟩, ?_⟩
      rintro v2 H2 ⟨s2, e', he', hF2, hwe⟩
      walk_at "s"
      refine n_tup (szr rfl) fun q H3 n3 s3 hq3 => ?_
      exact fin ((s1.trans s2).trans s3) hq3 (.cons (.str _) (.cons (.str _) (.cons (hd'.up (s2.trans s3)) (.cons (he'.up s3) .nil)))) rfl (by decide) ⟨flS _, up hF, up hF2, trivial⟩ (.inr (.inr (.inr (.inl ⟨_, _, _, rfl, hwd, hwe⟩))))
    | @call s q vs ds h1 h2 h3 h4 =>
      walk_at "go"
      refine hKi ?_
      walk_at "s"
      repeat walk_at "k"
      refine ⟨(q, vs, ds), rfl, ⟨h1, h2, h3, h4, hc⟩, ?_⟩
      rintro _ H1 ⟨s1, q', vs', ds', rfl, hq', hda', hP, hwf⟩
      walk_at "s"
      refine n_tup (szr rfl) fun q3 H3 n3 s3 hq3 => ?_
      have hlen := hP.length
      dsimp only at hlen
      exact fin (s1.trans s3) hq3 (.cons (.str _) (.cons (.str _) (.cons (.tup (SqT.of (s3 _ _ hq')) (hda'.up s3)) .nil))) rfl (by decide) ⟨flS _, .inr (.inr ⟨_, _, rfl, rfl, trees_head h4, hP⟩), trivial⟩ (.inr (.inr (.inr (.inr (.inl ⟨_, _, rfl, by omega, hwf⟩)))))
    | @«let» ws x q vs ds v d h1 h2 h3 h4 h5 h6 h7 h8 =>
      walk_at "go"
      refine hKi ?_
      walk_at "s"
      repeat walk_at "k"
      refine ⟨(q, vs, ds), rfl, ⟨h3, h4, h5, h6, hc⟩, ?_⟩
      rintro _ H1 ⟨s1, q', vs', ds', rfl, hq', hda', hP, hwf⟩
      have hs1 := s1.seqT hs
      walk_at "s"
      refine ⟨(v, d), rfl, ⟨h7.up s1, h8, hc.up s1⟩, ?_⟩
      rintro v2 H2 ⟨s2, e', he', hF2, hwe⟩
      walk_at "s"
      refine n_tup (szr rfl) fun q3 H3 n3 s3 hq3 => ?_
      have hlen := hP.length
      dsimp only at hlen
      have s03 := (s1.trans s2).trans s3
      exact fin s03 hq3 (.cons (.str _) (.cons (h1.up s03) (.cons (.tup (SqT.of (s3 _ _ (s2 _ _ hq'))) (hda'.up (s2.trans s3))) (.cons (he'.up s3) .nil)))) rfl (by decide) ⟨(names_pl h2 _).mono (by omega), .inr (.inr ⟨_, _, rfl, rfl, trees_head h6, hP⟩), up hF2, trivial⟩
        (.inr (.inr (.inr (.inr (.inr (.inl ⟨_, _, _, rfl, h2, by omega, hwf, hwe⟩))))))
    | @lambda ws x v d h1 h2 h3 h4 =>
      walk_at "go"
      refine hKi ?_
      walk_at "s"
      repeat walk_at "k"
      refine ⟨(v, d), rfl, ⟨h3, h4, hc⟩, ?_⟩
      rintro v' H1 ⟨s1, d', hd', hF, hwd⟩
      walk_at "s"
      refine n_tup (szr rfl) fun q H2 n2 s2 hq2 => ?_
      exact fin (s1.trans s2) hq2 (.cons (.str _) (.cons (h1.up (s1.trans s2)) (.cons (hd'.up s2) .nil))) rfl (by decide) ⟨(names_pl h2 _).mono (by omega), up hF, trivial⟩ (.inr (.inr (.inr (.inr (.inr (.inr (.inl ⟨_, _, rfl, h2, hwd⟩)))))))
    | @apply q vs ds v d h1 h2 h3 h4 h5 h6 =>
      walk_at "go"
      refine hKi ?_
      walk_at "s"
      repeat walk_at "k"
      refine ⟨(v, d), rfl, ⟨h1, h2, hc⟩, ?_⟩
      rintro v' H1 ⟨s1, d', hd', hF, hwd⟩
      have hs1 := s1.seqT hs
      walk_at "s"
      refine ⟨(q, vs, ds), rfl, ⟨s1.seqT h3, h4.up s1, h5, h6, hc.up s1⟩, ?_⟩
      rintro _ H2 ⟨s2, q', vs', ds', rfl, hq', hda', hP, hwf⟩
      walk_at "s"
      refine n_tup (szr rfl) fun q3 H3 n3 s3 hq3 => ?_
      have hlen := hP.length
      dsimp only at hlen
      exact fin ((s1.trans s2).trans s3) hq3 (.cons (.str _) (.cons (hd'.up (s2.trans s3)) (.cons (.tup (SqT.of (s3 _ _ hq')) (hda'.up s3)) .nil))) rfl (by decide) ⟨up hF, .inr (.inr ⟨_, _, rfl, rfl, trees_head h6, hP⟩), trivial⟩
        (.inr (.inr (.inr (.inr (.inr (.inr (.inr ⟨_, _, rfl, hwd, by omega, hwf⟩)))))))
end
end Sw

set_option maxHeartbeats 4000000
namespace Sw
open PySem PySem.Spec PyProof.Rows L2 C8 LamX NdefX
local macro_rules | `(tactic| walk_at "v") => `(tactic| (with_reducible show tVar _ _ _ _; with_unfolding_all refine r_var rfl ?_))
local macro_rules | `(tactic| walk_at "x") => `(tactic| ((first | with_reducible refine r_ixTc (xs := ?xs) (v := ?v) ?hl ?e ?h | with_reducible refine r_ixLc (xs := ?xs) (v := ?v) ?hl ?e ?h); (case hl => first | assumption | exact SqT.of (by assumption) | exact SqL.of (by assumption)); (case e => first | rfl | assumption | exact atI_zero)))
local macro_rules | `(tactic| walk_at "n") => `(tactic| ((first | with_reducible refine r_mod ?hj (fun _ _ _ => ?_) | with_reducible refine r_mul ?hj ?_ | with_reducible refine r_div ?hj ?hd ?_ | with_reducible refine r_pow ?hj ?_); (case hj => first | (with_reducible show (0 : Int) < _; first | decide | omega) | exact ⟨by decide, by decide, by decide⟩ | exact .inr ⟨by decide, by decide⟩ | exact .inl ⟨by decide, by decide⟩ | exact .inl ⟨by omega, by omega⟩ | exact .inr ⟨by omega, by omega⟩); (try case hd => first | decide | omega)))
local macro_rules | `(tactic| walk_at "s0") => `(tactic| first
  | with_reducible refine r_seq ?_ | with_reducible refine r_asg ?_ | ((with_reducible refine r_gname ?_); dsimp only [List.set_cons_succ, List.set_cons_zero, List.set]) | with_reducible refine r_ret ?_ | with_reducible refine r_drop ?_ | with_reducible refine r_if ?_
  | with_reducible refine r_test ?_ | with_reducible refine r_B ?_ | with_reducible refine r_op ?_ | with_reducible refine r_cons ?_ | with_reducible refine r_nil ?_ | with_reducible refine r_c ?_ | walk_at "v"
  | with_reducible refine r_cl ?_ | with_reducible refine r_cb ?_ | with_reducible refine r_I0 ?_ | with_reducible refine r_bl ?_ | ((with_reducible refine r_eq ?hs ?_); (case hs => rfl)) | ((with_reducible refine r_ne ?hs ?_); (case hs => rfl))
  | with_reducible refine r_un ?_ | with_reducible refine r_neg ?_ | with_reducible refine r_int ?_ | with_reducible refine r_intB ?_ | with_reducible refine r_min2 ?_ | with_reducible refine r_max2 ?_
  | with_reducible refine r_tup ?_ | with_reducible refine r_lst ?_ | with_reducible refine r_not ?_ | with_reducible refine r_ifE ?_
  | with_reducible refine r_andV ?_ | with_reducible refine r_orV ?_ | with_reducible refine r_notV ?_ | with_reducible refine r_next ?_ | with_reducible refine r_brk ?_ | with_reducible refine r_for ?_ | with_reducible refine r_slc ?_ | with_reducible refine r_nop ?_ | with_reducible refine r_part ?_ | with_reducible refine r_ei ?_ | with_reducible refine r_bm ?_ | with_reducible refine r_isN ?_ | with_reducible refine r_notN ?_ | with_reducible refine r_m1 ?_ | with_reducible refine r_lc ?_ | with_reducible refine r_rng1 ?_ | with_reducible refine r_rng2 ?_ | with_reducible refine r_ilist ?_ | with_reducible refine r_itup ?_ | with_reducible refine iteT ?_ | with_reducible refine iteF ?_ | with_reducible refine r_sub ?_ | walk_at "n" | walk_at "x")
local macro_rules | `(tactic| walk_at "s1") => `(tactic| first | walk_at "s0" | with_reducible refine r_and ?_ | with_reducible refine r_or ?_)
local macro_rules | `(tactic| walk_at "u") => `(tactic| (try dsimp only); repeat walk_at "s0")
local macro_rules | `(tactic| walk_at "pt") => `(tactic| first
  | ((with_reducible refine r_and2 (a := ?a) (b := ?b) ?h1 ?h2 ?h); (case h1 => intro _ q; walk_at "pt"; exact q); (case h2 => intro _ q; walk_at "pt"; exact q); (try dsimp only))
  | ((with_reducible refine r_or2 (a := ?a) (b := ?b) ?h1 ?h2 ?h); (case h1 => intro _ q; walk_at "pt"; exact q); (case h2 => intro _ q; walk_at "pt"; exact q); (try dsimp only))
  | walk_at "u")
local macro_rules | `(tactic| walk_at "s") => `(tactic| (try dsimp only); repeat walk_at "s1")
local macro_rules | `(tactic| walk_at "go") => `(tactic| (try simp only [cxK, cxK2]); (try simp only [List.map_cons, List.map_nil, List.replicate, List.cons_append, List.nil_append]); walk_at "s")
local macro_rules | `(tactic| walk_at "t") => `(tactic| ((try dsimp only); (try with_reducible refine iteT ?_); (try dsimp only)))

local macro_rules | `(tactic| walk_at "k") => `(tactic| ((try dsimp only); (first | refine kF (by decide +kernel) ?_ | refine kT (by decide +kernel) ?_ | refine kF (decide_eq_false (fun h => by cases h)) ?_ | refine kT (decide_eq_true rfl) ?_); walk_at "s"))
structure ClD (P : Program) (w : World) (K : PySem.W.Frag) (mg : Str → Option Value) (base : Heap) (k : Nat) (x : Str) (i : Nat) (ps : List Str) (sp : Sp) : Prop where
  ex : ∃ (f : Addr) (fd : FuncData), FnOk P w K mg base L2.CX0 k f fd ps sp ∧ mg x = some (.ref f) ∧ FunD K x x (defArgs (topS i)) (defBody (topS i)) (defScope (topS i)) [] [] f fd
theorem Cl.toD {P : Program} {w : World} {K : PySem.W.Frag} {mg : Str → Option Value} {base : Heap} {k : Nat} {x : Str} {i : Nat} {ps : List Str} {sp : Sp} (c : ClD P w K mg base k x i ps sp)
    (hb : ∀ (kV doc pm : Value) (an : Option Addr) (cdv ct : Value) (us : List Value), us.length = ps.length → bindArgs (PySem.W.fnOf x x (defArgs (topS i)) (defBody (topS i)) (defScope (topS i)) .none kV doc pm an cdv ct) ⟨us, []⟩ = pure (ps.zip us)) : Cl P w K mg base k x sp := by
  obtain ⟨f, fd, h1, h2, F⟩ := c.ex
  exact ⟨f, fd, ps, h1, h2, F.kp, F.bindsN hb⟩
theorem mk_clD {P : Program} {w : World} {K : PySem.W.Frag} {mg : Str → Option Value} {base : Heap} {x : Str} {i k : Nat} {N ps : List Str} {Z : Type} {args : Z → List V} {pre : Z → Hp → Prop} {post : Z → Hp → V → Hp → Prop} {c : Addr} (F : DfC K mg x i c) (S : FnScope N ps (defScope (topS i)))
    (len : ∀ z, (args z).length = ps.length) (m : Nat) (hm : N.length - ps.length = m)
    (hbody : ∀ (f : Addr) (A : Around) (outer : List Env) (s : Shared) (H : Hp) (Q : VK) (z : Z), Room k (A.deeper (envOfC x (defScope (topS i)) s.heap.objs.size f (.ref c))) → pre z H → (∀ v H', post z H v H' → Q v H') →
      ∃ t, PSs (cxOf L2.CX0 P w K mg base N x (defScope (topS i)) f (.ref c) A outer s H L2.E0).nox (defBody (topS i)) t ∧ t { nx := fun _ H' => Q .non H', rt := Q } ((args z).map some ++ List.replicate m none) H) :
    ClD P w K mg base (k + 1) x i ps (Spc Z args pre post) := by
  obtain ⟨f, fd, F, hmg, hcd⟩ := F.ex
  refine ⟨f, fd, ?_, hmg, F⟩
  obtain ⟨oc, od, dV, kV, doc, pm, an, cdv, ct, osl, rfl, lk, hcI, _, _⟩ := F.ex
  obtain rfl : cdv = .ref c := hcd
  refine fn_of lk hcI S (fun vs H Q E ⟨z, e, _⟩ => by rw [e]; exact len z) fun A outer s H vs Q E hr ⟨z, e, hp, hq⟩ => ?_
  subst e
  obtain ⟨t, h, q⟩ := hbody f A outer s H Q z hr hp hq
  have e0 : L2.start N (args z) = (args z).map some ++ List.replicate m none := by
    unfold L2.start
    rw [len z, hm]
  rw [← e0] at q
  exact ⟨t, (show PSs (cxOf L2.CX0 P w K mg base N x (defScope (topS i)) f (.ref c) A outer s H E).nox (defBody (topS i)) t from h).nox, q⟩
theorem r_callX {X : Cx} {k : Nat} {x : Str} {t : L2.St → Hp → (List V → Hp → Heap → Prop) → Prop} {σ : L2.St} {H : Hp} {Q : VK} (h : t σ H fun vs H1 b => ∃ sp, Cl X.prog X.w X.K X.mg b k x sp ∧ sp vs H1 Q L2.E0) : tCallX X k x t σ H Q := h
def qOf (x : Str) (i : Nat) : Str := (envOfC x (defScope (topS i)) 0 0 .none).qual ++ "<lambda>"
section
variable {P : Program} {w : World} {K : PySem.W.Frag} {mg : Str → Option Value} {base : Heap}
/-- what the program's defs lean on -/
structure Prg (K : PySem.W.Frag) (mg : Str → Option Value) (aL aK : Addr) (cI cR : Addr) : Prop where
  ca : Df K mg "changed_areas" 2
  cp : Df K mg "changed_parts" 3
  ro : Df K mg "range_of" 4
  lo : Df K mg "lines_of" 10
  ra : Df K mg "ranks_of" 11
  ip : Df K mg "inserted_pair" 13
  rs : Df K mg "restructured_area" 15
  ins : DfC K mg "inserted" 12 cI
  res : DfC K mg "restructured" 14 cR
  gLOST : mg "LOST" = some (.ref aL) ∧ RelV (.ref aL) (.ref aL)
  hLOST : ∀ H, Dt K H (.ref aL) (.tuple [.str "error", .str "REF"])
  gKIND : mg "AREA_KINDS" = some (.ref aK) ∧ RelV (.ref aK) (.ref aK)
  hKIND : ∀ H, SqT K H aK (kinds4.map V.str)
def Tb (P1 P2 : Addr) : List (Addr × Str) := [(P1, qOf "inserted" 12), (P2, qOf "restructured" 14)]
variable {o : Option Int} {c : Cut} {f1 c1 P1 P2 aL aK cI cR : Addr}
abbrev N_restructured : List Str := ["tree", "own", "key", "is_rows", "deed"]
theorem sc_restructured : FnScope N_restructured ["tree", "own", "key", "is_rows", "deed"] (defScope (topS 14)) := ⟨rfl, rfl, rfl, by decide +kernel, rfl, by decide +kernel, by decide +kernel⟩
def spRes (K : PySem.W.Frag) (o : Option Int) (c : Cut) (f1 c1 P1 P2 : Addr) : Sp := Spc (V × PyData) (fun z => [z.1, sV o, .int c.key, .bl c.rows, .ref f1]) (fun z H => Dt K H z.1 z.2 ∧ WF 16 z.2 ∧ H c1 = some (CodeO c1 (qOf "inserted" 12)) ∧ Tabs (Tb P1 P2) H)
  fun z H v H' => ExtN H H' ∧ Tabs (Tb P1 P2) H' ∧ ∃ d', Dt K H' v d' ∧ Fl (Mv o c) 35 z.2 d' ∧ WF 16 d'
theorem cl_restructured (G : Prg K mg aL aK cI cR) (B : Bi mg) (hat : c.at' < c.n) (hne : P1 ≠ P2) (TB : TabB base mg cR P2) (C : LmOk P w K mg base 2 f1 c1 (qOf "inserted" 12) (spPair c)) : Cl P w K mg base 38 "restructured" (spRes K o c f1 c1 P1 P2) := by
  obtain ⟨f0, fd0, F0, hm0⟩ := G.ca.ex
  refine mk_clC G.res sc_restructured (fun _ _ _ _ _ _ us hl => match us, hl with | [_, _, _, _, _], _ => rfl) (fun _ => rfl) 0 rfl fun f A outer s H Q z hr hp hq => ?_
  obtain ⟨v, d⟩ := z
  obtain ⟨hd, hw, hc1, hT⟩ := hp
  dsimp only at hd hw hc1 hT hq
  have hmT : (P2, qOf "restructured" 14) ∈ Tb P1 P2 := by simp [Tb]
  have huT : ∀ p ∈ Tb P1 P2, p.1 = P2 → p.2 = qOf "restructured" 14 := fun p hp e => by
    simp only [Tb, List.mem_cons, List.not_mem_nil, or_false] at hp
    rcases hp with rfl | rfl
    · exact absurd e hne
    · rfl
  refine ⟨_, (pss_one (ps_ret (pe_callX (k := 37) hm0 F0.kp hr (by decide) (by rfl) (pax_cons (pv 0) (pax_lam (fr := ["own", "key", "is_rows", "deed"]) (js := [1, 2, 3, 4]) TB rfl hmT huT (by rfl) (ndef_free (sc := defScope (topS 14)) (fr := ["own", "key", "is_rows", "deed"]) (by decide +kernel)) (ndef_fr (sc := defScope (topS 14)) (fr := ["own", "key", "is_rows", "deed"]) (by decide +kernel)) rfl (fun _ => rfl)))))), ?_⟩
  walk_at "go"
  refine r_callX ?_
  walk_at "s"
  refine ⟨hT, fun f2 c2 H1 base' eN hT1 hc2 up md L => ?_⟩
  have hc11 : H1 c1 = some (CodeO c1 (qOf "inserted" 12)) := eN _ _ hc1 codeO_ne
  have C1 := C.grow up
  have cRA := cl_restructured_area o c (by decide) G.rs B C1 G.gLOST G.hLOST (cl_lines_of G.lo B) (cl_ranks_of G.ra B) (cl_range_of G.ro B)
  have C2 : LmOk P w K mg base' 4 f2 c2 (qOf "restructured" 14) (spNd K o c c1 (qOf "inserted" 12)) := by
    refine lm_of (N := ["node", "own", "key", "is_rows", "deed"]) (ps := ["node"]) md L (nscope_by (by decide +kernel)) (fun _ _ _ us hl => match us, hl with | [_], _ => rfl) (fun vs H Q ⟨z, e, _⟩ => by rw [e]; rfl) fun cl A outer s H vs Q hr ⟨z, e, hp, hq⟩ => ?_
    subst e
    obtain ⟨p, a⟩ := z
    refine ⟨_, pe_cl cRA hr (by decide) (by rfl) (pa_cons (pv 0) (pa_cons (pv 1) (pa_cons (pv 2) (pa_cons (pv 3) (pa_cons (pv 4) pa_nil))))), ?_⟩
    walk_at "go"
    exact ⟨(p, a), rfl, hp, hq⟩
  refine ⟨_, (cl_changed_areas G.ca G.cp B hat C2 G.gKIND G.hKIND 16), (v, d), rfl, ⟨hd.ts (extN_ts eN), hw, hc11, hc2⟩, ?_⟩
  rintro v' H2 ⟨s2, d', hd', hF, hwd⟩
  exact hq _ _ ⟨eN.trans (ExtN.of s2), hT1.ext s2, d', hd', hF, hwd⟩
abbrev N_inserted : List Str := ["tree", "own", "key", "at", "many", "is_rows", "size"]
theorem sc_inserted : FnScope N_inserted ["tree", "own", "key", "at", "many", "is_rows"] (defScope (topS 12)) := ⟨rfl, rfl, rfl, by decide +kernel, rfl, by decide +kernel, by decide +kernel⟩
def spIns (K : PySem.W.Frag) (o : Option Int) (c : Cut) (P1 P2 : Addr) : Sp := Spc (V × PyData) (fun z => [z.1, sV o, .int c.key, .int (c.at' : Nat), .int (c.many : Nat), .bl c.rows]) (fun z H => Dt K H z.1 z.2 ∧ WF 16 z.2 ∧ Tabs (Tb P1 P2) H)
  fun z H v H' => ExtN H H' ∧ Tabs (Tb P1 P2) H' ∧ ∃ d', Dt K H' v d' ∧ Fl (Mv o c) 35 z.2 d' ∧ WF 16 d'
theorem cl_insertedD {uR uC : Value} (o : Option Int) (c : Cut) (G : Prg K mg aL aK cI cR) (B : Bi mg) (hat : c.at' < c.n) (hne : P1 ≠ P2) (TI : TabB base mg cI P1) (TR : TabB base mg cR P2) (gROWS : mg "ROWS" = some uR ∧ RelV (.int 20) uR) (gCOLUMNS : mg "COLUMNS" = some uC ∧ RelV (.int 10) uC) : ClD P w K mg base 39 "inserted" 12 ["tree", "own", "key", "at", "many", "is_rows"] (spIns K o c P1 P2) := by
  obtain ⟨f0, fd0, F0, hm0, _⟩ := G.res.ex
  refine mk_clD G.ins sc_inserted (fun _ => rfl) 1 rfl fun f A outer s H Q z hr hp hq => ?_
  obtain ⟨v, d⟩ := z
  obtain ⟨hd, hw, hT⟩ := hp
  dsimp only at hd hw hT hq
  have hmT : (P1, qOf "inserted" 12) ∈ Tb P1 P2 := by simp [Tb]
  have huT : ∀ p ∈ Tb P1 P2, p.1 = P1 → p.2 = qOf "inserted" 12 := fun p hp e => by
    simp only [Tb, List.mem_cons, List.not_mem_nil, or_false] at hp
    rcases hp with rfl | rfl
    · rfl
    · exact absurd e.symm hne
  refine ⟨_, (pss_cons (ps_set (i := 6) sc_inserted.nd rfl (Or.inr rfl) (pe_ifExp (pt_val (pv 5)) (pe_glob (by rfl) gROWS.1 gROWS.2) (pe_glob (by rfl) gCOLUMNS.1 gCOLUMNS.2))) (pss_one (ps_ret (pe_callX (k := 38) hm0 F0.kp hr (by decide) (by rfl) (pax_cons (pv 0) (pax_cons (pv 1) (pax_cons (pv 2) (pax_cons (pv 5) (pax_lam (fr := ["at", "many", "size"]) (js := [3, 4, 6]) TI rfl hmT huT (by rfl) (ndef_free (sc := defScope (topS 12)) (fr := ["at", "many", "size"]) (by decide +kernel)) (ndef_fr (sc := defScope (topS 12)) (fr := ["at", "many", "size"]) (by decide +kernel)) rfl (fun _ => rfl)))))))))), ?_⟩
  have hn : c.n = if c.rows then 20 else 10 := rfl
  have lam : ∀ {f1 c1 : Addr} {H1 : Hp} {base' : Heap}, ExtN H H1 → Tabs (Tb P1 P2) H1 → H1 c1 = some (CodeO c1 (qOf "inserted" 12)) → Up base base' → LmOk P w K mg base' 2 f1 c1 (qOf "inserted" 12) (spPair c) →
      ∃ sp, Cl P w K mg base' 38 "restructured" sp ∧ sp [v, sV o, .int c.key, .bl c.rows, .ref f1] H1 Q L2.E0 := fun {f1 c1 H1 base'} eN hT1 hc1 up C1 => by
    refine ⟨_, cl_restructured (o := o) G B hat hne (tabB_up TR up) C1, (v, d), rfl, ⟨hd.ts (extN_ts eN), hw, hc1, hT1⟩, ?_⟩
    rintro v' H2 ⟨e2, hT2, d', hd', hF, hwd⟩
    exact hq _ _ ⟨eN.trans e2, hT2, d', hd', hF, hwd⟩
  cases hb : c.rows with
  | true =>
    rw [hb] at hn
    walk_at "go"
    refine r_callX ?_
    walk_at "s"
    refine ⟨hT, fun f1 c1 H1 base' eN hT1 hc1 up md L => ?_⟩
    have C1 : LmOk P w K mg base' 2 f1 c1 (qOf "inserted" 12) (spPair c) := by
      refine lm_of (N := ["first", "last", "at", "many", "size"]) (ps := ["first", "last"]) md L (nscope_by (by decide +kernel)) (fun _ _ _ us hl => match us, hl with | [_, _], _ => rfl) (fun vs H Q ⟨z, e, _⟩ => by rw [e]; rfl) fun cl A outer s H vs Q hr ⟨z, e, hp, hq⟩ => ?_
      subst e
      obtain ⟨a, b⟩ := z
      refine ⟨_, pe_cl (cl_inserted_pair c G.ip B) hr (by decide) (by rfl) (pa_cons (pv 0) (pa_cons (pv 1) (pa_cons (pv 2) (pa_cons (pv 3) (pa_cons (pv 4) pa_nil))))), ?_⟩
      walk_at "go"
      exact ⟨(a, b), by rw [hn]; rfl, trivial, hq⟩
    have := lam eN hT1 hc1 up C1
    rw [hb] at this
    exact this
  | false =>
    rw [hb] at hn
    walk_at "go"
    refine r_callX ?_
    walk_at "s"
    refine ⟨hT, fun f1 c1 H1 base' eN hT1 hc1 up md L => ?_⟩
    have C1 : LmOk P w K mg base' 2 f1 c1 (qOf "inserted" 12) (spPair c) := by
      refine lm_of (N := ["first", "last", "at", "many", "size"]) (ps := ["first", "last"]) md L (nscope_by (by decide +kernel)) (fun _ _ _ us hl => match us, hl with | [_, _], _ => rfl) (fun vs H Q ⟨z, e, _⟩ => by rw [e]; rfl) fun cl A outer s H vs Q hr ⟨z, e, hp, hq⟩ => ?_
      subst e
      obtain ⟨a, b⟩ := z
      refine ⟨_, pe_cl (cl_inserted_pair c G.ip B) hr (by decide) (by rfl) (pa_cons (pv 0) (pa_cons (pv 1) (pa_cons (pv 2) (pa_cons (pv 3) (pa_cons (pv 4) pa_nil))))), ?_⟩
      walk_at "go"
      exact ⟨(a, b), by rw [hn]; rfl, trivial, hq⟩
    have := lam eN hT1 hc1 up C1
    rw [hb] at this
    exact this
end
end Sw

set_option maxHeartbeats 4000000
namespace Sw
open PySem PySem.Spec PyProof.Rows L2 C8 LamX NdefX
local macro_rules | `(tactic| walk_at "v") => `(tactic| (with_reducible show tVar _ _ _ _; with_unfolding_all refine r_var rfl ?_))
local macro_rules | `(tactic| walk_at "x") => `(tactic| ((first | with_reducible refine r_ixTc (xs := ?xs) (v := ?v) ?hl ?e ?h | with_reducible refine r_ixLc (xs := ?xs) (v := ?v) ?hl ?e ?h); (case hl => first | assumption | exact SqT.of (by assumption) | exact SqL.of (by assumption)); (case e => first | rfl | assumption | exact atI_zero)))
local macro_rules | `(tactic| walk_at "n") => `(tactic| ((first | with_reducible refine r_mod ?hj (fun _ _ _ => ?_) | with_reducible refine r_mul ?hj ?_ | with_reducible refine r_div ?hj ?hd ?_ | with_reducible refine r_pow ?hj ?_); (case hj => first | (with_reducible show (0 : Int) < _; first | decide | omega) | exact ⟨by decide, by decide, by decide⟩ | exact .inr ⟨by decide, by decide⟩ | exact .inl ⟨by decide, by decide⟩ | exact .inl ⟨by omega, by omega⟩ | exact .inr ⟨by omega, by omega⟩); (try case hd => first | decide | omega)))
local macro_rules | `(tactic| walk_at "s0") => `(tactic| first
  | with_reducible refine r_seq ?_ | with_reducible refine r_asg ?_ | ((with_reducible refine r_gname ?_); dsimp only [List.set_cons_succ, List.set_cons_zero, List.set]) | with_reducible refine r_ret ?_ | with_reducible refine r_drop ?_ | with_reducible refine r_if ?_
  | with_reducible refine r_test ?_ | with_reducible refine r_B ?_ | with_reducible refine r_op ?_ | with_reducible refine r_cons ?_ | with_reducible refine r_nil ?_ | with_reducible refine r_c ?_ | walk_at "v"
  | with_reducible refine r_cl ?_ | with_reducible refine r_cb ?_ | with_reducible refine r_I0 ?_ | with_reducible refine r_bl ?_ | ((with_reducible refine r_eq ?hs ?_); (case hs => rfl)) | ((with_reducible refine r_ne ?hs ?_); (case hs => rfl))
  | with_reducible refine r_un ?_ | with_reducible refine r_neg ?_ | with_reducible refine r_int ?_ | with_reducible refine r_intB ?_ | with_reducible refine r_min2 ?_ | with_reducible refine r_max2 ?_
  | with_reducible refine r_tup ?_ | with_reducible refine r_lst ?_ | with_reducible refine r_not ?_ | with_reducible refine r_ifE ?_
  | with_reducible refine r_andV ?_ | with_reducible refine r_orV ?_ | with_reducible refine r_notV ?_ | with_reducible refine r_next ?_ | with_reducible refine r_brk ?_ | with_reducible refine r_for ?_ | with_reducible refine r_slc ?_ | with_reducible refine r_nop ?_ | with_reducible refine r_part ?_ | with_reducible refine r_ei ?_ | with_reducible refine r_bm ?_ | with_reducible refine r_isN ?_ | with_reducible refine r_notN ?_ | with_reducible refine r_m1 ?_ | with_reducible refine r_lc ?_ | with_reducible refine r_rng1 ?_ | with_reducible refine r_rng2 ?_ | with_reducible refine r_ilist ?_ | with_reducible refine r_itup ?_ | with_reducible refine iteT ?_ | with_reducible refine iteF ?_ | with_reducible refine r_sub ?_ | walk_at "n" | walk_at "x")
local macro_rules | `(tactic| walk_at "s1") => `(tactic| first | walk_at "s0" | with_reducible refine r_and ?_ | with_reducible refine r_or ?_)
local macro_rules | `(tactic| walk_at "u") => `(tactic| (try dsimp only); repeat walk_at "s0")
local macro_rules | `(tactic| walk_at "pt") => `(tactic| first
  | ((with_reducible refine r_and2 (a := ?a) (b := ?b) ?h1 ?h2 ?h); (case h1 => intro _ q; walk_at "pt"; exact q); (case h2 => intro _ q; walk_at "pt"; exact q); (try dsimp only))
  | ((with_reducible refine r_or2 (a := ?a) (b := ?b) ?h1 ?h2 ?h); (case h1 => intro _ q; walk_at "pt"; exact q); (case h2 => intro _ q; walk_at "pt"; exact q); (try dsimp only))
  | walk_at "u")
local macro_rules | `(tactic| walk_at "s") => `(tactic| (try dsimp only); repeat walk_at "s1")
local macro_rules | `(tactic| walk_at "go") => `(tactic| (try simp only [cxK, cxK2]); (try simp only [List.map_cons, List.map_nil, List.replicate, List.cons_append, List.nil_append]); walk_at "s")
local macro_rules | `(tactic| walk_at "t") => `(tactic| ((try dsimp only); (try with_reducible refine iteT ?_); (try dsimp only)))

local macro_rules | `(tactic| walk_at "k") => `(tactic| ((try dsimp only); (first | refine kF (by decide +kernel) ?_ | refine kT (by decide +kernel) ?_ | refine kF (decide_eq_false (fun h => by cases h)) ?_ | refine kT (decide_eq_true rfl) ?_); walk_at "s"))
/-! ### a call with keywords alone -/
section
variable {X : Cx} {k j i : Nat} {x : Str} {ps : List Str} {sp : Sp} {p pos : Pos} {kws : List Keyword} {tk : TA}
def tClK (m : Nat) (sp : Sp) (t : TA) : TE := fun σ H Q => t σ H fun zs H1 => zs.length = m ∧ sp zs H1 Q L2.E0
theorem r_clK {m : Nat} {σ : L2.St} {H : Hp} {Q : VK} (h : tk σ H fun zs H1 => zs.length = m ∧ sp zs H1 Q L2.E0) : tClK m sp tk σ H Q := h
theorem pe_clK (c : ClD X.prog X.w X.K X.mg X.base k x i ps sp) (hr : Room j X.A) (hk : k ≤ j) (hg : Gl X x)
    (hb : ∀ (kV doc pm : Value) (an : Option Addr) (cdv ct : Value) (ws : List Value), ws.length = ps.length → bindArgs (PySem.W.fnOf x x (defArgs (topS i)) (defBody (topS i)) (defScope (topS i)) .none kV doc pm an cdv ct) ⟨[], ps.zip ws⟩ = pure (ps.zip ws))
    (hkw : PK X kws tk) (hall : (backToKw pos (keywordEach kws X.env)).all (·.1.isSome) = true := by rfl) (hks : (backToKw pos (keywordEach kws X.env)).filterMap (·.1) = ps := by rfl) (hdb : (x == ("__debug__" : Str)) = false := by decide)
    (hpl : ((backTo pos (starEach [] X.env)).any (·.1) || (backToKw pos (keywordEach kws X.env)).any (·.1.isNone)) = false := by rfl) :
    PE X (.Call (.Name x p) [] kws pos) (tClK ps.length sp tk) := by
  obtain ⟨f, fd, F, hm, FD⟩ := c.ex
  have kp := FD.kp
  obtain ⟨oc, od, dV, kV, doc, pm, an, cdv, ct, osl, rfl, lk, hcI, hD, _⟩ := FD.ex
  have hdV : dV = .none := by
    rcases hD with ⟨_, e⟩ | ⟨e, _⟩
    · exact e
    · exact absurd rfl e
  subst hdV
  have kb : KBn X.K (PySem.W.fnOf x x (defArgs (topS i)) (defBody (topS i)) (defScope (topS i)) .none kV doc pm an cdv ct) ps 0 ps (fun _ ws => ws) (fun _ zs => zs) := ⟨fun s us ws X l1 l2 => by
    have e : us = [] := List.length_eq_zero_iff.mp l1
    subst e
    exact .of_eq (hb kV doc pm an cdv ct ws l2), fun _ r => r⟩
  refine ⟨fun pins s σ H Q I h => ?_⟩
  refine wpAny_Call_Name_kw (ld_glob I hg hm ?_ hdb)
  refine PySem.W.callWith_KW0 (h₀ := X.base) I.ok.mod.kin kp hall ?_ hpl
  refine thn (hkw.run pos pins s σ H _ I h) fun ws s2 ⟨zs, H2, I2, rz, l2, q2⟩ => ⟨I2.kIn, ?_⟩
  rw [hks]
  exact run_fnN (us := []) (vs := []) F (hr.mono hk) kb L2.pass0 I2 .nil rz rfl l2 q2
end
end Sw

set_option maxHeartbeats 8000000
namespace Sw
open PySem PySem.Spec PyProof.Rows L2 C8 LamX NdefX
local macro_rules | `(tactic| walk_at "v") => `(tactic| (with_reducible show tVar _ _ _ _; with_unfolding_all refine r_var rfl ?_))
local macro_rules | `(tactic| walk_at "x") => `(tactic| ((first | with_reducible refine r_ixTc (xs := ?xs) (v := ?v) ?hl ?e ?h | with_reducible refine r_ixLc (xs := ?xs) (v := ?v) ?hl ?e ?h); (case hl => first | assumption | exact SqT.of (by assumption) | exact SqL.of (by assumption)); (case e => first | rfl | assumption | exact atI_zero)))
local macro_rules | `(tactic| walk_at "n") => `(tactic| ((first | with_reducible refine r_mod ?hj (fun _ _ _ => ?_) | with_reducible refine r_mul ?hj ?_ | with_reducible refine r_div ?hj ?hd ?_ | with_reducible refine r_pow ?hj ?_); (case hj => first | (with_reducible show (0 : Int) < _; first | decide | omega) | exact ⟨by decide, by decide, by decide⟩ | exact .inr ⟨by decide, by decide⟩ | exact .inl ⟨by decide, by decide⟩ | exact .inl ⟨by omega, by omega⟩ | exact .inr ⟨by omega, by omega⟩); (try case hd => first | decide | omega)))
local macro_rules | `(tactic| walk_at "s0") => `(tactic| first
  | with_reducible refine r_seq ?_ | with_reducible refine r_asg ?_ | ((with_reducible refine r_gname ?_); dsimp only [List.set_cons_succ, List.set_cons_zero, List.set]) | with_reducible refine r_ret ?_ | with_reducible refine r_drop ?_ | with_reducible refine r_if ?_
  | with_reducible refine r_test ?_ | with_reducible refine r_B ?_ | with_reducible refine r_op ?_ | with_reducible refine r_cons ?_ | with_reducible refine r_nil ?_ | with_reducible refine r_c ?_ | walk_at "v"
  | with_reducible refine r_cl ?_ | with_reducible refine r_cb ?_ | with_reducible refine r_I0 ?_ | with_reducible refine r_bl ?_ | ((with_reducible refine r_eq ?hs ?_); (case hs => rfl)) | ((with_reducible refine r_ne ?hs ?_); (case hs => rfl))
  | with_reducible refine r_un ?_ | with_reducible refine r_neg ?_ | with_reducible refine r_int ?_ | with_reducible refine r_intB ?_ | with_reducible refine r_min2 ?_ | with_reducible refine r_max2 ?_
  | with_reducible refine r_tup ?_ | with_reducible refine r_lst ?_ | with_reducible refine r_not ?_ | with_reducible refine r_ifE ?_
  | with_reducible refine r_andV ?_ | with_reducible refine r_orV ?_ | with_reducible refine r_notV ?_ | with_reducible refine r_next ?_ | with_reducible refine r_brk ?_ | with_reducible refine r_for ?_ | with_reducible refine r_slc ?_ | with_reducible refine r_nop ?_ | with_reducible refine r_part ?_ | with_reducible refine r_ei ?_ | with_reducible refine r_bm ?_ | with_reducible refine r_isN ?_ | with_reducible refine r_notN ?_ | with_reducible refine r_m1 ?_ | with_reducible refine r_lc ?_ | with_reducible refine r_rng1 ?_ | with_reducible refine r_rng2 ?_ | with_reducible refine r_ilist ?_ | with_reducible refine r_itup ?_ | with_reducible refine iteT ?_ | with_reducible refine iteF ?_ | with_reducible refine r_sub ?_ | walk_at "n" | walk_at "x")
local macro_rules | `(tactic| walk_at "s1") => `(tactic| first | walk_at "s0" | with_reducible refine r_and ?_ | with_reducible refine r_or ?_)
local macro_rules | `(tactic| walk_at "u") => `(tactic| (try dsimp only); repeat walk_at "s0")
local macro_rules | `(tactic| walk_at "pt") => `(tactic| first
  | ((with_reducible refine r_and2 (a := ?a) (b := ?b) ?h1 ?h2 ?h); (case h1 => intro _ q; walk_at "pt"; exact q); (case h2 => intro _ q; walk_at "pt"; exact q); (try dsimp only))
  | ((with_reducible refine r_or2 (a := ?a) (b := ?b) ?h1 ?h2 ?h); (case h1 => intro _ q; walk_at "pt"; exact q); (case h2 => intro _ q; walk_at "pt"; exact q); (try dsimp only))
  | walk_at "u")
local macro_rules | `(tactic| walk_at "s") => `(tactic| (try dsimp only); repeat walk_at "s1")
local macro_rules | `(tactic| walk_at "go") => `(tactic| (try simp only [cxK, cxK2]); (try simp only [List.map_cons, List.map_nil, List.replicate, List.cons_append, List.nil_append]); walk_at "s")
local macro_rules | `(tactic| walk_at "t") => `(tactic| ((try dsimp only); (try with_reducible refine iteT ?_); (try dsimp only)))

local macro_rules | `(tactic| walk_at "k") => `(tactic| ((try dsimp only); (first | refine kF (by decide +kernel) ?_ | refine kT (by decide +kernel) ?_ | refine kF (decide_eq_false (fun h => by cases h)) ?_ | refine kT (decide_eq_true rfl) ?_); walk_at "s"))
section
variable {P : Program} {w : World} {K : PySem.W.Frag} {mg : Str → Option Value} {base : Heap} {k : Nat} {x : Str} {i : Nat} {ps : List Str} {sp : Sp} {f : Addr} {fd : FuncData}
/-- the def that the name tells, with its own data -/
theorem ClD.fn (c : ClD P w K mg base k x i ps sp) (F : FunD K x x (defArgs (topS i)) (defBody (topS i)) (defScope (topS i)) [] [] f fd) (hm : mg x = some (.ref f)) : FnOk P w K mg base L2.CX0 k f fd ps sp := by
  obtain ⟨f2, fd2, h1, h2, F2⟩ := c.ex
  rw [hm] at h2
  cases h2
  obtain ⟨_, _, _, _, _, _, _, _, _, _, _, l1, _⟩ := F.ex
  obtain ⟨_, _, _, _, _, _, _, _, _, _, _, l2, _⟩ := F2.ex
  rw [l1] at l2
  cases l2
  exact h1
/-- many promises of one def -/
theorem ClD.all {α : Type} {sp : α → Sp} (a0 : α) (c : ∀ a, ClD P w K mg base k x i ps (sp a)) : ClD P w K mg base k x i ps (fun vs H Q E => ∃ a, sp a vs H Q E) := by
  obtain ⟨f, fd, h1, h2, F⟩ := (c a0).ex
  exact ⟨f, fd, ⟨fun vs H Q E ⟨a, h⟩ => ((c a).fn F h2).len vs H Q E h, fun A outer s H args us vs Q E hr e0 hb r ⟨a, h⟩ => ((c a).fn F h2).run A outer s H args us vs Q E hr e0 hb r h⟩, h2, F⟩
theorem CutOk.upE {H H' : Hp} {a : Addr} {c : Cut} (e : ExtN H H') (h : CutOk H a c) : CutOk H' a c := ⟨e _ _ h.h (fun _ z => nomatch z), h.own, h.at0, h.many, h.many2⟩
abbrev OC := { p : Option Int × Cut // p.2.at' < p.2.n }
def spInsU (K : PySem.W.Frag) (P1 P2 : Addr) : Sp := fun vs H Q E => ∃ a : OC, spIns K a.1.1 a.1.2 P1 P2 vs H Q E
theorem sv_of {v : V} (h : v = .non ∨ ∃ i, v = .int i) : ∃ o, v = sV o := by
  rcases h with rfl | ⟨i, rfl⟩
  · exact ⟨none, rfl⟩
  · exact ⟨some i, rfl⟩
abbrev N_law : List Str := ["_law_script", "_law_state", "_law_own", "_law_keys", "_law_named", "_law_cuts", "_law_first", "_law_second", "_law_plan", "_law_tree_here", "_law_found", "_law_later", "_law_other", "_law_again", "_law_k"]
theorem sc_law : FnScope N_law ["_law_script"] (defScope (topS 54)) := ⟨rfl, rfl, rfl, by decide +kernel, rfl, by decide +kernel, by decide +kernel⟩
def spLaw (K : PySem.W.Frag) (P1 P2 : Addr) : Sp := Spc (Addr × List Int) (fun z => [.ref z.1]) (fun z H => SqL K H z.1 (z.2.map V.int) ∧ z.2.length ≤ 63 ∧ H P1 = some (.tbl #[]) ∧ H P2 = some (.tbl #[]))
  fun _ _ v _ => v = .bl true
variable {P1 P2 cL : Addr}
theorem cl_law (F : DfC K mg "law" 54 cL) (B : Bi mg) (c_law_start : Cl P w K mg base 3 "_law_start" (spStart K)) (c_law_draw : Cl P w K mg base 2 "_law_draw" spDraw) (c_law_cut : Cl P w K mg base 4 "_law_cut" spCut) (c_law_marks : Cl P w K mg base 1 "_law_marks" spMarks) (c_law_words : Cl P w K mg base 1 "_law_words" spWords) (c_law_tree : Cl P w K mg base 21 "_law_tree" (spTree K))
    (cinsertedD : ClD P w K mg base 39 "inserted" 12 ["tree", "own", "key", "at", "many", "is_rows"] (spInsU K P1 P2)) (c_law_follows : Cl P w K mg base 41 "_law_follows" (spFollows K 35)) (c_law_line : Cl P w K mg base 1 "_law_line" spLine) : ClD P w K mg base 42 "law" 54 ["_law_script"] (spLaw K P1 P2) := by
  have cinserted := Cl.toD cinsertedD (fun _ _ _ _ _ _ us hl => match us, hl with | [_, _, _, _, _, _], _ => rfl)
  refine mk_clD F sc_law (fun _ => rfl) 14 rfl fun f A outer s H Q z hr hp hq => ?_
  obtain ⟨sa, ns⟩ := z
  obtain ⟨hS, hlen, hP1, hP2⟩ := hp
  dsimp only at hS hlen hP1 hP2 hq
  refine ⟨_, ((pss_cons (ps_set (i := 1) sc_law.nd rfl (Or.inr rfl) (pe_cl c_law_start hr (by decide) (by rfl) (pa_cons (pv 0) pa_nil)))
      (pss_cons (ps_set (i := 2) sc_law.nd rfl (Or.inr rfl) (pe_cl c_law_draw hr (by decide) (by rfl) (pa_cons (pv 1) (pa_cons pe_int pa_nil))))
      (pss_cons (ps_set (i := 3) sc_law.nd rfl (Or.inr rfl) (pe_lst (pa_cons (pv 2) (pa_cons (pe_op op_add pe_int (pe_cl c_law_draw hr (by decide) (by rfl) (pa_cons (pv 1) (pa_cons pe_int pa_nil)))) (pa_cons (pe_op op_add (pv 2) pe_int) pa_nil)))))
      (pss_cons (ps_set (i := 4) sc_law.nd rfl (Or.inl rfl) (pe_cmpR op_eq (pe_cl c_law_draw hr (by decide) (by rfl) (pa_cons (pv 1) (pa_cons pe_int pa_nil))) pe_int (nomark _)))
      (C8.pss_cut (ps_if (pt_val (pv 4)) (pss_one (ps_set (i := 2) sc_law.nd rfl (Or.inr rfl) pe_non)) pss_nil)
      (pss_cons (ps_setLc (i := 5) (own := [("_law_k", 14)]) (g := gName 14) rfl sc_law.nd rfl rfl (sw_true rfl rfl rfl (by decide +kernel)) (pi_range1 rfl B.trange (pa_cons pe_int pa_nil)) (blkOk_by (own := [("_law_k", 14)]) (N := N_law) (sc := defScope (topS 54)) (by decide +kernel)) (fun _ _ _ _ _ => pg_name (i := 14) sc_law.nd rfl (Or.inl rfl)) (fun _ _ _ _ _ => pts_nil) (fun _ _ _ _ _ => (pe_cl c_law_cut hr (by decide) (by rfl) (pa_cons (pv 1) (pa_cons (pv 2) (pa_cons (pe_ix (ix_list : IxR _ (rIxL K)) (pv 3) (pe_op op_fdivW (pe_cl c_law_draw hr (by decide) (by rfl) (pa_cons (pv 1) (pa_cons pe_int pa_nil))) pe_int) (fun _ _ => rfl)) pa_nil))))))
      (pss_cons (ps_set (i := 6) sc_law.nd rfl (Or.inl rfl) (pe_ix ix_list (pv 5) pe_int (fun _ _ => rfl)))
      (pss_cons (ps_set (i := 7) sc_law.nd rfl (Or.inl rfl) (pe_ix ix_list (pv 5) pe_int (fun _ _ => rfl)))
      (pss_cons (ps_set (i := 8) sc_law.nd rfl (Or.inl rfl) (pe_lst (pa_cons (pe_cl c_law_marks hr (by decide) (by rfl) (pa_cons (pv 5) (pa_cons pe_bl pa_nil))) (pa_cons (pe_cl c_law_marks hr (by decide) (by rfl) (pa_cons (pv 5) (pa_cons pe_bl pa_nil))) (pa_cons (pe_op op_cat (pe_op op_cat (pe_lst (pa_cons pe_non (pa_cons pe_non (pa_cons pe_non pa_nil)))) (pv 3)) (pe_lst (pa_cons (pe_ix ix_list (pv 3) pe_int (fun _ _ => rfl)) pa_nil))) (pa_cons (pe_cl0 c_law_words hr (by decide) (by rfl)) (pa_cons pe_int pa_nil)))))))
      (C8.pss_cut (ps_if (pt_val (pv 4)) (pss_cons (ps_asg (pe_op op_cat (pv 3) (pe_lst (pa_cons (pe_ix ix_list (pv 3) pe_int (fun _ _ => rfl)) pa_nil))) (pg_sub (pv 8) pe_int set_list))
      (pss_one (ps_asg pe_int (pg_sub (pv 8) pe_int set_list)))) pss_nil)
      (pss_cons (ps_set (i := 9) sc_law.nd rfl (Or.inl rfl) (pe_cl c_law_tree hr (by decide) (by rfl) (pa_cons (pv 1) (pa_cons (pv 8) (pa_cons pe_int (pa_cons pe_int pa_nil))))))
      (pss_cons (ps_set (i := 10) sc_law.nd rfl (Or.inl rfl) (pe_cl cinserted hr (by decide) (by rfl) (pa_cons (pv 9) (pa_cons (pv 2) (pa_cons (pe_ix ix_list (pv 6) pe_int (fun _ _ => rfl)) (pa_cons (pe_ix ix_list (pv 6) pe_int (fun _ _ => rfl)) (pa_cons (pe_ix ix_list (pv 6) pe_int (fun _ _ => rfl)) (pa_cons (pe_ix ix_list (pv 6) pe_int (fun _ _ => rfl)) pa_nil))))))))
      (pss_cons (ps_if (pt_not (pt_val (pe_cl c_law_follows hr (by decide) (by rfl) (pa_cons (pv 9) (pa_cons (pv 10) (pa_cons (pv 6) (pa_cons (pe_cl c_law_line hr (by decide) (by rfl) (pa_cons (pv 6) pa_nil)) pa_nil))))))) (pss_one (ps_ret pe_bl)) pss_nil)
      (pss_cons (ps_set (i := 11) sc_law.nd rfl (Or.inl rfl) (pe_cl cinserted hr (by decide) (by rfl) (pa_cons (pv 10) (pa_cons (pv 2) (pa_cons (pe_ix ix_list (pv 7) pe_int (fun _ _ => rfl)) (pa_cons (pe_ix ix_list (pv 7) pe_int (fun _ _ => rfl)) (pa_cons (pe_ix ix_list (pv 7) pe_int (fun _ _ => rfl)) (pa_cons (pe_ix ix_list (pv 7) pe_int (fun _ _ => rfl)) pa_nil))))))))
      (pss_cons (ps_if (pt_not (pt_val (pe_cl c_law_follows hr (by decide) (by rfl) (pa_cons (pv 10) (pa_cons (pv 11) (pa_cons (pv 7) (pa_cons (pe_cl c_law_line hr (by decide) (by rfl) (pa_cons (pv 7) pa_nil)) pa_nil))))))) (pss_one (ps_ret pe_bl)) pss_nil)
      (pss_cons (ps_set (i := 12) sc_law.nd rfl (Or.inl rfl) (pe_cl cinserted hr (by decide) (by rfl) (pa_cons (pv 9) (pa_cons (pv 2) (pa_cons (pe_ix ix_list (pv 7) pe_int (fun _ _ => rfl)) (pa_cons (pe_ix ix_list (pv 7) pe_int (fun _ _ => rfl)) (pa_cons (pe_ix ix_list (pv 7) pe_int (fun _ _ => rfl)) (pa_cons (pe_ix ix_list (pv 7) pe_int (fun _ _ => rfl)) pa_nil))))))))
      (pss_cons (ps_if (pt_not (pt_val (pe_cl c_law_follows hr (by decide) (by rfl) (pa_cons (pv 9) (pa_cons (pv 12) (pa_cons (pv 7) (pa_cons (pe_cl c_law_line hr (by decide) (by rfl) (pa_cons (pv 7) pa_nil)) pa_nil))))))) (pss_one (ps_ret pe_bl)) pss_nil)
      (pss_cons (ps_set (i := 13) sc_law.nd rfl (Or.inl rfl) (pe_clK cinsertedD hr (by decide) (by rfl) (fun _ _ _ _ _ _ ws hl => match ws, hl with | [_, _, _, _, _, _], _ => rfl) (pk_cons (pv 9) (pk_cons (pv 2) (pk_cons (pe_ix ix_list (pv 6) pe_int (fun _ _ => rfl)) (pk_cons (pe_ix ix_list (pv 6) pe_int (fun _ _ => rfl)) (pk_cons (pe_ix ix_list (pv 6) pe_int (fun _ _ => rfl)) (pk_cons (pe_ix ix_list (pv 6) pe_int (fun _ _ => rfl)) pk_nil))))))))
      (pss_one (ps_ret (pe_cl c_law_follows hr (by decide) (by rfl) (pa_cons (pv 9) (pa_cons (pv 13) (pa_cons (pv 6) (pa_cons (pe_cl c_law_line hr (by decide) (by rfl) (pa_cons (pv 6) pa_nil)) pa_nil)))))))))))))))))))))))))), ?_⟩
  walk_at "go"
  refine ⟨(sa, ns), rfl, ⟨hS, hlen⟩, ?_⟩
  rintro _ H1 ⟨st, rfl, s1, hst⟩
  walk_at "s"
  refine d_draw hst (by decide) (by decide) fun k k0 k1 => ?_
  walk_at "s"
  refine d_draw hst (by decide) (by decide) fun k2 k20 k21 => ?_
  walk_at "s"
  refine n_lst (szr rfl) fun ks H2 nks s2 hks => ?_
  walk_at "s"
  refine d_draw (s2.st hst) (by decide) (by decide) fun k3 k30 k31 => ?_
  walk_at "s"
  generalize decide (V.int k3 = V.int 0) = named
  refine r_cut (Mid := fun σ' H' => H' = H2 ∧ ∃ o, σ' = [some (.ref sa), some (.ref st), some (sV o), some (.ref ks), some (.bl named), none, none, none, none, none, none, none, none, none, none]) ?_ ?_
  · walk_at "s"
    refine ib (fun _ => ?_) (fun _ => ?_)
    · walk_at "s"
      exact ⟨rfl, none, rfl⟩
    · walk_at "s"
      exact ⟨rfl, some k, rfl⟩
  rintro σ' H' ⟨rfl, o, rfl⟩
  have hst2 := s2.st hst
  walk_at "s"
  refine lcR (by decide) (by decide) ⟨fun i v H0 H1 => ∃ a c, v = .ref a ∧ H0 a = none ∧ CutOk H1 a c ∧ c.own = sV o, ?_, fun _ => rfl, fun i x H5 hi hx s Q' hQ' => ?_, fun cs H3 ys s3 ncs hcs hy hE => ?_⟩
  · rintro i v H0 H1 H2 D xs0 xs h0 hD sb ⟨a, c, rfl, na, hc, ho⟩
    have ne : a ≠ D := fun e => by rw [e, h0] at na; cases na
    exact ⟨a, c, rfl, na, ⟨sb _ _ ne hc.h, hc.own, hc.at0, hc.many, hc.many2⟩, ho⟩
  · have hks5 := s _ _ hks
    walk_at "s"
    refine d_draw (s.st hst2) (by decide) (by decide) fun j j0 j1 => ?_
    walk_at "s"
    obtain ⟨ky, _, eky⟩ := atI_ints (ms := [k, 1000 + k2, k + 1]) (x := j / 2) (by omega) (by show j / 2 < 3; omega)
    refine r_ixLc (SqL.of hks5) eky ?_
    walk_at "s"
    refine ⟨(st, sV o, ky), rfl, ⟨s.st hst2, by cases o <;> first | exact .inl rfl | exact .inr ⟨_, rfl⟩⟩, ?_⟩
    rintro _ H6 ⟨s6, a, c, rfl, na, hc, ho, _⟩
    exact hQ' _ _ s6 ⟨a, c, rfl, na, hc, ho⟩
  obtain ⟨y1, y2, rfl⟩ : ∃ y1 y2, ys = [y1, y2] := by
    match ys, hy with
    | [y1, y2], _ => exact ⟨y1, y2, rfl⟩
  obtain ⟨_, _, a1, c1, rfl, _, hc1, ho1⟩ := hE 0 y1 rfl
  obtain ⟨_, _, a2, c2, rfl, _, hc2, ho2⟩ := hE 1 y2 rfl
  have hks3 := s3 _ _ hks
  have hst3 := s3.st hst2
  walk_at "s"
  refine ⟨(cs, true, [(a1, c1), (a2, c2)]), rfl, ⟨hcs, fun p hp => ?_, Nat.le_of_ble_eq_true rfl⟩, ?_⟩
  · rcases List.mem_cons.mp hp with rfl | hp
    · exact hc1
    · rw [List.mem_singleton.mp hp]; exact hc2
  rintro _ H4 ⟨s4, m1, rfl, hm1⟩
  walk_at "s"
  refine ⟨(cs, false, [(a1, c1), (a2, c2)]), rfl, ⟨s4 _ _ hcs, fun p hp => ?_, Nat.le_of_ble_eq_true rfl⟩, ?_⟩
  · rcases List.mem_cons.mp hp with rfl | hp
    · exact hc1.up s4
    · rw [List.mem_singleton.mp hp]; exact hc2.up s4
  rintro _ H5 ⟨s5, m2, rfl, hm2⟩
  walk_at "s"
  refine n_lst (szr rfl) fun l6 H6 nl6 s6 hl6 => ?_
  have hks6 := s6 _ _ (s5 _ _ (s4 _ _ hks3))
  walk_at "s"
  refine r_cat hl6 hks6 (Nat.le_of_ble_eq_true rfl) fun l7 H7 nl7 s7 hl7 => ?_
  have hks7 := s7 _ _ hks6
  walk_at "s"
  refine n_lst (szr rfl) fun l8 H8 nl8 s8 hl8 => ?_
  refine r_cat (s8 _ _ hl7) hl8 (Nat.le_of_ble_eq_true rfl) fun l9 H9 nl9 s9 hl9 => ?_
  walk_at "s"
  refine ⟨(), rfl, trivial, ?_⟩
  rintro _ H10 ⟨s10, wa, rows, rfl, hws⟩
  walk_at "s"
  refine n_lst (szr rfl) fun pl H11 npl s11 hpl => ?_
  have s310 := ((((((s4.trans s5).trans s6).trans s7).trans s8).trans s9).trans s10)
  have s411 := (((((s5.trans s6).trans s7).trans s8).trans s9).trans s10).trans s11
  have s511 := ((((s6.trans s7).trans s8).trans s9).trans s10).trans s11
  have hm1' := hm1.up s411
  have hm2' := hm2.up s511
  have hws' := hws.up s11
  have hl9' := s11 _ _ (s10 _ _ hl9)
  have hks11 := s11 _ _ (s10 _ _ (s9 _ _ (s8 _ _ hks7)))
  have kvs : ∀ v ∈ ([.int k, .int (1000 + k2), .int (k + 1), .int (1000 + k2)] : List V), v = .non ∨ ∃ i, v = .int i := fun v hv => by
    simp only [List.mem_cons, List.not_mem_nil, or_false] at hv
    rcases hv with rfl | rfl | rfl | rfl <;> exact .inr ⟨_, rfl⟩
  walk_at "s"
  refine r_cut (Mid := fun σ' H' => σ' = [some (.ref sa), some (.ref st), some (sV o), some (.ref ks), some (.bl named), some (.ref cs), some (.ref a1), some (.ref a2), some (.ref pl), none, none, none, none, none, none] ∧ Same H10 H' ∧ PlanOk H' pl) ?_ ?_
  · walk_at "s"
    refine ib (fun _ => ?_) (fun _ => ?_)
    · walk_at "s"
      refine n_lst (szr rfl) fun l12 H12 nl12 s12 hl12 => ?_
      refine r_cat (s12 _ _ hks11) hl12 (Nat.le_of_ble_eq_true rfl) fun l13 H13 nl13 s13 hl13 => ?_
      have s1113 := s12.trans s13
      have hpl13 := s1113 _ _ hpl
      walk_at "s"
      refine r_setL (j := 2) hpl13 rfl ?_
      walk_at "s"
      refine r_setL (j := 4) upd_same rfl ?_
      rw [upd_upd]
      have npl10 : H10 pl = none := npl
      have sm : Same H10 (upd H13 pl (.lst [.ref m1, .ref m2, .ref l13, .ref wa, .int 3])) := (s11.trans s1113).mut npl10
      have nx : ∀ {b : Addr} {o : HO}, H10 b = some o → upd H13 pl (.lst [.ref m1, .ref m2, .ref l13, .ref wa, .int 3]) b = some o := fun h => sm _ _ h
      have n13 : l13 ≠ pl := fun e => by
        rw [e, s12 _ _ hpl] at nl13
        cases nl13
      refine ⟨rfl, sm, m1, m2, l13, wa, 3, [.int k, .int (1000 + k2), .int (k + 1)] ++ [.int (1000 + k2)], rows, ?_⟩
      exact ⟨upd_same, (hm1.up ((((((s5.trans s6).trans s7).trans s8).trans s9).trans s10))).up sm, (hm2.up (((((s6.trans s7).trans s8).trans s9).trans s10))).up sm, by rw [upd_ne n13]; exact hl13, Nat.succ_pos _, Nat.le_of_ble_eq_true rfl, kvs, hws.up sm⟩
    · walk_at "s"
      refine ⟨rfl, s11, m1, m2, l9, wa, 0, [.non, .non, .non] ++ [.int k, .int (1000 + k2), .int (k + 1)] ++ [.int (1000 + k2)], rows, ?_⟩
      exact ⟨hpl, hm1', hm2', hl9', Nat.succ_pos _, Nat.le_of_ble_eq_true rfl, fun v hv => by
        rcases List.mem_append.mp hv with hv | hv
        · rcases List.mem_append.mp hv with hv | hv
          · simp only [List.mem_cons, List.not_mem_nil, or_false] at hv
            rcases hv with rfl | rfl | rfl <;> exact .inl rfl
          · simp only [List.mem_cons, List.not_mem_nil, or_false] at hv
            rcases hv with rfl | rfl | rfl <;> exact .inr ⟨_, rfl⟩
        · rw [List.mem_singleton.mp hv]
          exact .inr ⟨_, rfl⟩, hws'⟩
  rintro σ' H12 ⟨rfl, s12, hplan⟩
  have s312 := s310.trans s12
  have s012 := ((s1.trans s2).trans s3).trans s312
  walk_at "s"
  refine ⟨(st, pl), rfl, ⟨s312.st hst3, hplan⟩, ?_⟩
  rintro v0 H13 ⟨s13, d0, hd0, hw0⟩
  have s313 := s312.trans s13
  have s013 := s012.trans s13
  have hT : Tabs (Tb P1 P2) H13 := fun p hp => by
    simp only [Tb, List.mem_cons, List.not_mem_nil, or_false] at hp
    rcases hp with rfl | rfl
    · exact TabS.nil (s013 _ _ hP1)
    · exact TabS.nil (s013 _ _ hP2)
  have g1 := hc1.up s313
  have g2 := hc2.up s313
  have e1 : ∀ {H' : Hp}, ExtN H13 H' → H' a1 = some (.lst [sV o, .int c1.key, .int c1.at', .int c1.many, .bl c1.rows]) := fun e => by
    have := (g1.upE e).h
    unfold Cut.vs at this
    rw [ho1] at this
    exact this
  have e2 : ∀ {H' : Hp}, ExtN H13 H' → H' a2 = some (.lst [sV o, .int c2.key, .int c2.at', .int c2.many, .bl c2.rows]) := fun e => by
    have := (g2.upE e).h
    unfold Cut.vs at this
    rw [ho2] at this
    exact this
  have x13 := e1 (ExtN.refl H13)
  have y13 := e2 (ExtN.refl H13)
  walk_at "s"
  refine ⟨⟨(o, c1), g1.at0⟩, (v0, d0), rfl, ⟨hd0, hw0, hT⟩, ?_⟩
  rintro v1 H14 ⟨E14, hT14, d1, hd1, hF1, hw1⟩
  dsimp only at hF1
  have x14 := e1 E14
  have y14 := e2 E14
  walk_at "s"
  refine ⟨(a1, c1), rfl, g1.upE E14, ?_⟩
  rintro _ H15 ⟨s15, l15, rfl, hl15⟩
  dsimp only at hl15
  have E15 := E14.trans (ExtN.of s15)
  walk_at "s"
  refine ⟨⟨v0, v1, a1, l15, o, c1, d0, d1⟩, rfl, ⟨hd0.ts (extN_ts E15), hd1.up s15, hF1, g1.upE E15, ho1, hl15⟩, ?_⟩
  rintro _ H16 ⟨s16, rfl⟩
  have E16 := E15.trans (ExtN.of s16)
  have x16 := e1 E16
  have y16 := e2 E16
  have hd1' := (hd1.up s15).up s16
  have hT16 := (hT14.ext s15).ext s16
  walk_at "s"
  walk_at "k"
  refine ⟨⟨(o, c2), g2.at0⟩, (v1, d1), rfl, ⟨hd1', hw1, hT16⟩, ?_⟩
  rintro v2 H17 ⟨E17, hT17, d2, hd2, hF2, hw2⟩
  dsimp only at hF2
  have E17' := E16.trans E17
  have x17 := e1 E17'
  have y17 := e2 E17'
  walk_at "s"
  refine ⟨(a2, c2), rfl, g2.upE E17', ?_⟩
  rintro _ H18 ⟨s18, l18, rfl, hl18⟩
  dsimp only at hl18
  have E18 := E17'.trans (ExtN.of s18)
  walk_at "s"
  refine ⟨⟨v1, v2, a2, l18, o, c2, d1, d2⟩, rfl, ⟨(hd1'.ts (extN_ts E17)).up s18, hd2.up s18, hF2, g2.upE E18, ho2, hl18⟩, ?_⟩
  rintro _ H19 ⟨s19, rfl⟩
  have E19 := E18.trans (ExtN.of s19)
  have x19 := e1 E19
  have y19 := e2 E19
  have hT19 := (hT17.ext s18).ext s19
  walk_at "s"
  walk_at "k"
  refine ⟨⟨(o, c2), g2.at0⟩, (v0, d0), rfl, ⟨hd0.ts (extN_ts E19), hw0, hT19⟩, ?_⟩
  rintro v3 H20 ⟨E20, hT20, d3, hd3, hF3, hw3⟩
  dsimp only at hF3
  have E20' := E19.trans E20
  have x20 := e1 E20'
  have y20 := e2 E20'
  walk_at "s"
  refine ⟨(a2, c2), rfl, g2.upE E20', ?_⟩
  rintro _ H21 ⟨s21, l21, rfl, hl21⟩
  dsimp only at hl21
  have E21 := E20'.trans (ExtN.of s21)
  walk_at "s"
  refine ⟨⟨v0, v3, a2, l21, o, c2, d0, d3⟩, rfl, ⟨hd0.ts (extN_ts E21), hd3.up s21, hF3, g2.upE E21, ho2, hl21⟩, ?_⟩
  rintro _ H22 ⟨s22, rfl⟩
  have E22 := E21.trans (ExtN.of s22)
  have x22 := e1 E22
  have y22 := e2 E22
  have hT22 := (hT20.ext s21).ext s22
  walk_at "s"
  walk_at "k"
  refine r_clK ?_
  walk_at "s"
  refine ⟨rfl, ⟨(o, c1), g1.at0⟩, (v0, d0), rfl, ⟨hd0.ts (extN_ts E22), hw0, hT22⟩, ?_⟩
  rintro v4 H23 ⟨E23, hT23, d4, hd4, hF4, hw4⟩
  dsimp only at hF4
  have E23' := E22.trans E23
  have x23 := e1 E23'
  have y23 := e2 E23'
  walk_at "s"
  refine ⟨(a1, c1), rfl, g1.upE E23', ?_⟩
  rintro _ H24 ⟨s24, l24, rfl, hl24⟩
  dsimp only at hl24
  have E24 := E23'.trans (ExtN.of s24)
  walk_at "s"
  refine ⟨⟨v0, v4, a1, l24, o, c1, d0, d4⟩, rfl, ⟨hd0.ts (extN_ts E24), hd4.up s24, hF4, g1.upE E24, ho1, hl24⟩, ?_⟩
  rintro _ H25 ⟨s25, rfl⟩
  exact hq _ _ rfl
end
end Sw

set_option maxHeartbeats 0
namespace Sw
open PySem PySem.Spec PyProof.Rows L2
/-- the defs of the text: name, place -/
def dAt (x : Str) (i : Nat) : He.DefD := ⟨(x, none), x, x, defArgs (topS i), defBody (topS i), defScope (topS i), [], []⟩
def fnA : List He.DefD := [dAt "changed_areas" 2, dAt "changed_parts" 3, dAt "range_of" 4, dAt "area_of" 9, dAt "lines_of" 10, dAt "ranks_of" 11, dAt "inserted" 12, dAt "inserted_pair" 13, dAt "restructured" 14, dAt "restructured_area" 15,
  dAt "_law_mixed" 17, dAt "_law_draw" 18, dAt "_law_start" 19, dAt "_law_near" 20, dAt "_law_words" 21, dAt "_law_is_cell" 22, dAt "_law_name" 23, dAt "_law_signs" 24, dAt "_law_text" 25, dAt "_law_amount" 26, dAt "_law_scalar" 27, dAt "_law_array" 28, dAt "_law_area" 29, dAt "_law_leaf" 30, dAt "_law_filled" 31]
def fnB : List He.DefD := [dAt "_law_call" 32, dAt "_law_apply" 33, dAt "_law_let" 34, dAt "_law_lambda" 35, dAt "_law_node" 36, dAt "_law_parts" 37, dAt "_law_size" 38, dAt "_law_fits" 39, dAt "_law_grown" 40, dAt "_law_gathered" 41, dAt "_law_tree" 42, dAt "_law_same" 43, dAt "_law_is_area" 44, dAt "_law_meant" 45, dAt "_law_axis" 46, dAt "_law_covers" 47, dAt "_law_line" 48, dAt "_law_due" 49, dAt "_law_led" 50, dAt "_law_follows" 51, dAt "_law_cut" 52, dAt "_law_marks" 53, dAt "law" 54]
def fnD : List He.DefD := fnA ++ fnB
def nmA : List Str := ["changed_areas", "changed_parts", "range_of", "area_of", "lines_of", "ranks_of", "inserted", "inserted_pair", "restructured", "restructured_area", "_law_mixed", "_law_draw", "_law_start", "_law_near", "_law_words", "_law_is_cell", "_law_name", "_law_signs", "_law_text", "_law_amount", "_law_scalar", "_law_array", "_law_area", "_law_leaf", "_law_filled"]
def nmB : List Str := ["_law_call", "_law_apply", "_law_let", "_law_lambda", "_law_node", "_law_parts", "_law_size", "_law_fits", "_law_grown", "_law_gathered", "_law_tree", "_law_same", "_law_is_area", "_law_meant", "_law_axis", "_law_covers", "_law_line", "_law_due", "_law_led", "_law_follows", "_law_cut", "_law_marks"]
def nms : List Str := nmA ++ nmB
def frees : List Str := ["len", "int", "list", "tuple", "min", "max", "sum", "sorted", "isinstance", "range", "reversed", "str", "bool"]
def faD : List He.Fa := (.glo "law" :: nms.map He.Fa.glo) ++ frees.map He.Fa.free ++ [.int "ROWS" 20, .int "COLUMNS" 10, .glo "LOST", .glo "AREA_KINDS"]
def exD (K : PySem.W.Frag) : Bool := decide ((He.cT K ("inserted", none)).2 ≠ (He.cT K ("restructured", none)).2) && He.tupB K "LOST" [.str "error", .str "REF"] && He.tupB K "AREA_KINDS" [.str "cell", .str "range", .str "rows", .str "columns"]
def tfD : List He.Defn := [("inserted", none), ("restructured", none)]
abbrev R : PySem.W.OpenRow := PySem.W.OpenLaw.row PySem.Challenge.rw_sheetworks_k18_whole_insertion
abbrev hk : PySem.W.Hook := He.hookX 4 faD fnD [] tfD exD
def ob (s : PySem.W.SharedT) : He.AlX := He.obsX 4 faD fnD [] tfD exD (HandSHeadRun.getT s)
theorem ob_eq (s : PySem.W.SharedT) : ob s = hk.obs s.abs := He.obsX_eq (HandSHeadRun.getT_eq s)
def loose : List Str := ("AREA_KINDS" :: "ROWS" :: "COLUMNS" :: "LOST" :: nms : List Str)
theorem run (w : World) : HandSHeadRun.RunEq R (PySem.W.view R.prog [54]) hk ob 2000 loose w := by
  intro os
  kernel_rfl
end Sw

set_option maxHeartbeats 4000000
namespace Sw
open PySem PySem.Spec PyProof.Rows L2 C8 LamX NdefX
section
variable {P : Program} {w : World} {K : PySem.W.Frag} {h base : Heap} {mg : Str → Option Value}
theorem df_of (c : He.SaysD faD fnD K) (X : K.In h) (G : h.Ns mainGlobals mg) (x : Str) (i n m : Nat) (hn : fnD[n]? = some (dAt x i)) (hf : faD[m]? = some (.glo x)) : Df K mg x i := by
  obtain ⟨fd, F⟩ := c.def_ n (d := dAt x i) hn
  exact ⟨_, fd, F, He.glo_ok X G (c.fact m (f := .glo x) hf)⟩
theorem dfc_of (c : He.SaysD faD fnD K) (X : K.In h) (G : h.Ns mainGlobals mg) (x : Str) (i n m : Nat) (hn : fnD[n]? = some (dAt x i)) (hf : faD[m]? = some (.glo x)) : DfC K mg x i (He.codeOf K (x, none)) := by
  obtain ⟨fd, F⟩ := c.def_ n (d := dAt x i) hn
  refine ⟨_, fd, F, He.glo_ok X G (c.fact m (f := .glo x) hf), ?_⟩
  obtain ⟨oc, od, dV, kV, doc, pm, an, cdv, ct, osl, rfl, lk, hcI, _, _⟩ := F.ex
  obtain ⟨c', rfl⟩ := He.codeIn_ref hcI
  have e := He.codeOf_eq (p := (x, none)) lk rfl
  rw [e]
structure Hd (K : PySem.W.Frag) (mg : Str → Option Value) : Prop where
  d_changed_areas : Df K mg "changed_areas" 2
  d_changed_parts : Df K mg "changed_parts" 3
  d_range_of : Df K mg "range_of" 4
  d_area_of : Df K mg "area_of" 9
  d_lines_of : Df K mg "lines_of" 10
  d_ranks_of : Df K mg "ranks_of" 11
  d_inserted : Df K mg "inserted" 12
  d_inserted_pair : Df K mg "inserted_pair" 13
  d_restructured : Df K mg "restructured" 14
  d_restructured_area : Df K mg "restructured_area" 15
  d__law_mixed : Df K mg "_law_mixed" 17
  d__law_draw : Df K mg "_law_draw" 18
  d__law_start : Df K mg "_law_start" 19
  d__law_near : Df K mg "_law_near" 20
  d__law_words : Df K mg "_law_words" 21
  d__law_is_cell : Df K mg "_law_is_cell" 22
  d__law_name : Df K mg "_law_name" 23
  d__law_signs : Df K mg "_law_signs" 24
  d__law_text : Df K mg "_law_text" 25
  d__law_amount : Df K mg "_law_amount" 26
  d__law_scalar : Df K mg "_law_scalar" 27
  d__law_array : Df K mg "_law_array" 28
  d__law_area : Df K mg "_law_area" 29
  d__law_leaf : Df K mg "_law_leaf" 30
  d__law_filled : Df K mg "_law_filled" 31
  d__law_call : Df K mg "_law_call" 32
  d__law_apply : Df K mg "_law_apply" 33
  d__law_let : Df K mg "_law_let" 34
  d__law_lambda : Df K mg "_law_lambda" 35
  d__law_node : Df K mg "_law_node" 36
  d__law_parts : Df K mg "_law_parts" 37
  d__law_size : Df K mg "_law_size" 38
  d__law_fits : Df K mg "_law_fits" 39
  d__law_grown : Df K mg "_law_grown" 40
  d__law_gathered : Df K mg "_law_gathered" 41
  d__law_tree : Df K mg "_law_tree" 42
  d__law_same : Df K mg "_law_same" 43
  d__law_is_area : Df K mg "_law_is_area" 44
  d__law_meant : Df K mg "_law_meant" 45
  d__law_axis : Df K mg "_law_axis" 46
  d__law_covers : Df K mg "_law_covers" 47
  d__law_line : Df K mg "_law_line" 48
  d__law_due : Df K mg "_law_due" 49
  d__law_led : Df K mg "_law_led" 50
  d__law_follows : Df K mg "_law_follows" 51
  d__law_cut : Df K mg "_law_cut" 52
  d__law_marks : Df K mg "_law_marks" 53
  e_inserted : DfC K mg "inserted" 12 (He.codeOf K ("inserted", none))
  e_restructured : DfC K mg "restructured" 14 (He.codeOf K ("restructured", none))
  e_law : DfC K mg "law" 54 (He.codeOf K ("law", none))
  B : Bi mg
  rR : ∃ u, mg "ROWS" = some u ∧ RelV (.int 20) u
  rC : ∃ u, mg "COLUMNS" = some u ∧ RelV (.int 10) u
  rL : mg "LOST" = some (.ref (He.ga K "LOST")) ∧ RelV (.ref (He.ga K "LOST")) (.ref (He.ga K "LOST"))
  rK : mg "AREA_KINDS" = some (.ref (He.ga K "AREA_KINDS")) ∧ RelV (.ref (He.ga K "AREA_KINDS")) (.ref (He.ga K "AREA_KINDS"))
  tL : ∀ H, Dt K H (.ref (He.ga K "LOST")) (.tuple [.str "error", .str "REF"])
  tK : ∀ H, SqT K H (He.ga K "AREA_KINDS") (kinds4.map V.str)
  ne : (He.cT K ("inserted", none)).2 ≠ (He.cT K ("restructured", none)).2
theorem hd_of {w : World} (X : K.In h) (G : h.Ns mainGlobals mg) (c : He.SaysX faD fnD [] tfD exD w h K) : Hd K mg := by
  have d := c.t.d
  have m := c.more
  unfold exD at m
  rw [Bool.and_eq_true, Bool.and_eq_true] at m
  obtain ⟨⟨m1, m2⟩, m3⟩ := m
  exact {
    d_changed_areas := df_of d X G "changed_areas" 2 0 1 rfl rfl
    d_changed_parts := df_of d X G "changed_parts" 3 1 2 rfl rfl
    d_range_of := df_of d X G "range_of" 4 2 3 rfl rfl
    d_area_of := df_of d X G "area_of" 9 3 4 rfl rfl
    d_lines_of := df_of d X G "lines_of" 10 4 5 rfl rfl
    d_ranks_of := df_of d X G "ranks_of" 11 5 6 rfl rfl
    d_inserted := df_of d X G "inserted" 12 6 7 rfl rfl
    d_inserted_pair := df_of d X G "inserted_pair" 13 7 8 rfl rfl
    d_restructured := df_of d X G "restructured" 14 8 9 rfl rfl
    d_restructured_area := df_of d X G "restructured_area" 15 9 10 rfl rfl
    d__law_mixed := df_of d X G "_law_mixed" 17 10 11 rfl rfl
    d__law_draw := df_of d X G "_law_draw" 18 11 12 rfl rfl
    d__law_start := df_of d X G "_law_start" 19 12 13 rfl rfl
    d__law_near := df_of d X G "_law_near" 20 13 14 rfl rfl
    d__law_words := df_of d X G "_law_words" 21 14 15 rfl rfl
    d__law_is_cell := df_of d X G "_law_is_cell" 22 15 16 rfl rfl
    d__law_name := df_of d X G "_law_name" 23 16 17 rfl rfl
    d__law_signs := df_of d X G "_law_signs" 24 17 18 rfl rfl
    d__law_text := df_of d X G "_law_text" 25 18 19 rfl rfl
    d__law_amount := df_of d X G "_law_amount" 26 19 20 rfl rfl
    d__law_scalar := df_of d X G "_law_scalar" 27 20 21 rfl rfl
    d__law_array := df_of d X G "_law_array" 28 21 22 rfl rfl
    d__law_area := df_of d X G "_law_area" 29 22 23 rfl rfl
    d__law_leaf := df_of d X G "_law_leaf" 30 23 24 rfl rfl
    d__law_filled := df_of d X G "_law_filled" 31 24 25 rfl rfl
    d__law_call := df_of d X G "_law_call" 32 25 26 rfl rfl
    d__law_apply := df_of d X G "_law_apply" 33 26 27 rfl rfl
    d__law_let := df_of d X G "_law_let" 34 27 28 rfl rfl
    d__law_lambda := df_of d X G "_law_lambda" 35 28 29 rfl rfl
    d__law_node := df_of d X G "_law_node" 36 29 30 rfl rfl
    d__law_parts := df_of d X G "_law_parts" 37 30 31 rfl rfl
    d__law_size := df_of d X G "_law_size" 38 31 32 rfl rfl
    d__law_fits := df_of d X G "_law_fits" 39 32 33 rfl rfl
    d__law_grown := df_of d X G "_law_grown" 40 33 34 rfl rfl
    d__law_gathered := df_of d X G "_law_gathered" 41 34 35 rfl rfl
    d__law_tree := df_of d X G "_law_tree" 42 35 36 rfl rfl
    d__law_same := df_of d X G "_law_same" 43 36 37 rfl rfl
    d__law_is_area := df_of d X G "_law_is_area" 44 37 38 rfl rfl
    d__law_meant := df_of d X G "_law_meant" 45 38 39 rfl rfl
    d__law_axis := df_of d X G "_law_axis" 46 39 40 rfl rfl
    d__law_covers := df_of d X G "_law_covers" 47 40 41 rfl rfl
    d__law_line := df_of d X G "_law_line" 48 41 42 rfl rfl
    d__law_due := df_of d X G "_law_due" 49 42 43 rfl rfl
    d__law_led := df_of d X G "_law_led" 50 43 44 rfl rfl
    d__law_follows := df_of d X G "_law_follows" 51 44 45 rfl rfl
    d__law_cut := df_of d X G "_law_cut" 52 45 46 rfl rfl
    d__law_marks := df_of d X G "_law_marks" 53 46 47 rfl rfl
    e_inserted := dfc_of d X G "inserted" 12 6 7 rfl rfl
    e_restructured := dfc_of d X G "restructured" 14 8 9 rfl rfl
    e_law := dfc_of d X G "law" 54 47 0 rfl rfl
    B := ⟨He.free_ok X G (d.fact 48 (f := .free "len") rfl), He.free_ok X G (d.fact 49 (f := .free "int") rfl), He.free_ok X G (d.fact 50 (f := .free "list") rfl), He.free_ok X G (d.fact 51 (f := .free "tuple") rfl), He.free_ok X G (d.fact 52 (f := .free "min") rfl), He.free_ok X G (d.fact 53 (f := .free "max") rfl), He.free_ok X G (d.fact 54 (f := .free "sum") rfl), He.free_ok X G (d.fact 55 (f := .free "sorted") rfl), He.free_ok X G (d.fact 56 (f := .free "isinstance") rfl), He.free_ok X G (d.fact 57 (f := .free "range") rfl), He.free_ok X G (d.fact 58 (f := .free "reversed") rfl), He.free_ok X G (d.fact 59 (f := .free "str") rfl), He.free_ok X G (d.fact 60 (f := .free "bool") rfl)⟩
    rR := let ⟨t, e⟩ := He.int_ok X G (d.fact 61 (f := .int "ROWS" 20) rfl); ⟨_, e, t, rfl⟩
    rC := let ⟨t, e⟩ := He.int_ok X G (d.fact 62 (f := .int "COLUMNS" 10) rfl); ⟨_, e, t, rfl⟩
    rL := ⟨He.glo_ok X G (d.fact 63 (f := .glo "LOST") rfl), rfl⟩
    rK := ⟨He.glo_ok X G (d.fact 64 (f := .glo "AREA_KINDS") rfl), rfl⟩
    tL := fun H => .tup (He.tupB_ok m2 H) (.cons (.str _) (.cons (.str _) .nil))
    tK := fun H => He.tupB_ok m3 H
    ne := of_decide_eq_true m1 }
theorem law_all (D : Hd K mg) (TI : TabB base mg (He.cT K ("inserted", none)).1 (He.cT K ("inserted", none)).2) (TR : TabB base mg (He.cT K ("restructured", none)).1 (He.cT K ("restructured", none)).2) : ClD P w K mg base 42 "law" 54 ["_law_script"] (spLaw K (He.cT K ("inserted", none)).2 (He.cT K ("restructured", none)).2) := by
  have B := D.B
  obtain ⟨uR, gR⟩ := D.rR
  obtain ⟨uC, gC⟩ := D.rC
  have c_law_mixed := cl_mixed (P := P) (w := w) (K := K) (base := base) D.d__law_mixed B 
  have c_dL := cl_drawL (P := P) (w := w) (K := K) (base := base) D.d__law_draw B c_law_mixed
  have c_law_draw := Cl.draw c_dL
  have c_law_near := cl_near (P := P) (w := w) (K := K) (base := base) D.d__law_near B c_law_draw
  have c_sL := cl_startL (P := P) (w := w) (K := K) (base := base) D.d__law_start B c_dL
  have c_law_start := Cl.start c_sL
  have c_law_signs := cl_signs (P := P) (w := w) (K := K) (base := base) D.d__law_signs 
  have c_law_text := cl_text (P := P) (w := w) (K := K) (base := base) D.d__law_text B c_law_draw c_law_signs
  have c_law_amount := cl_amount (P := P) (w := w) (K := K) (base := base) D.d__law_amount B c_law_draw
  have c_law_scalar := cl_scalar (P := P) (w := w) (K := K) (base := base) D.d__law_scalar B c_law_draw c_law_text c_law_amount
  have c_law_array := cl_array (P := P) (w := w) (K := K) (base := base) D.d__law_array B c_law_draw c_law_scalar
  have c_law_area := cl_area (P := P) (w := w) (K := K) (base := base) D.d__law_area B c_law_draw c_law_near
  have c_law_is_cell := cl_is_cell (P := P) (w := w) (K := K) (base := base) D.d__law_is_cell B 
  have c_law_name := cl_name (P := P) (w := w) (K := K) (base := base) D.d__law_name B c_law_draw c_law_is_cell
  have c_law_filled := cl_filled (P := P) (w := w) (K := K) (base := base) D.d__law_filled B c_law_draw
  have c_law_apply := cl_apply (P := P) (w := w) (K := K) (base := base) D.d__law_apply B c_law_draw c_law_filled
  have c_law_let := cl_let (P := P) (w := w) (K := K) (base := base) D.d__law_let B c_law_draw c_law_name c_law_filled
  have c_law_lambda := cl_lambda (P := P) (w := w) (K := K) (base := base) D.d__law_lambda B c_law_draw c_law_name
  have c_law_call := cl_call (P := P) (w := w) (K := K) (base := base) D.d__law_call B c_law_draw c_law_filled
  have c_law_node := cl_node (P := P) (w := w) (K := K) (base := base) D.d__law_node B c_law_draw c_law_apply c_law_call c_law_lambda c_law_let
  have c_law_leaf := cl_leaf (P := P) (w := w) (K := K) (base := base) D.d__law_leaf B c_law_draw c_law_area c_law_array c_law_call c_law_lambda c_law_let c_law_name c_law_scalar
  have c_law_parts := cl_parts (P := P) (w := w) (K := K) (base := base) D.d__law_parts B 
  have c_size := cl_size (P := P) (w := w) (K := K) (base := base) D.d__law_size B c_law_parts
  have c_law_fits := cl_fits (P := P) (w := w) (K := K) (base := base) D.d__law_fits B 17 (c_size 17)
  have c_law_grown := cl_grown (P := P) (w := w) (K := K) (base := base) D.d__law_grown B c_law_leaf c_law_node c_law_fits
  have c_law_gathered := cl_gathered (P := P) (w := w) (K := K) (base := base) D.d__law_gathered B c_law_draw (c_size 16)
  have c_law_tree := cl_tree (P := P) (w := w) (K := K) (base := base) D.d__law_tree B c_law_draw c_law_leaf c_law_node c_law_fits c_law_grown c_law_gathered
  have c_law_words := cl_words (P := P) (w := w) (K := K) (base := base) D.d__law_words B 
  have c_law_cut := cl_cut (P := P) (w := w) (K := K) (base := base) D.d__law_cut B c_law_draw c_law_near
  have c_law_marks := cl_marks (P := P) (w := w) (K := K) (base := base) D.d__law_marks B 
  have c_law_same := cl_same (P := P) (w := w) (K := K) (base := base) D.d__law_same B 2
  have c_law_is_area := cl_is_area (P := P) (w := w) (K := K) (base := base) D.d__law_is_area B 
  have c_law_meant := cl_meant (P := P) (w := w) (K := K) (base := base) D.d__law_meant B 
  have c_law_axis := cl_axis (P := P) (w := w) (K := K) (base := base) D.d__law_axis B 
  have c_law_line := cl_line (P := P) (w := w) (K := K) (base := base) D.d__law_line B 
  have c_law_due := cl_due (P := P) (w := w) (K := K) (base := base) D.d__law_due B 
  have carea_of := cl_area_of (P := P) (w := w) (K := K) (base := base) D.d_area_of B gR gC
  have c_law_covers := cl_covers (P := P) (w := w) (K := K) (base := base) D.d__law_covers B c_law_same
  have c_law_led := cl_led (P := P) (w := w) (K := K) (base := base) D.d__law_led B carea_of c_law_meant c_law_axis c_law_due c_law_same c_law_covers
  have c_law_follows := cl_follows (P := P) (w := w) (K := K) (base := base) D.d__law_follows B c_law_is_area c_law_same c_law_led 35
  have G : Prg K mg (He.ga K "LOST") (He.ga K "AREA_KINDS") (He.cT K ("inserted", none)).1 (He.cT K ("restructured", none)).1 := ⟨D.d_changed_areas, D.d_changed_parts, D.d_range_of, D.d_lines_of, D.d_ranks_of, D.d_inserted_pair, D.d_restructured_area, D.e_inserted, D.e_restructured, D.rL, D.tL, D.rK, D.tK⟩
  have a0 : OC := ⟨(none, ⟨.non, 0, 0, 1, true⟩), by decide⟩
  have cI : ClD P w K mg base 39 "inserted" 12 ["tree", "own", "key", "at", "many", "is_rows"] (spInsU K (He.cT K ("inserted", none)).2 (He.cT K ("restructured", none)).2) := ClD.all a0 fun a => cl_insertedD a.1.1 a.1.2 G B a.2 D.ne TI TR gR gC
  exact cl_law D.e_law B c_law_start c_law_draw c_law_cut c_law_marks c_law_words c_law_tree cI c_law_follows c_law_line
end
end Sw
open PySem PySem.W PySem.Calls PyProof.Rows
theorem PySem.Challenge.cw_sheetworks_k18_whole_insertion_holds : PySem.Challenge.rw_sheetworks_k18_whole_insertion.Holds := by
  w_on; o_law
  refine HandSHeadRun.head_any (r := OpenLaw.row PySem.Challenge.rw_sheetworks_k18_whole_insertion) (q := view (OpenLaw.row PySem.Challenge.rw_sheetworks_k18_whole_insertion).prog [54]) (H := Sw.hk) (ob := Sw.ob) (M := 2000) (loose := Sw.loose) (d := HandSHeadRun.topDef (OpenLaw.row PySem.Challenge.rw_sheetworks_k18_whole_insertion).prog 54) (kwd := []) Sw.ob_eq
    (by kernel_rfl) (fun s => by kernel_rfl) Sw.run (by kernel_rfl) (by kernel_rfl) (by kernel_rfl) (by rfl) (by first | assumption | decide +kernel) (by decide +kernel) ⟨rfl, rfl, rfl, rfl, rfl, by decide +kernel⟩ ?hw ?hc
  case hw => w_witness2
  case hc =>
    refine LamX.walk_ofTsE (l := PySem.Challenge.rw_sheetworks_k18_whole_insertion) (n := 63) (k := 42) (x := "_law_script") (CX := fun _ => L2.CX0) rfl (by decide) (by kernel_rfl) ⟨rfl, by decide, by decide⟩ ?F (fun _ _ _ _ _ z => z)
    intro w mg fa h Y G hmg0
    obtain ⟨K, KX, c⟩ := Y
    have hmg : mg ("law" : PySem.Str) = some (.ref fa) := by
      have e : (HandSHeadRun.topDef (OpenLaw.row PySem.Challenge.rw_sheetworks_k18_whole_insertion).prog 54).name = ("law" : PySem.Str) := by kernel_rfl
      rw [← e]
      exact hmg0
    have D := Sw.hd_of KX G c
    obtain ⟨f, fd, F, hm, _⟩ := D.e_law.ex
    have ef : f = fa := by
      rw [hmg] at hm
      cases hm
      rfl
    subst ef
    have hI : (("inserted", none) : He.Defn) ∈ Sw.tfD := List.mem_cons_self
    have hR : (("restructured", none) : He.Defn) ∈ Sw.tfD := List.mem_cons_of_mem _ List.mem_cons_self
    refine ⟨K, KX, fd, Sw.tfD.map (He.cT K), Sw.spLaw K (He.cT K ("inserted", none)).2 (He.cT K ("restructured", none)).2, ?_, ?_, ?_, ?_, ?_, ?_⟩
    · intro p hp
      obtain ⟨q, hq, rfl⟩ := List.mem_map.mp hp
      exact c.empty q hq
    · intro p hp
      obtain ⟨q, hq, rfl⟩ := List.mem_map.mp hp
      exact c.out q hq
    · intro p hp
      obtain ⟨q, hq, rfl⟩ := List.mem_map.mp hp
      exact PySem.W.codeHd_of_K KX (c.hd q hq)
    · exact fun s u => L2.FunD.bindsA (ps := ["_law_script"]) F (fun _ _ _ _ _ _ us hl => match us, hl with | [_], _ => rfl) s [u] rfl
    · intro H a ns hl _ hH hS
      exact ⟨(a, ns), rfl, ⟨hS, hl, hH _ (List.mem_map.mpr ⟨_, hI, rfl⟩), hH _ (List.mem_map.mpr ⟨_, hR, rfl⟩)⟩, fun v H' e => e⟩
    · intro base KB GB TB
      exact (Sw.law_all (P := (PySem.Challenge.rw_sheetworks_k18_whole_insertion).prog) (w := w) D (TB _ (List.mem_map.mpr ⟨_, hI, rfl⟩)) (TB _ (List.mem_map.mpr ⟨_, hR, rfl⟩))).fn F hm
