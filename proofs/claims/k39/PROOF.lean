import PyProof.Rows.All
import Wide.All
import OpenK.AllK
import Wide.FinOn
import HandS.ForMost
import HandS.IsInst
import KE.KExcSuper
import HandS.ForExc
import HandS.ExcInit
import HandS.ExcField
import HandS.ExcIs
import HandS.TryOnly
import HandS.ExcOwn
import HandS.Conv
import PySem.Challenge.RW_promisesowned_k39_whole_greatest_closed
set_option Elab.async false
set_option linter.all false
set_option maxRecDepth 100000
set_option maxHeartbeats 4000000
/-! Rd: relations that do not ask for a type ahead, and steps of a reading. -/
namespace Rd
open PySem PySem.Spec PyProof.Rows L2
section
variable {X : Cx}
/-! ### operators whatever the values are -/
def rAddI : R2 := rI0 fun i j => .int (i + j)
def rAddS : R2 := fun x y H Q => ∃ i j, x = .str i ∧ y = .str j ∧ i.length + j.length ≤ sizeLine ∧ Q (.str (i ++ j)) H
def rAddA (K : PySem.W.Frag) : R2 := fun x y H Q => rAddI x y H Q ∨ (rAddS x y H Q ∨ (rCat x y H Q ∨ rCatT K x y H Q))
theorem op_addA : OpR X (binaryOp .Add) (rAddA X.K) := op_add.or (op_add_str.or (op_cat.or op_catT))
def rSubI : R2 := rI0 fun i j => .int (i - j)
theorem op_subA : OpR X (binaryOp .Sub) rSubI := op_sub
def rMulI : R2 := rI CMul fun i j => .int (i * j)
def rMulA : R2 := fun x y H Q => rMulI x y H Q ∨ rRep x y H Q
theorem op_mulA : OpR X (binaryOp .Mult) rMulA := op_mul.or op_rep
def rDivI : R2 := rI CDiv fun i j => .int (i / j)
theorem op_divA : OpR X (binaryOp .FloorDiv) rDivI := op_fdiv
def rModI : R2 := rI (fun _ j => 0 < j) fun i j => .int (i % j)
theorem op_modA : OpR X (binaryOp .Mod) rModI := op_mod
def rPowI : R2 := rI CPow fun i j => .int (i ^ j.toNat)
theorem op_powA : OpR X (binaryOp .Pow) rPowI := op_pow
def rNegI : V → Hp → VK → Prop := rU fun i => .int (-i)
theorem un_negA : UnR X (unaryOp .USub) rNegI := un_neg
def rIAddA (K : PySem.W.Frag) : R2 := fun x y H Q => rAddI x y H Q ∨ rAddS x y H Q
theorem iop_addA : OpR X (inplaceOp .Add) (rIAddA X.K) := iop_add.or iop_add_str
theorem iop_subA : OpR X (inplaceOp .Sub) rSubI := iop_sub
theorem ip_addA : PIp X .Add (rIAddA X.K) := fun pins s σ H x y v u Q I rx ry h => augR iop_addA I rx ry h
theorem ip_subA : PIp X .Sub rSubI := fun pins s σ H x y v u Q I rx ry h => augR iop_subA I rx ry h
/-! ### comparisons -/
def rLtI : R2 := rI0 fun i j => .bl (decide (i < j))
def rLeI : R2 := rI0 fun i j => .bl (decide (i ≤ j))
def rGtI : R2 := rI0 fun i j => .bl (decide (j < i))
def rGeI : R2 := rI0 fun i j => .bl (decide (j ≤ i))
theorem op_ltA : OpR X (compareOp .Lt) rLtI := op_lt
theorem op_leA : OpR X (compareOp .LtE) rLeI := op_le
theorem op_gtA : OpR X (compareOp .Gt) rGtI := op_gt
theorem op_geA : OpR X (compareOp .GtE) rGeI := op_ge
def rEqA (K : PySem.W.Frag) : R2 := fun x y H Q => rEq x y H Q ∨ rEqD K x y H Q
def rNeA (K : PySem.W.Frag) : R2 := fun x y H Q => rNe x y H Q ∨ rNeD K x y H Q
theorem op_eqA (hu : X.A.units + 64 < cLine) : OpR X (compareOp .Eq) (rEqA X.K) := op_eq.or (op_eqD hu)
theorem op_neA (hu : X.A.units + 64 < cLine) : OpR X (compareOp .NotEq) (rNeA X.K) := op_ne.or (op_neD hu)
def rInS : R2 := fun x y H Q => ∃ i j, x = .str i ∧ y = .str j ∧ Q (.bl (!(Builtin.Str.occurrences j i 0 j.length 1).isEmpty)) H
def rNotInS : R2 := fun x y H Q => ∃ i j, x = .str i ∧ y = .str j ∧ Q (.bl (!(!(Builtin.Str.occurrences j i 0 j.length 1).isEmpty))) H
def rInA (K : PySem.W.Frag) : R2 := fun x y H Q => rIn K false x y H Q ∨ rInS x y H Q
def rNotInA (K : PySem.W.Frag) : R2 := fun x y H Q => rIn K true x y H Q ∨ rNotInS x y H Q
theorem op_inA : OpR X (compareOp .In) (rInA X.K) := op_in_seq.or op_in_str
theorem op_notInA : OpR X (compareOp .NotIn) (rNotInA X.K) := op_notIn_seq.or op_notin_str
def rIsN : R2 := fun x y H Q => y = .non ∧ Q (.bl (decide (x = .non))) H
def rNotN : R2 := fun x y H Q => y = .non ∧ Q (.bl (!decide (x = .non))) H
theorem op_isNA : OpR X (compareOp .Is) rIsN := op_isN
theorem op_notNA : OpR X (compareOp .IsNot) rNotN := op_notN
/-! ### built-ins by name -/
def rLen (K : PySem.W.Frag) : List V → Hp → VK → Prop := fun xs H Q => ∃ x n, xs = [x] ∧ LenV K x H n ∧ Q (.int n) H
theorem call_lenA : CallR X (.builtin "len") (rLen X.K) := call_len
def rListOf (K : PySem.W.Frag) : List V → Hp → VK → Prop := fun xs H Q => ∃ p ys, xs = [.ref p] ∧ (SqL K H p ys ∨ SqT K H p ys) ∧ ∀ l, H l = none → Q (.ref l) (upd H l (.lst ys))
theorem call_listA : CallR X (.type "list") (rListOf X.K) := call_list_of
def rInt1 : List V → Hp → VK → Prop := fun xs H Q => (∃ i, xs = [.int i] ∧ Q (.int i) H) ∨ ∃ k, xs = [.bl k] ∧ Q (.int (if k then 1 else 0)) H
theorem call_intA : CallR X (.type "int") rInt1 := call_int1
def rStrI : List V → Hp → VK → Prop := fun xs H Q => ∃ i, xs = [.int i] ∧ i.natAbs.log2 < 1920 ∧ Q (.str (toString i)) H
theorem call_strA : CallR X (.type "str") rStrI := call_str_int
def rMin2 : List V → Hp → VK → Prop := fun xs H Q => ∃ i j, xs = [.int i, .int j] ∧ Q (.int (if j < i then j else i)) H
def rMax2 : List V → Hp → VK → Prop := fun xs H Q => ∃ i j, xs = [.int i, .int j] ∧ Q (.int (if j > i then j else i)) H
theorem call_minA (hc : X.calm = true) : CallR X (.builtin "min") rMin2 := call_min2 hc
theorem call_maxA (hc : X.calm = true) : CallR X (.builtin "max") rMax2 := call_max2 hc
theorem call_isA : CallR X (.builtin "isinstance") (rIsi X.K) := call_isi
/-! ### truth, slices, what is walked -/
def tTru (K : PySem.W.Frag) (ta : TE) : TT := fun σ H Q => ta σ H fun x H' => ∃ k, TruV K x H' k ∧ Q k H'
theorem pt_tru {a : Expr} {ta : TE} (ha : PE X a ta) (he : ∀ whole, isTrue a X.env whole = (do let v ← whole; standAt a.pos; holding [v] (truthy v)) := by intro _; rfl) : PT X a (tTru X.K ta) := pt_truth ha he
/-- what a for walks: a list, a tuple, a text -/
def Walk (K : PySem.W.Frag) (x : V) (H : Hp) (R : It → Hp → Prop) : Prop :=
  (∃ a, x = .ref a ∧ (∃ xs, SqL K H a xs) ∧ R (Itl K a) H) ∨ (∃ a, x = .ref a ∧ (∃ xs, SqT K H a xs) ∧ R (Itt K a) H) ∨ ∃ z, x = .str z ∧ R (Its z) H
def iAny (K : PySem.W.Frag) (tl : TE) : TI := fun σ H R => tl σ H fun x H1 => Walk K x H1 R
theorem pi_any {tg l : Expr} {tl : TE} (hl : PE X l tl) : PI X tg l (iAny X.K tl) := by
  refine ⟨fun pins s σ H R I h => thn (hl.run pins s σ H _ I h) fun v s1 ⟨x, H1, I1, r1, q1⟩ => ?_⟩
  have fp : ∀ {H' : Hp} {s' : Shared}, Inv X pins σ H' s' → ∀ b ∈ [s'.heap.objs.size], FpOk X pins H' b := fun I' b hb => by
    rw [List.mem_singleton.mp hb]
    exact I'.fpOk (Nat.le_refl _) (I'.hok.fresh (Nat.le_refl _))
  have keep : ∀ {ob b : _} {o : Obj}, s1.heap.get? b = some o → (s1.heap.push ob).get? b = some o := fun e => Heap.get?_push_of_some _ e
  rcases q1 with ⟨a, rfl, ⟨xs, hq⟩, q⟩ | ⟨a, rfl, ⟨xs, hq⟩, q⟩ | ⟨z, rfl, q⟩
  · cases r1
    obtain ⟨its, rv, p, hz⟩ := I1.list hq
    exact wpAny_pyIter_list p.isList ⟨_, [s1.heap.objs.size], _, _, H1, rfl, I1.kept (t' := s1.toks) fun b o e => keep e, turn_list a _, ⟨_, Heap.get?_push_size _ rfl, rfl, rfl⟩, fp I1, q⟩
  · cases r1
    obtain ⟨its, rv, p, hz⟩ := I1.tuple hq
    exact wpAny_pyIter_tuple (show s1.heap.IsTuple a its.toArray from p) ⟨_, [s1.heap.objs.size], _, _, H1, rfl, I1.kept (t' := s1.toks) fun b o e => keep e, turn_tuple a _, ⟨_, Heap.get?_push_size _ rfl, rfl, rfl⟩, fp I1, q⟩
  · obtain ⟨t, rfl⟩ := r1
    cases ha : z.cps.all (· < 128)
    · exact wpAny_pyIter_wide ha (pi_one (tk := s1.toks) I1 _ (turn_str _ z t "str_iterator" (.inr rfl)) ⟨_, Heap.get?_push_size _ rfl, rfl, rfl⟩ q)
    · exact wpAny_pyIter_ascii ha (pi_one (tk := s1.toks) I1 _ (turn_str _ z t "str_ascii_iterator" (.inl rfl)) ⟨_, Heap.get?_push_size _ rfl, rfl, rfl⟩ q)
/-! ### a def of the text, as its callers know it -/
structure Cal (P : Program) (w : World) (K : PySem.W.Frag) (mg : Str → Option Value) (base : Heap) (CX : CXT) (x : Str) (k : Nat) (ps : List Str) (sp : Sp) : Prop where
  ex : ∃ (f : Addr) (fd : FuncData), FnOk P w K mg base CX k f fd ps sp ∧ mg x = some (.ref f) ∧ PySem.W.keepIn K (.ref f) = true ∧ Binds K fd ps []
theorem Cal.mono {P : Program} {w : World} {K : PySem.W.Frag} {mg : Str → Option Value} {base : Heap} {CX : CXT} {x : Str} {j k : Nat} {ps : List Str} {sp : Sp} (c : Cal P w K mg base CX x j ps sp) (h : j ≤ k) : Cal P w K mg base CX x k ps sp := by
  obtain ⟨f, fd, a, b⟩ := c.ex
  exact ⟨f, fd, a.mono h, b⟩
theorem Cal.imp {P : Program} {w : World} {K : PySem.W.Frag} {mg : Str → Option Value} {base : Heap} {CX : CXT} {x : Str} {k : Nat} {ps : List Str} {sp sp' : Sp} (c : Cal P w K mg base CX x k ps sp)
    (h : ∀ vs H Q E, sp' vs H Q E → sp vs H Q E) : Cal P w K mg base CX x k ps sp' := by
  obtain ⟨f, fd, a, b⟩ := c.ex
  exact ⟨f, fd, a.imp h, b⟩
theorem pe_cal {CX : CXT} {E : XK} {x : Str} {k : Nat} {ps : List Str} {sp : Sp} {e : Expr} {es : List Expr} {t : TA} {p pos : Pos} (c : Cal X.prog X.w X.K X.mg X.base CX x k ps sp) (hr : Room k X.A) (hx : Passes CX X E) (ha : PA X (e :: es) t)
    (hg : Gl X x := by rfl) (hdb : (x == ("__debug__" : Str)) = false := by decide) (he : starEach (e :: es) X.env = (false, eval e X.env) :: starEach es X.env := by rfl) (hpl : (backTo pos (starEach es X.env)).any (·.1) = false := by rfl) :
    PE X (.Call (.Name x p) (e :: es) [] pos) (tCall sp [] E t) := by
  obtain ⟨f, fd, a, b, d, g⟩ := c.ex
  exact pe_call a hr hg b d g .nil hx ha hdb he hpl
theorem pe_cal0 {CX : CXT} {E : XK} {x : Str} {k : Nat} {ps : List Str} {sp : Sp} {p pos : Pos} (c : Cal X.prog X.w X.K X.mg X.base CX x k ps sp) (hr : Room k X.A) (hx : Passes CX X E)
    (hg : Gl X x := by rfl) (hdb : (x == ("__debug__" : Str)) = false := by decide) : PE X (.Call (.Name x p) [] [] pos) (tCall sp [] E tNil) := by
  obtain ⟨f, fd, a, b, d, g⟩ := c.ex
  exact pe_call0 a hr hg b d g .nil hx hdb
end
end Rd
namespace Rd
open PySem PySem.Spec PyProof.Rows L2
section
variable {K : PySem.W.Frag} {σ : L2.St} {H : Hp} {D : Ends} {Q : VK} {te ta tb tc : TE} {v x y : V} {i : Nat}
/-! ### steps -/
theorem rd_seq {t u : TS} (h : t { D with nx := u D } σ H) : tSeq t u D σ H := h
theorem rd_asg {g : TG} (h : te σ H fun x H1 => g x σ H1 D.nx) : tAsg te g D σ H := h
theorem rd_gName {R : L2.St → Hp → Prop} (h : R (σ.set i (some v)) H) : gName i v σ H R := h
theorem rd_gSub {to ti : TE} {t : TSet} {R : L2.St → Hp → Prop} (h : to σ H fun o H1 => ti σ H1 fun i H2 => t o i v H2 fun H3 => R σ H3) : gSub to ti t v σ H R := h
theorem rd_drop (h : te σ H fun _ H1 => D.nx σ H1) : tDrop te D σ H := h
theorem rd_ret (h : te σ H D.rt) : tRet te D σ H := h
theorem rd_retN (h : D.rt .non H) : tRetN D σ H := h
theorem rd_if {c : TT} {t u : TS} (h : c σ H fun b H1 => if b = true then t D σ H1 else u D σ H1) : tIfS c t u D σ H := h
theorem rd_next (h : D.nx σ H) : tNext D σ H := h
theorem rd_brk (h : D.bk σ H) : tBreak D σ H := h
theorem rd_cont (h : D.ct σ H) : tCont D σ H := h
theorem rd_par {a b : Nat} {t : TA} (h : t σ H fun vs H1 => ∃ v w, vs = [v, w] ∧ D.nx ((σ.set a (some v)).set b (some w)) H1) : tPar a b t D σ H := h
theorem rd_aug {ti : TIp} (hx : σ[i]? = some (some x)) (h : te σ H fun y H1 => ti x y H1 fun z H2 => D.nx (σ.set i (some z)) H2) : tAug i te ti D σ H := ⟨x, hx, h⟩
theorem rd_var (e : σ[i]? = some (some v)) (h : Q v H) : tVar i σ H Q := ⟨v, e, h⟩
theorem rd_c (h : Q v H) : tC v σ H Q := h
theorem rd_op {r : R2} (h : ta σ H fun x H1 => tb σ H1 fun y H2 => r x y H2 Q) : tOp r ta tb σ H Q := h
theorem rd_un {r : V → Hp → VK → Prop} (h : ta σ H fun x H1 => r x H1 Q) : tUn r ta σ H Q := h
theorem rd_test {R : Bool → Hp → Prop} (h : te σ H fun x H' => ∃ k, x = .bl k ∧ R k H') : tTest te σ H R := h
theorem rd_tru {R : Bool → Hp → Prop} (h : ta σ H fun x H' => ∃ k, TruV K x H' k ∧ R k H') : tTru K ta σ H R := h
theorem rd_nil {R : List V → Hp → Prop} (h : R [] H) : tNil σ H R := h
theorem rd_cons {t : TA} {R : List V → Hp → Prop} (h : ta σ H fun x H1 => t σ H1 fun xs H2 => R (x :: xs) H2) : tCons ta t σ H R := h
theorem rd_call {sp : Sp} {dvs : List V} {E : XK} {t : TA} (h : t σ H fun vs H1 => sp (vs ++ dvs) H1 Q E) : tCall sp dvs E t σ H Q := h
theorem rd_cb {r : List V → Hp → VK → Prop} {t : TA} (h : t σ H fun vs H1 => r vs H1 Q) : tCB r t σ H Q := h
theorem rd_and {t u : TT} {R : Bool → Hp → Prop} (h : t σ H fun c H1 => if c = true then u σ H1 R else R false H1) : tAnd t u σ H R := h
theorem rd_or {t u : TT} {R : Bool → Hp → Prop} (h : t σ H fun c H1 => if c = true then R true H1 else u σ H1 R) : tOr t u σ H R := h
theorem rd_not {t : TT} {R : Bool → Hp → Prop} (h : t σ H fun c H1 => R (!c) H1) : tNot t σ H R := h
theorem rd_andV (h : ta σ H fun x H1 => ∃ c, x = .bl c ∧ if c = true then tb σ H1 Q else Q (.bl false) H1) : tAndV ta tb σ H Q := h
theorem rd_orV (h : ta σ H fun x H1 => ∃ c, x = .bl c ∧ if c = true then Q (.bl true) H1 else tb σ H1 Q) : tOrV ta tb σ H Q := h
theorem rd_notV (h : ta σ H fun x H1 => ∃ c, x = .bl c ∧ Q (.bl (!c)) H1) : tNotV ta σ H Q := h
theorem rd_ifE {t : TT} (h : t σ H fun c H1 => if c = true then ta σ H1 Q else tb σ H1 Q) : tIf t ta tb σ H Q := h
theorem rd_chain {r r' : R2} (h : ta σ H fun x H1 => tb σ H1 fun y H2 => r x y H2 fun z H3 => ∃ k, z = .bl k ∧ (if k = true then tc σ H3 fun w' H4 => r' y w' H4 Q else Q (.bl false) H3)) : tChain r r' ta tb tc σ H Q := h
theorem rd_lst {t : TA} (h : t σ H fun xs H1 => xs.length ≤ sizeLine ∧ ∀ p, H1 p = none → Q (.ref p) (upd H1 p (.lst xs))) : tLst t σ H Q := h
theorem rd_tup {t : TA} (h : t σ H fun xs H1 => xs.length ≤ sizeLine ∧ ∀ p, H1 p = none → Q (.ref p) (upd H1 p (.tup xs))) : tTup t σ H Q := h
theorem rd_bm {T : String} {r : V → List V → Hp → VK → Prop} {to : TE} {t : TA} (h : to σ H fun x H1 => tyV K T x H1 ∧ t σ H1 fun xs H2 => r x xs H2 Q) : tBM K T r to t σ H Q := h
theorem rd_bm0 {T : String} {r : V → List V → Hp → VK → Prop} {to : TE} (h : to σ H fun x H1 => tyV K T x H1 ∧ r x [] H1 Q) : tBM0 K T r to σ H Q := h
/-! ### relations at values -/
theorem rd_addI {a b : Int} (h : Q (.int (a + b)) H) : rAddA K (.int a) (.int b) H Q := .inl ⟨a, b, rfl, rfl, h⟩
theorem rd_addS {a b : Str} (hl : a.length + b.length ≤ sizeLine) (h : Q (.str (a ++ b)) H) : rAddA K (.str a) (.str b) H Q := .inr (.inl ⟨a, b, rfl, rfl, hl, h⟩)
theorem rd_addL {p q : Addr} {xs ys : List V} (hp : H p = some (.lst xs)) (hq : H q = some (.lst ys)) (hl : xs.length + ys.length ≤ sizeLine) (h : ∀ r, H r = none → Q (.ref r) (upd H r (.lst (xs ++ ys)))) : rAddA K (.ref p) (.ref q) H Q := .inr (.inr (.inl ⟨p, q, xs, ys, rfl, rfl, hp, hq, hl, h⟩))
theorem rd_iaddI {a b : Int} (h : Q (.int (a + b)) H) : rIAddA K (.int a) (.int b) H Q := .inl ⟨a, b, rfl, rfl, h⟩
theorem rd_iaddS {a b : Str} (hl : a.length + b.length ≤ sizeLine) (h : Q (.str (a ++ b)) H) : rIAddA K (.str a) (.str b) H Q := .inr ⟨a, b, rfl, rfl, hl, h⟩
theorem rd_sub {a b : Int} (h : Q (.int (a - b)) H) : rSubI (.int a) (.int b) H Q := ⟨a, b, rfl, rfl, h⟩
theorem rd_mulR {a b : Int} (hb : -(2 ^ 64) < b ∧ b < 2 ^ 64) (h : Q (.int (a * b)) H) : rMulA (.int a) (.int b) H Q := .inl ⟨a, b, rfl, rfl, .inr hb, h⟩
theorem rd_mulL {a b : Int} (hb : -(2 ^ 64) < a ∧ a < 2 ^ 64) (h : Q (.int (a * b)) H) : rMulA (.int a) (.int b) H Q := .inl ⟨a, b, rfl, rfl, .inl hb, h⟩
theorem rd_rep {p : Addr} {xs : List V} {k : Int} (hp : H p = some (.lst xs)) (h1 : -(2 ^ 63) ≤ k) (h2 : k < 2 ^ 63) (hl : xs.length * k.toNat ≤ sizeLine) (h : ∀ r, H r = none → Q (.ref r) (upd H r (.lst (List.replicate k.toNat xs).flatten))) : rMulA (.ref p) (.int k) H Q := .inr ⟨p, k, xs, rfl, rfl, hp, h1, h2, hl, h⟩
theorem rd_div {a b : Int} (hb : 0 < b ∧ b < 1073741824) (h : Q (.int (a / b)) H) : rDivI (.int a) (.int b) H Q := ⟨a, b, rfl, rfl, hb, h⟩
theorem rd_mod {a b : Int} (hb : 0 < b) (h : Q (.int (a % b)) H) : rModI (.int a) (.int b) H Q := ⟨a, b, rfl, rfl, hb, h⟩
theorem rd_pow {a b : Int} (hb : 0 ≤ b ∧ b ≤ 1000000 ∧ a.natAbs < 2 ^ 64) (h : Q (.int (a ^ b.toNat)) H) : rPowI (.int a) (.int b) H Q := ⟨a, b, rfl, rfl, hb, h⟩
theorem rd_neg {a : Int} (h : Q (.int (-a)) H) : rNegI (.int a) H Q := ⟨a, rfl, h⟩
theorem rd_lt {a b : Int} (h : Q (.bl (decide (a < b))) H) : rLtI (.int a) (.int b) H Q := ⟨a, b, rfl, rfl, h⟩
theorem rd_le {a b : Int} (h : Q (.bl (decide (a ≤ b))) H) : rLeI (.int a) (.int b) H Q := ⟨a, b, rfl, rfl, h⟩
theorem rd_gt {a b : Int} (h : Q (.bl (decide (b < a))) H) : rGtI (.int a) (.int b) H Q := ⟨a, b, rfl, rfl, h⟩
theorem rd_ge {a b : Int} (h : Q (.bl (decide (b ≤ a))) H) : rGeI (.int a) (.int b) H Q := ⟨a, b, rfl, rfl, h⟩
theorem dI {a b : Int} : decide (V.int a = V.int b) = decide (a = b) := by rw [dec_int]; exact (Bool.beq_eq_decide_eq a b)
theorem dS {a b : Str} : decide (V.str a = V.str b) = decide (a = b) := by rw [dec_str]; exact (Bool.beq_eq_decide_eq a b)
theorem dB {a b : Bool} : decide (V.bl a = V.bl b) = decide (a = b) := by rw [dec_bl]; exact (Bool.beq_eq_decide_eq a b)
theorem rd_eqI {a b : Int} (h : Q (.bl (decide (a = b))) H) : rEqA K (.int a) (.int b) H Q := .inl ⟨rfl, by rw [dI]; exact h⟩
theorem rd_eqS {a b : Str} (h : Q (.bl (decide (a = b))) H) : rEqA K (.str a) (.str b) H Q := .inl ⟨rfl, by rw [dS]; exact h⟩
theorem rd_eqB {a b : Bool} (h : Q (.bl (decide (a = b))) H) : rEqA K (.bl a) (.bl b) H Q := .inl ⟨rfl, by rw [dB]; exact h⟩
theorem rd_neI {a b : Int} (h : Q (.bl (!decide (a = b))) H) : rNeA K (.int a) (.int b) H Q := .inl ⟨rfl, by rw [dI]; exact h⟩
theorem rd_neS {a b : Str} (h : Q (.bl (!decide (a = b))) H) : rNeA K (.str a) (.str b) H Q := .inl ⟨rfl, by rw [dS]; exact h⟩
theorem rd_neB {a b : Bool} (h : Q (.bl (!decide (a = b))) H) : rNeA K (.bl a) (.bl b) H Q := .inl ⟨rfl, by rw [dB]; exact h⟩
theorem rd_eqD {d e : PyData} (hd : Dp K H x d) (he : Dp K H y e) (sd : SeqAt.shaped d = true) (se : SeqAt.shaped e = true) (h : Q (.bl (PyData.eqv d e)) H) : rEqA K x y H Q := .inr ⟨d, e, hd, he, sd, se, h⟩
theorem rd_neD {d e : PyData} (hd : Dp K H x d) (he : Dp K H y e) (sd : SeqAt.shaped d = true) (se : SeqAt.shaped e = true) (h : Q (.bl (!PyData.eqv d e)) H) : rNeA K x y H Q := .inr ⟨d, e, hd, he, sd, se, h⟩
theorem rd_isN (h : Q (.bl (decide (x = .non))) H) : rIsN x .non H Q := ⟨rfl, h⟩
theorem rd_notN (h : Q (.bl (!decide (x = .non))) H) : rNotN x .non H Q := ⟨rfl, h⟩
theorem rd_ixL {p : Addr} {xs : List V} {k : Int} (hp : SqL K H p xs) (ha : atI xs k = some v) (h : Q v H) : rIx K (.ref p) (.int k) H Q := .inl ⟨p, xs, k, v, rfl, rfl, hp, ha, h⟩
theorem rd_ixT {p : Addr} {xs : List V} {k : Int} (hp : SqT K H p xs) (ha : atI xs k = some v) (h : Q v H) : rIx K (.ref p) (.int k) H Q := .inr (.inl ⟨p, xs, k, v, rfl, rfl, hp, ha, h⟩)
theorem rd_ixS {z : Str} {k : Int} {c : Nat} (hl : z.length ≤ sizeLine) (ha : atI z.cps.toList k = some c) (h : Q (.str ⟨#[c]⟩) H) : rIx K (.str z) (.int k) H Q := .inr (.inr ⟨z, k, c, rfl, rfl, hl, ha, h⟩)
theorem rd_setL {p : Addr} {xs : List V} {k : Int} {j : Nat} {R : Hp → Prop} (hp : H p = some (.lst xs)) (hj : ixN xs.length k = some j) (h : R (upd H p (.lst (xs.set j v)))) : rSetL (.ref p) (.int k) v H R := ⟨p, xs, k, j, rfl, rfl, hp, hj, h⟩
theorem rd_inL {p : Addr} {xs : List V} (hp : SqL K H p xs) (hx : flatV x = true) (ha : xs.all flatV = true) (h : Q (.bl (inV x xs)) H) : rInA K x (.ref p) H Q := .inl ⟨p, xs, rfl, .inl hp, hx, ha, h⟩
theorem rd_notInL {p : Addr} {xs : List V} (hp : SqL K H p xs) (hx : flatV x = true) (ha : xs.all flatV = true) (h : Q (.bl (!inV x xs)) H) : rNotInA K x (.ref p) H Q := .inl ⟨p, xs, rfl, .inl hp, hx, ha, h⟩
theorem rd_lenL {p : Addr} {xs : List V} (hp : SqL K H p xs) (h : Q (.int xs.length) H) : rLen K [.ref p] H Q := ⟨_, xs.length, rfl, .inl ⟨xs, hp, rfl⟩, h⟩
theorem rd_lenT {p : Addr} {xs : List V} (hp : SqT K H p xs) (h : Q (.int xs.length) H) : rLen K [.ref p] H Q := ⟨_, xs.length, rfl, .inr ⟨xs, hp, rfl⟩, h⟩
theorem rd_lenS {z : Str} (hl : z.length ≤ sizeLine) (h : Q (.int z.length) H) : rLen K [.str z] H Q := ⟨_, z.length, rfl, ⟨hl, rfl⟩, h⟩
theorem rd_list {p : Addr} {xs : List V} (hp : SqL K H p xs) (h : ∀ l, H l = none → Q (.ref l) (upd H l (.lst xs))) : rListOf K [.ref p] H Q := ⟨p, xs, rfl, .inl hp, h⟩
theorem rd_listT {p : Addr} {xs : List V} (hp : SqT K H p xs) (h : ∀ l, H l = none → Q (.ref l) (upd H l (.lst xs))) : rListOf K [.ref p] H Q := ⟨p, xs, rfl, .inr hp, h⟩
theorem rd_int {a : Int} (h : Q (.int a) H) : rInt1 [.int a] H Q := .inl ⟨a, rfl, h⟩
theorem rd_strI {a : Int} (hl : a.natAbs.log2 < 1920) (h : Q (.str (toString a)) H) : rStrI [.int a] H Q := ⟨a, rfl, hl, h⟩
theorem rd_min {a b : Int} (h : Q (.int (if b < a then b else a)) H) : rMin2 [.int a, .int b] H Q := ⟨a, b, rfl, h⟩
theorem rd_max {a b : Int} (h : Q (.int (if b > a then b else a)) H) : rMax2 [.int a, .int b] H Q := ⟨a, b, rfl, h⟩
theorem rd_isi {n m : String} {b : Bool} (ht : TyX K H x (.type n)) (hb : kitB n m = some b) (h : Q (.bl b) H) : rIsi K [x, .ty m] H Q := ⟨x, .ty m, .type n, .type m, b, rfl, .ty m, ht, kit_ty hb, h⟩
theorem rd_append {p : Addr} {xs : List V} (hp : H p = some (.lst xs)) (hl : xs.length < sizeLine) (h : Q .non (upd H p (.lst (xs ++ [y])))) : rAppend (.ref p) [y] H Q := ⟨p, xs, y, rfl, rfl, hp, hl, h⟩
theorem rd_tyL {p : Addr} {xs : List V} {R : Prop} (hp : H p = some (.lst xs)) (h : R) : tyV K "list" (.ref p) H ∧ R := ⟨.inl ⟨rfl, _, .inl (.inl hp)⟩, h⟩
/-! ### truth -/
theorem rd_bl {b : Bool} {R : Bool → Prop} (h : R b) : ∃ k, V.bl b = .bl k ∧ R k := ⟨b, rfl, h⟩
theorem rd_truB {b : Bool} {R : Bool → Prop} (h : R b) : ∃ k, TruV K (.bl b) H k ∧ R k := ⟨b, rfl, h⟩
theorem rd_truL {p : Addr} {xs : List V} {R : Bool → Prop} (hp : SqL K H p xs) (h : R (!xs.isEmpty)) : ∃ k, TruV K (.ref p) H k ∧ R k := ⟨_, .inl ⟨xs, hp, rfl⟩, h⟩
theorem rd_iteT {c : Prop} [Decidable c] {A B : Prop} (hc : c) (h : A) : if decide c = true then A else B := by rw [decide_eq_true hc]; exact h
theorem rd_iteF {c : Prop} [Decidable c] {A B : Prop} (hc : ¬ c) (h : B) : if decide c = true then A else B := by rw [decide_eq_false hc]; exact h
theorem rd_ite {c : Prop} [Decidable c] {A B : Prop} (h1 : c → A) (h2 : ¬ c → B) : if decide c = true then A else B := by
  by_cases hc : c
  · exact rd_iteT hc (h1 hc)
  · exact rd_iteF hc (h2 hc)
theorem rd_niteT {c : Prop} [Decidable c] {A B : Prop} (hc : ¬ c) (h : A) : if (!decide c) = true then A else B := by rw [decide_eq_false hc]; exact h
theorem rd_niteF {c : Prop} [Decidable c] {A B : Prop} (hc : c) (h : B) : if (!decide c) = true then A else B := by rw [decide_eq_true hc]; exact h
theorem rd_nite {c : Prop} [Decidable c] {A B : Prop} (h1 : ¬ c → A) (h2 : c → B) : if (!decide c) = true then A else B := by
  by_cases hc : c
  · exact rd_niteF hc (h2 hc)
  · exact rd_niteT hc (h1 hc)
theorem rd_iteB {b : Bool} {A B : Prop} (h1 : b = true → A) (h2 : b = false → B) : if b = true then A else B := by
  cases b
  · exact h2 rfl
  · exact h1 rfl
theorem rd_niteB {b : Bool} {A B : Prop} (h1 : b = false → A) (h2 : b = true → B) : if (!b) = true then A else B := by
  cases b
  · exact h1 rfl
  · exact h2 rfl
theorem rd_ite1 {A B : Prop} (h : A) : if true = true then A else B := h
theorem rd_ite0 {A B : Prop} (h : B) : if false = true then A else B := h
/-! ### heaps -/
theorem same_new {p : Addr} {o : HO} (h : H p = none) : Same H (upd H p o) := fun b x e => by
  rw [upd_ne (ne_of_none e h)]
  exact e
theorem same_mut {H' : Hp} {p : Addr} {o : HO} (s : Same H H') (h : H p = none) : Same H (upd H' p o) := fun b x e => by
  rw [upd_ne (ne_of_none e h)]
  exact s b x e
theorem size_of {n : Nat} (h : n ≤ 16000000) : n ≤ sizeLine := Nat.le_trans h (by rw [sizeLine_eq]; decide)
theorem size_lt {n : Nat} (h : n < 16000000) : n < sizeLine := Nat.lt_of_lt_of_le h (by rw [sizeLine_eq]; decide)
end
end Rd
namespace Rd
open PySem PySem.Spec PyProof.Rows L2
/-! ### a statement and the rest, with or without a word between them -/
def tSeqC (t u : TS) : TS := fun D σ H => tSeq t u D σ H ∨ ∃ Mid : L2.St → Hp → Prop, t { D with nx := Mid } σ H ∧ ∀ σ' H', Mid σ' H' → u D σ' H'
theorem pss_consC {X : Cx} {st : Stmt} {rest : List Stmt} {t u : TS} (h1 : PS X st t) (h2 : PSs X rest u) : PSs X (st :: rest) (tSeqC t u) := by
  refine ⟨fun pins s σ H D I h => ?_⟩
  rcases h with h | ⟨Mid, hm, hu⟩
  · exact (pss_cons h1 h2).run pins s σ H D I h
  · refine wpAny_execs_cons (thn (h1.run pins s σ H { D with nx := Mid } I hm) fun f s1 q => ?_)
    cases f with
    | next =>
      obtain ⟨σ', H', I', q⟩ := q
      exact h2.run pins s1 σ' H' D I' (hu σ' H' q)
    | ret v => exact q
    | brk => exact q
    | cont => exact q
section
variable {D : Ends} {σ : L2.St} {H : Hp} {t u : TS}
theorem rd_go (h : t { D with nx := u D } σ H) : tSeqC t u D σ H := .inl h
theorem rd_cut (Mid : L2.St → Hp → Prop) (h : t { D with nx := Mid } σ H) (k : ∀ σ' H', Mid σ' H' → u D σ' H') : tSeqC t u D σ H := .inr ⟨Mid, h, k⟩
end
end Rd
namespace Rd
open PySem PySem.Spec PyProof.Rows L2
/-! ### all but some places stand -/
def But (l : List Addr) (H H' : Hp) : Prop := ∀ b o, b ∉ l → H b = some o → H' b = some o
section
variable {K : PySem.W.Frag} {l l' : List Addr} {H H1 H2 H' : Hp} {p b : Addr} {o u : HO} {xs : List V}
theorem But.refl (l : List Addr) (H : Hp) : But l H H := fun _ _ _ h => h
theorem But.trans (a : But l H H1) (b : But l H1 H2) : But l H H2 := fun c u n h => b c u n (a c u n h)
theorem But.sub (a : But l H H1) (h : ∀ x ∈ l, x ∈ l') : But l' H H1 := fun c u n e => a c u (fun z => n (h c z)) e
theorem But.of (s : Same H H') : But l H H' := fun c u _ h => s c u h
theorem But.same (s : But [] H H') : Same H H' := fun c u h => s c u (by simp) h
/-- what is changed stands in l -/
theorem But.set (a : But l H H') (h : p ∈ l) : But l H (upd H' p o) := fun c u n e => by
  rw [upd_ne (fun z => n (by rw [z]; exact h))]
  exact a c u n e
/-- what is new ahead -/
theorem But.new (a : But l H H') (h : H p = none) : But l H (upd H' p o) := fun c u n e => by
  rw [upd_ne (ne_of_none e h)]
  exact a c u n e
theorem But.thenS (a : But l H H1) (b : Same H1 H2) : But l H H2 := fun c u n h => b c u (a c u n h)
/-- a change of what stood in H1, new to H -/
theorem But.drop (a : But l H H1) (b : But (p :: l) H1 H2) (h : H p = none) : But l H H2 := fun c u n e =>
  b c u (fun z => (List.mem_cons.mp z).elim (fun q => absurd q (ne_of_none e h)) n) (a c u n e)
theorem But.here (a : But l H H') (n : b ∉ l) (h : H b = some o) : H' b = some o := a b o n h
theorem But.seq (a : But l H H') (n : b ∉ l) (h : SqL K H b xs) : SqL K H' b xs := by
  rcases h with (h | ⟨o, h⟩) | h
  · exact .inl (.inl (a _ _ n h))
  · exact .inl (.inr ⟨o, a _ _ n h⟩)
  · exact .inr h
theorem But.seqT (a : But l H H') (n : b ∉ l) (h : SqT K H b xs) : SqT K H' b xs := by
  rcases h with (h | ⟨o, h⟩) | h
  · exact .inl (.inl (a _ _ n h))
  · exact .inl (.inr ⟨o, a _ _ n h⟩)
  · exact .inr h
theorem Same.seqT (a : Same H H') (h : SqT K H b xs) : SqT K H' b xs := (But.of (l := []) a).seqT (by simp) h
theorem nil_off : b ∉ ([] : List Addr) := by simp
theorem cons_off (h : b ≠ p) (k : b ∉ l) : b ∉ p :: l := by simp [h, k]
theorem Same.here (s : Same H H') (h : H b = some o) : H' b = some o := s b o h
/-- what is free behind was free ahead -/
theorem But.free (a : But l H H') (n : b ∉ l) (h : H' b = none) : H b = none := by
  cases e : H b with
  | none => rfl
  | some u => rw [a b u n e] at h; cases h
end
end Rd
namespace Rd
open PySem PySem.Spec PyProof.Rows L2
section
variable {K : PySem.W.Frag} {D : Ends} {σ : L2.St} {H : Hp} {g : TG} {tb : TS} {xs : List V} {a : Addr}
end
end Rd
namespace Rd
open PySem PySem.Spec PyProof.Rows L2
section
variable {K : PySem.W.Frag} {σ : L2.St} {H : Hp} {xs : List V} {a : Addr}
theorem wipe1 (σ : L2.St) (j : Nat) (x : V) : wipe ((wipe σ [j]).set j (some x)) [j] = wipe σ [j] := by
  show (((σ.set j none).set j (some x)).set j none) = σ.set j none
  rw [List.set_set, List.set_set]
theorem take_end {α : Type} {l : List α} {i : Nat} {x : α} (h : l[i]? = some x) : l.take (i + 1) = l.take i ++ [x] := by
  obtain ⟨hi, e⟩ := List.getElem?_eq_some_iff.mp h
  rw [List.take_succ_eq_append_getElem hi, e]
/-! ### ints in lists -/
abbrev iv (t : Nat) : V := .int (t : Int)
theorem flat_iv (ys : List Nat) : (ys.map iv).all flatV = true := by simp [List.all_eq_true, flatV]
theorem in_iv (t : Nat) (ys : List Nat) : inV (iv t) (ys.map iv) = decide (t ∈ ys) := by
  unfold inV
  rw [List.any_map]
  rw [Bool.eq_iff_iff]
  simp only [Function.comp, eqV, List.any_eq_true, beq_iff_eq, decide_eq_true_eq]
  constructor
  · rintro ⟨x, h, e⟩
    have e' : x = t := by omega
    rw [← e']
    exact h
  · exact fun h => ⟨t, h, rfl⟩
theorem atI_iv {xs : List V} {t : Nat} {v : V} (h : xs[t]? = some v) : atI xs (t : Int) = some v := atI_nat h
theorem at_map {α β : Type} {f : α → β} {l : List α} {i : Nat} {x : β} (h : (l.map f)[i]? = some x) : ∃ t, l[i]? = some t ∧ x = f t := by
  rw [List.getElem?_map] at h
  cases e : l[i]? with
  | none => rw [e] at h; cases h
  | some t => rw [e] at h; exact ⟨t, rfl, (Option.some.inj h).symm⟩
theorem map_at {α β : Type} {f : α → β} {l : List α} {i : Nat} {t : α} (h : l[i]? = some t) : (l.map f)[i]? = some (f t) := by
  rw [List.getElem?_map, h]; rfl
theorem getD_at {α : Type} {l : List α} {i : Nat} (d : α) (h : i < l.length) : l[i]? = some (l.getD i d) := by
  rw [List.getD_eq_getElem?_getD, List.getElem?_eq_getElem h]; rfl
end
end Rd
namespace Rd
open PySem PySem.Spec PyProof.Rows L2
section
variable {K : PySem.W.Frag} {D : Ends} {σ : L2.St} {H : Hp}
theorem rd_nite1 {A B : Prop} (h : A) : if (!false) = true then A else B := h
theorem rd_nite0 {A B : Prop} (h : B) : if (!true) = true then A else B := h
theorem rd_while {c : TT} {tb : TS} {m0 : Nat} (W : Nat → L2.St → Hp → Prop) (w0 : W m0 σ H)
    (hs : ∀ m σ H, W m σ H → c σ H fun b H1 => if b = true then ∃ N : L2.St → Hp → Prop, (∀ σ' H', N σ' H' → ∃ m', m' < m ∧ W m' σ' H') ∧ tb { D with nx := N, ct := N, bk := D.nx } σ H1 else D.nx σ H1) : tWhile c tb D σ H := ⟨W, ⟨m0, w0⟩, hs⟩
theorem rd_turn {W : Nat → L2.St → Hp → Prop} {m : Nat} {tb : TS} (h : tb { D with nx := fun σ' H' => ∃ m', m' < m ∧ W m' σ' H', ct := fun σ' H' => ∃ m', m' < m ∧ W m' σ' H', bk := D.nx } σ H) :
    ∃ N : L2.St → Hp → Prop, (∀ σ' H', N σ' H' → ∃ m', m' < m ∧ W m' σ' H') ∧ tb { D with nx := N, ct := N, bk := D.nx } σ H := ⟨_, fun _ _ h => h, h⟩
end
end Rd
namespace Rd
open PySem PySem.Spec PyProof.Rows L2
section
variable {K : PySem.W.Frag} {D : Ends} {σ : L2.St} {H : Hp} {g : TG} {tb : TS} {tl te : TE} {ta : TA} {tt : TT} {vs : List Nat} {Q : VK} {j : Nat}
/-! ### loops and comprehensions: the walked thing first, then these -/
def ForJ (g : TG) (tb : TS) (D : Ends) (σ : L2.St) (J : It) (H : Hp) : Prop := ∃ W : Nat → Nat → L2.St → Hp → Prop, (∃ m, W 0 m σ H) ∧ ∀ i m σ H, W i m σ H →
  (J.stop i H ∧ D.nx σ H) ∨ (J.go i H ∧ ∃ N : L2.St → Hp → Prop, (∀ σ' H', N σ' H' → ∃ m', m' < m ∧ W (i + 1) m' σ' H') ∧ ∀ x H', J.yld i H x H' → g x σ H' fun σ2 H2 => tb { D with nx := N, ct := N, bk := D.nx } σ2 H2)
def LcJ (g : TG) (tt : TT) (te : TE) (vs : List Nat) (σ : L2.St) (Q : VK) (J : It) (H : Hp) : Prop := ∀ Dd, H Dd = none → ∃ W : Nat → Nat → Hp → Prop, (∃ m, W 0 m (upd H Dd (.lst []))) ∧ ∀ i m H, W i m H →
  (J.stop i H ∧ Q (.ref Dd) H) ∨ (J.go i H ∧ ∃ Nx : Hp → Prop, (∀ H', Nx H' → ∃ m', m' < m ∧ W (i + 1) m' H') ∧ ∀ x H', J.yld i H x H' → g x (wipe σ vs) H' fun σ2 H2 => wipe σ2 vs = wipe σ vs ∧ tt σ2 H2 fun b H3 =>
    if b = true then te σ2 H3 fun y H4 => ∃ acc, H4 Dd = some (.lst acc) ∧ acc.length < sizeLine ∧ Nx (upd H4 Dd (.lst (acc ++ [y]))) else Nx H3)
def ForA (K : PySem.W.Frag) (x : V) (g : TG) (tb : TS) (D : Ends) (σ : L2.St) (H : Hp) : Prop := Walk K x H (ForJ g tb D σ)
def LcA (K : PySem.W.Frag) (x : V) (g : TG) (tt : TT) (te : TE) (vs : List Nat) (σ : L2.St) (H : Hp) (Q : VK) : Prop := Walk K x H (LcJ g tt te vs σ Q)
def ForR1 (as : List V) (g : TG) (tb : TS) (D : Ends) (σ : L2.St) (H : Hp) : Prop := ∃ j : Int, as = [.int j] ∧ -(2 ^ 62) ≤ j ∧ j < 2 ^ 62 ∧ ForJ g tb D σ (Itr 0 j.toNat) H
def LcR1 (as : List V) (g : TG) (tt : TT) (te : TE) (vs : List Nat) (σ : L2.St) (H : Hp) (Q : VK) : Prop := ∃ j : Int, as = [.int j] ∧ -(2 ^ 62) ≤ j ∧ j < 2 ^ 62 ∧ LcJ g tt te vs σ Q (Itr 0 j.toNat) H
def ForR2 (as : List V) (g : TG) (tb : TS) (D : Ends) (σ : L2.St) (H : Hp) : Prop := ∃ i j : Int, as = [.int i, .int j] ∧ (-(2 ^ 62) ≤ i ∧ i < 2 ^ 62 ∧ -(2 ^ 62) ≤ j ∧ j < 2 ^ 62) ∧ ForJ g tb D σ (Itr i (j - i).toNat) H
def LcR2 (as : List V) (g : TG) (tt : TT) (te : TE) (vs : List Nat) (σ : L2.St) (H : Hp) (Q : VK) : Prop := ∃ i j : Int, as = [.int i, .int j] ∧ (-(2 ^ 62) ≤ i ∧ i < 2 ^ 62 ∧ -(2 ^ 62) ≤ j ∧ j < 2 ^ 62) ∧ LcJ g tt te vs σ Q (Itr i (j - i).toNat) H
theorem rd_forA (h : tl σ H fun x H1 => ForA K x g tb D σ H1) : tFor (iAny K tl) g tb D σ H := h
theorem rd_lcA (h : tl σ H fun x H1 => LcA K x g tt te vs σ H1 Q) : tLc (iAny K tl) g tt te vs σ H Q := h
theorem rd_forR1 (h : ta σ H fun as H1 => ForR1 as g tb D σ H1) : tFor (iRng1 ta) g tb D σ H := h
theorem rd_lcR1 (h : ta σ H fun as H1 => LcR1 as g tt te vs σ H1 Q) : tLc (iRng1 ta) g tt te vs σ H Q := h
theorem rd_forR2 (h : ta σ H fun as H1 => ForR2 as g tb D σ H1) : tFor (iRng2 ta) g tb D σ H := h
theorem rd_lcR2 (h : ta σ H fun as H1 => LcR2 as g tt te vs σ H1 Q) : tLc (iRng2 ta) g tt te vs σ H Q := h
/-- for x in a list that stands -/
theorem forL {a : Addr} {xs : List V} (hx : SqL K H a xs) (Pv : Nat → L2.St → Hp → Prop) (h0 : Pv 0 σ H) (hl : ∀ i σ H, i ≤ xs.length → Pv i σ H → SqL K H a xs)
    (hs : ∀ (i : Nat) (x : V) σ H, xs[i]? = some x → Pv i σ H → g x σ H fun σ2 H2 => tb { D with nx := Pv (i + 1), ct := Pv (i + 1), bk := D.nx } σ2 H2) (hd : ∀ σ H, Pv xs.length σ H → D.nx σ H) : ForA K (.ref a) g tb D σ H :=
  .inl ⟨a, rfl, ⟨xs, hx⟩, for_list Pv h0 hl hs hd⟩
theorem forT {a : Addr} {xs : List V} (hx : SqT K H a xs) (Pv : Nat → L2.St → Hp → Prop) (h0 : Pv 0 σ H) (hl : ∀ i σ H, i ≤ xs.length → Pv i σ H → SqT K H a xs)
    (hs : ∀ (i : Nat) (x : V) σ H, xs[i]? = some x → Pv i σ H → g x σ H fun σ2 H2 => tb { D with nx := Pv (i + 1), ct := Pv (i + 1), bk := D.nx } σ2 H2) (hd : ∀ σ H, Pv xs.length σ H → D.nx σ H) : ForA K (.ref a) g tb D σ H :=
  .inr (.inl ⟨a, rfl, ⟨xs, hx⟩, for_tup Pv h0 hl hs hd⟩)
/-- for k in range(n) -/
theorem forR {n : Nat} {z : Int} (hz : z = (n : Int)) (hn : n ≤ 1000000000) (Pv : Nat → L2.St → Hp → Prop) (h0 : Pv 0 σ H)
    (hs : ∀ (i : Nat) σ H, i < n → Pv i σ H → g (.int (i : Int)) σ H fun σ2 H2 => tb { D with nx := Pv (i + 1), ct := Pv (i + 1), bk := D.nx } σ2 H2) (hd : ∀ σ H, Pv n σ H → D.nx σ H) : ForR1 [.int z] g tb D σ H := by
  subst hz
  refine ⟨n, rfl, by omega, by omega, ?_⟩
  rw [Int.toNat_natCast]
  exact for_range (lo := 0) (n := n) Pv h0 (fun i σ H hi p => by rw [Int.zero_add]; exact hs i σ H hi p) hd
theorem forR2 {n : Nat} {lo z : Int} (hz : z = lo + (n : Int)) (h1 : -1000000000 ≤ lo) (h2 : lo ≤ 1000000000) (hn : n ≤ 1000000000) (Pv : Nat → L2.St → Hp → Prop) (h0 : Pv 0 σ H)
    (hs : ∀ (i : Nat) σ H, i < n → Pv i σ H → g (.int (lo + (i : Int))) σ H fun σ2 H2 => tb { D with nx := Pv (i + 1), ct := Pv (i + 1), bk := D.nx } σ2 H2) (hd : ∀ σ H, Pv n σ H → D.nx σ H) : ForR2 [.int lo, .int z] g tb D σ H := by
  subst hz
  refine ⟨lo, lo + n, rfl, by omega, ?_⟩
  rw [show (lo + (n : Int) - lo).toNat = n by omega]
  exact for_range (lo := lo) (n := n) Pv h0 (fun i σ H hi p => hs i σ H hi p) hd
/-- a comprehension over a list that stands; Pv knows the list so far -/
theorem lcL {a : Addr} {xs : List V} (hx : SqL K H a xs) (h : ∀ Dd, H Dd = none → ∃ Pv : Nat → Hp → Prop, Pv 0 (upd H Dd (.lst [])) ∧ (∀ i H, i ≤ xs.length → Pv i H → SqL K H a xs) ∧
    (∀ (i : Nat) (x : V) H, xs[i]? = some x → Pv i H → g x (wipe σ vs) H fun σ2 H2 => wipe σ2 vs = wipe σ vs ∧ tt σ2 H2 fun b H3 =>
      if b = true then te σ2 H3 fun y H4 => ∃ acc, H4 Dd = some (.lst acc) ∧ acc.length < sizeLine ∧ Pv (i + 1) (upd H4 Dd (.lst (acc ++ [y]))) else Pv (i + 1) H3) ∧ (∀ H, Pv xs.length H → Q (.ref Dd) H)) : LcA K (.ref a) g tt te vs σ H Q := by
  refine .inl ⟨a, rfl, ⟨xs, hx⟩, fun Dd hD => ?_⟩
  obtain ⟨Pv, h0, hl, hs, hd⟩ := h Dd hD
  exact lc_list Pv h0 hl hs hd
theorem lcT {a : Addr} {xs : List V} (hx : SqT K H a xs) (h : ∀ Dd, H Dd = none → ∃ Pv : Nat → Hp → Prop, Pv 0 (upd H Dd (.lst [])) ∧ (∀ i H, i ≤ xs.length → Pv i H → SqT K H a xs) ∧
    (∀ (i : Nat) (x : V) H, xs[i]? = some x → Pv i H → g x (wipe σ vs) H fun σ2 H2 => wipe σ2 vs = wipe σ vs ∧ tt σ2 H2 fun b H3 =>
      if b = true then te σ2 H3 fun y H4 => ∃ acc, H4 Dd = some (.lst acc) ∧ acc.length < sizeLine ∧ Pv (i + 1) (upd H4 Dd (.lst (acc ++ [y]))) else Pv (i + 1) H3) ∧ (∀ H, Pv xs.length H → Q (.ref Dd) H)) : LcA K (.ref a) g tt te vs σ H Q := by
  refine .inr (.inl ⟨a, rfl, ⟨xs, hx⟩, fun Dd hD => ?_⟩)
  obtain ⟨Pv, h0, hl, hs, hd⟩ := h Dd hD
  exact lc_tup Pv h0 hl hs hd
theorem lcR {n : Nat} {z : Int} (hz : z = (n : Int)) (hn : n ≤ 1000000000) (h : ∀ Dd, H Dd = none → ∃ Pv : Nat → Hp → Prop, Pv 0 (upd H Dd (.lst [])) ∧
    (∀ (i : Nat) H, i < n → Pv i H → g (.int (i : Int)) (wipe σ vs) H fun σ2 H2 => wipe σ2 vs = wipe σ vs ∧ tt σ2 H2 fun b H3 =>
      if b = true then te σ2 H3 fun y H4 => ∃ acc, H4 Dd = some (.lst acc) ∧ acc.length < sizeLine ∧ Pv (i + 1) (upd H4 Dd (.lst (acc ++ [y]))) else Pv (i + 1) H3) ∧ (∀ H, Pv n H → Q (.ref Dd) H)) : LcR1 [.int z] g tt te vs σ H Q := by
  subst hz
  refine ⟨n, rfl, by omega, by omega, fun Dd hD => ?_⟩
  obtain ⟨Pv, h0, hs, hd⟩ := h Dd hD
  rw [Int.toNat_natCast]
  exact lc_range (lo := 0) (n := n) Pv h0 (fun i H hi p => by rw [Int.zero_add]; exact hs i H hi p) hd
/-- .. its tests and elements leaving the heap -/
theorem lcLp {a : Addr} {xs : List V} (hx : SqL K H a xs) (p : V → Bool) (f : V → V) (hz : xs.length ≤ 1000000)
    (ht : ∀ (i : Nat) (x : V) (Dd : Addr) (acc : List V), xs[i]? = some x → H Dd = none → ∀ R : Bool → Hp → Prop, R (p x) (upd H Dd (.lst acc)) → tt ((wipe σ [j]).set j (some x)) (upd H Dd (.lst acc)) R)
    (he : ∀ (i : Nat) (x : V) (Dd : Addr) (acc : List V), xs[i]? = some x → p x = true → H Dd = none → ∀ R : VK, R (f x) (upd H Dd (.lst acc)) → te ((wipe σ [j]).set j (some x)) (upd H Dd (.lst acc)) R)
    (q : ∀ Dd, H Dd = none → Q (.ref Dd) (upd H Dd (.lst ((xs.filter p).map f)))) : LcA K (.ref a) (gName j) tt te [j] σ H Q := by
  refine lcL hx fun Dd hD => ⟨fun i H' => H' = upd H Dd (.lst (((xs.take i).filter p).map f)), by simp, fun i H' _ e => by rw [e]; exact (same_new hD).seq hx, fun i x H' hi e => ?_, fun H' e => by rw [e, List.take_length]; exact q Dd hD⟩
  refine ⟨wipe1 σ j x, ?_⟩
  subst e
  refine ht i x Dd _ hi hD _ ?_
  have hl := take_end hi
  cases hp : p x with
  | true =>
    refine rd_ite1 (he i x Dd _ hi hp hD _ ⟨_, upd_same, ?_, ?_⟩)
    · refine size_lt ?_
      have h1 := List.length_filter_le p (xs.take i)
      have h2 := List.length_take_le' i xs
      rw [List.length_map]; omega
    · show upd _ _ _ = _
      rw [upd_upd, hl, List.filter_append, List.map_append, List.filter_cons, if_pos hp]
      rfl
  | false =>
    refine rd_ite0 ?_
    show upd _ _ _ = _
    rw [hl, List.filter_append, List.map_append, List.filter_cons, if_neg (by rw [hp]; decide)]
    simp
theorem lcRp {n : Nat} {z : Int} (hz : z = (n : Int)) (p : Nat → Bool) (f : Nat → V) (hn : n ≤ 1000000)
    (ht : ∀ (i : Nat) (Dd : Addr) (acc : List V), i < n → H Dd = none → ∀ R : Bool → Hp → Prop, R (p i) (upd H Dd (.lst acc)) → tt ((wipe σ [j]).set j (some (.int (i : Int)))) (upd H Dd (.lst acc)) R)
    (he : ∀ (i : Nat) (Dd : Addr) (acc : List V), i < n → p i = true → H Dd = none → ∀ R : VK, R (f i) (upd H Dd (.lst acc)) → te ((wipe σ [j]).set j (some (.int (i : Int)))) (upd H Dd (.lst acc)) R)
    (q : ∀ Dd, H Dd = none → Q (.ref Dd) (upd H Dd (.lst (((List.range n).filter p).map f)))) : LcR1 [.int z] (gName j) tt te [j] σ H Q := by
  refine lcR hz (by omega) fun Dd hD => ⟨fun i H' => H' = upd H Dd (.lst (((List.range i).filter p).map f)), by simp, fun i H' hi e => ?_, fun H' e => by rw [e]; exact q Dd hD⟩
  refine ⟨wipe1 σ j _, ?_⟩
  subst e
  refine ht i Dd _ hi hD _ ?_
  cases hp : p i with
  | true =>
    refine rd_ite1 (he i Dd _ hi hp hD _ ⟨_, upd_same, ?_, ?_⟩)
    · refine size_lt ?_
      have h1 := List.length_filter_le p (List.range i)
      rw [List.length_range] at h1
      rw [List.length_map]; omega
    · show upd _ _ _ = _
      rw [upd_upd, List.range_succ, List.filter_append, List.map_append, List.filter_cons, if_pos hp]
      rfl
  | false =>
    refine rd_ite0 ?_
    show upd _ _ _ = _
    rw [List.range_succ, List.filter_append, List.map_append, List.filter_cons, if_neg (by rw [hp]; decide)]
    simp
end
end Rd
namespace Rd
open PySem PySem.Spec PyProof.Rows L2
/-! ### isinstance of built-in types -/
theorem kb_int_bool : kitB "int" "bool" = some false := by decide +kernel
theorem kb_int_int : kitB "int" "int" = some true := by decide +kernel
theorem kb_int_str : kitB "int" "str" = some false := by decide +kernel
theorem kb_int_list : kitB "int" "list" = some false := by decide +kernel
theorem kb_int_tuple : kitB "int" "tuple" = some false := by decide +kernel
theorem kb_bool_bool : kitB "bool" "bool" = some true := by decide +kernel
theorem kb_bool_int : kitB "bool" "int" = some true := by decide +kernel
theorem kb_bool_str : kitB "bool" "str" = some false := by decide +kernel
theorem kb_bool_list : kitB "bool" "list" = some false := by decide +kernel
theorem kb_bool_tuple : kitB "bool" "tuple" = some false := by decide +kernel
theorem kb_str_bool : kitB "str" "bool" = some false := by decide +kernel
theorem kb_str_int : kitB "str" "int" = some false := by decide +kernel
theorem kb_str_str : kitB "str" "str" = some true := by decide +kernel
theorem kb_str_list : kitB "str" "list" = some false := by decide +kernel
theorem kb_str_tuple : kitB "str" "tuple" = some false := by decide +kernel
theorem kb_list_bool : kitB "list" "bool" = some false := by decide +kernel
theorem kb_list_int : kitB "list" "int" = some false := by decide +kernel
theorem kb_list_str : kitB "list" "str" = some false := by decide +kernel
theorem kb_list_list : kitB "list" "list" = some true := by decide +kernel
theorem kb_list_tuple : kitB "list" "tuple" = some false := by decide +kernel
theorem kb_tuple_bool : kitB "tuple" "bool" = some false := by decide +kernel
theorem kb_tuple_int : kitB "tuple" "int" = some false := by decide +kernel
theorem kb_tuple_str : kitB "tuple" "str" = some false := by decide +kernel
theorem kb_tuple_list : kitB "tuple" "list" = some false := by decide +kernel
theorem kb_tuple_tuple : kitB "tuple" "tuple" = some true := by decide +kernel
theorem kb_NoneType_bool : kitB "NoneType" "bool" = some false := by decide +kernel
theorem kb_NoneType_int : kitB "NoneType" "int" = some false := by decide +kernel
theorem kb_NoneType_str : kitB "NoneType" "str" = some false := by decide +kernel
theorem kb_NoneType_list : kitB "NoneType" "list" = some false := by decide +kernel
theorem kb_NoneType_tuple : kitB "NoneType" "tuple" = some false := by decide +kernel
end Rd
namespace Rd
open PySem PySem.Spec PyProof.Rows L2
theorem rd_yes {σ : L2.St} {H : Hp} {R : Bool → Hp → Prop} (h : R true H) : tYes σ H R := h
/-- what is free behind, where st stands, was free ahead, and is not st -/
theorem But.back {st p : Addr} {H H' : Hp} {o : HO} (a : But [st] H H') (hs : H' st = some o) (h : H' p = none) : p ≠ st ∧ H p = none := by
  have n : p ≠ st := fun z => by rw [z, hs] at h; cases h
  refine ⟨n, ?_⟩
  cases e : H p with
  | none => rfl
  | some u => rw [a p u (by simpa using n) e] at h; cases h
theorem But.off {st : Addr} {H H' : Hp} (h : But [st] H H') : ∀ b o, b ≠ st → H b = some o → H' b = some o := fun b o n e => h b o (by simpa using n) e
end Rd

/-! Ex: own errors whose __init__ says super().__init__(..) and stores its fields: over the bare heap. -/
namespace ExL
open PySem PySem.W PySem.Calls PyProof.Rows PySem.HandSPX
/-! ### a bound method, a bound wrapper, called -/
section
variable {prog : Program} {w : World} {M : Model} {A : Around} {E : Value → Shared → Prop} {s : Shared}
theorem keep_ne {K : Frag} {h h' : Heap} {x : Addr} (X : K.In h) (hx : K.lookup x = none) (k : ∀ b o, b ≠ x → h.get? b = some o → h'.get? b = some o) : K.In h' := fun a o e =>
  k a o (fun z => by rw [z, hx] at e; cases e) (X a o e)
theorem notK {K : Frag} {h : Heap} {x : Addr} (X : K.In h) (hx : h.get? x = none) : K.lookup x = none := by
  cases e : K.lookup x with
  | none => rfl
  | some o => rw [X x o e] at hx; cases hx
abbrev moO (f x : Addr) : Obj := { cls := .type "method", data := .fields #[.ref f, .ref x] }
theorem callWith_mo {pos : Pos} {u f x : Addr} {args : List (Bool × Sem Value)} {Q : Value → Shared → Prop} (hplain : args.any (·.1) = false)
    (h : wpAny M A (evalArgs (.ref u) true args []) (fun a s₁ => (s₁.heap.get? u = some (moO f x) ∧ ∃ o fd, s₁.heap.get? f = some o ∧ o.data = .func fd) ∧ wpAny M A (call (.ref u) a.pos a.kw) Q E s₁) E s) :
    wpAny M A (callWith pos (.ref u) [] args []) Q E s := by
  unfold callWith
  refine wpAny_bind (wpAny_holding (wpAny_mono h (fun a s₁ h₁ => wpAny_bind (wpAny_standAt ?_)) fun _ _ z => z))
  obtain ⟨⟨hu, o, fd, hf, hd⟩, hc⟩ := h₁
  simp only [hplain, List.any_nil, Bool.or_false]
  refine wpAny_bind (m := keeperOf (.ref u)) ?_
  unfold keeperOf
  refine wpAny_bind (wpAny_load hu ?_)
  simp only [moO, show (Value.type "method" != Value.type "method") = false by decide, Bool.false_eq_true, if_false]
  show wpAny M A (load f >>= _) _ E s₁
  refine wpAny_bind (wpAny_load hf ?_)
  rw [hd]
  refine wpAny_pure ?_
  have go : wpAny M A (call (.ref u) ([] ++ a.pos) a.kw) (fun r s₂ => wpAny M A (do holding [r] point; pure r) Q E s₂) E s₁ := by
    rw [List.nil_append]
    exact wpAny_mono hc (fun r s₂ hr => wpAny_bind (wpAny_holding (wpAny_point (wpAny_pure hr)))) fun _ _ z => z
  dsimp only
  split
  · exact wpAny_bind go
  · refine wpAny_bind ?_
    unfold callMarked
    exact Calls.wpAny_keep go
/-- super().__init__(..) of ValueError, called -/
theorem call_ve {B newId : String} {bmB : List Value} {nm q : Str} {C N u e t : Addr} {bs bm : List Value} {hdct : Bool} {sn : List Str} {sub : List Value} {ab : Bool} {col : Option Bool} {dd : Option Addr} {k0 k1 k2 k3 k5 : Option Value} {i : String} {rest : List Value} {Q : Value → Shared → Prop}
    (FB : ExcBaseFacts B newId i bmB) (hC : s.heap.get? C = some (excClassObj nm q C N bs bm hdct sn sub ab col dd k0 k1 k2 k3 k5 newId)) (hu : s.heap.get? u = some (kxs_mw i e)) (he : s.heap.get? e = some (excO C t)) (hz : rest.length ≤ sizeLine)
    (h : ∀ h' t', (∀ b o, b ≠ e → s.heap.get? b = some o → h'.get? b = some o) → h'.get? e = some (excO C t') → Q .none { s with heap := h' }) :
    wpAny (model prog w) A (call (.ref u) rest) Q E s := by
  obtain ⟨hh, g, d, tk, os⟩ := s
  refine wpAny_call (codeAny_of_tree ?_)
  show wpAny _ A.in1 (callAny (.ref u) ⟨rest, []⟩) _ _ _
  simp only [callAny]
  refine wpAny_bind (wpAny_load hu ?_)
  simp only [kxs_mw, show (Value.type "method-wrapper" == Value.type "method" || Value.type "method-wrapper" == Value.type "builtin_function_or_method" || Value.type "method-wrapper" == Value.type "method-wrapper") = true by decide, if_true]
  refine KFB.if_so (by decide) ?_
  refine wpAny_bind (check_bound_init FB.toExcCallFacts hC he rfl ?_)
  refine wpAny_bind (wpAny_pure (wpAny_pure ?_))
  refine ⟨plainId_quiet FB.init.plain _, codeAny_builtin FB.initEntry ?_⟩
  exact exc_init_tree (cls := .ref C) (t0 := t) (dv := none) (c2 := .none) (c3 := .none) (b4 := .bool false) he hz fun h' k e' _ => h h' _ k e'
end
/-! ### what the written part says of an error class and of its __init__ -/
structure Ec (K : Frag) (C : Addr) : Prop where
  cls : ∃ nm q N bs bm sn sub ab col dd k0 k1 k2 k3 k5, K.lookup C = some (excClassObj nm q C N bs bm true sn sub ab col dd k0 k1 k2 k3 k5 "ValueError.__new__") ∧ refsVE bm = true
  sa : findIn K (.ref C) "__setattr__" = some (some (.builtin "object.__setattr__"))
  exV : subIn K (.ref C) (.type "ValueError") = some true
/-- of a def with the cell __class__ (at cc, it holds D) -/
structure Fc (prog : Program) (K : Frag) (f cc D : Addr) (qual : Str) (params : Arguments) (body : List Stmt) (scope : Scope) : Prop where
  fn : ∃ (oc : Value) (od : Option Addr) (dV kV doc pm : Value) (an : Option Addr) (cda : Addr) (ct : Value) (osl : Array (Option Value)), K.lookup f = some ⟨oc, od, .func (fnX "__init__" qual params body scope [("__class__", cc)] dV kV doc pm an (.ref cda) ct), osl⟩ ∧ oc = .type "function" ∧
    codeIn K (.ref cda) qual = true ∧ ∃ ccl cdd vs ccs file tf, K.lookup cda = some ⟨ccl, cdd, .fields vs, ccs⟩ ∧ vs[2]? = some (.str file tf) ∧ (prog.main.file == file) = true
  cell : ∃ cl cld csl, K.lookup cc = some ⟨cl, cld, .cell (some (.ref D)), csl⟩
  cls : (clsIn K D).isSome = true
  top : (prog.main.scope.names.lookup ("super" : Str)).isSome = false
/-- of the module -/
structure Gd (K : Frag) (h : Heap) : Prop where
  kin : K.In h
  sup : nsIn K mainGlobals "super" = some none
  opq : nsIn K cStatics "thirdparty.any" = some none
  glob : ∃ mg, h.Ns mainGlobals mg
  blt : ∃ mb, h.Ns builtinsNs mb ∧ mb "super" = bootBuiltins "super"
  lim : h.NoLimit
theorem Gd.keeps {K : Frag} {h h' : Heap} (d : Gd K h) (k : ∀ b o, h.get? b = some o → h'.get? b = some o) : Gd K h' :=
  ⟨d.kin.keeps k, d.sup, d.opq, let ⟨mg, e⟩ := d.glob; ⟨mg, e.keeps k⟩, let ⟨mb, e, q⟩ := d.blt; ⟨mb, e.keeps k, q⟩, d.lim.keeps k⟩
/-- the text of such an __init__: super().__init__(what); then the fields -/
def supL (p0 p1 p2 p3 p4 : Pos) (what : List Expr) : Stmt := .Expr (.Call (.Attribute (.Call (.Name "super" p0) [] [] p1) "__init__" p2) what [] p3) p4
def scI (fs : List Str) : Scope := { kind := .function, names := (("self" : Str), NameKind.local) :: ((fs.map fun (f : Str) => (f, NameKind.local)) ++ [(("__class__" : Str), NameKind.free), (("super" : Str), NameKind.globalImplicit)]), isGenerator := false, isCoroutine := false, more := [] }
theorem scI_free (fs : List Str) (h : ("__class__" : Str) ∉ fs) : (scI fs).names.lookup ("__class__" : Str) = some NameKind.free := by
  show List.lookup _ (_ :: (_ ++ _)) = _
  rw [List.lookup_cons]
  simp only [show (("__class__" : Str) == ("self" : Str)) = false by decide +kernel]
  induction fs with
  | nil => rfl
  | cons f r ih =>
    simp only [List.map_cons, List.cons_append, List.lookup_cons]
    have : (("__class__" : Str) == f) = false := by simpa using fun z => h (by rw [z]; exact List.mem_cons_self)
    rw [this]
    exact ih fun z => h (List.mem_cons_of_mem _ z)
theorem scI_glob (fs : List Str) (h : ("super" : Str) ∉ fs) : (scI fs).names.lookup ("super" : Str) = some NameKind.globalImplicit := by
  show List.lookup _ (_ :: (_ ++ _)) = _
  rw [List.lookup_cons]
  simp only [show (("super" : Str) == ("self" : Str)) = false by decide +kernel]
  induction fs with
  | nil => rfl
  | cons f r ih =>
    simp only [List.map_cons, List.cons_append, List.lookup_cons]
    have : (("super" : Str) == f) = false := by simpa using fun z => h (by rw [z]; exact List.mem_cons_self)
    rw [this]
    exact ih fun z => h (List.mem_cons_of_mem _ z)
theorem scI_loc (fs : List Str) {f : Str} (h : f ∈ fs) : (scI fs).names.lookup f = some NameKind.local := by
  show List.lookup _ (_ :: (_ ++ _)) = _
  rw [List.lookup_cons]
  split
  · rfl
  · induction fs with
    | nil => cases h
    | cons g r ih =>
      simp only [List.map_cons, List.cons_append, List.lookup_cons]
      split
      · rfl
      · rename_i ne
        refine ih ?_
        rcases List.mem_cons.mp h with z | z
        · rw [z] at ne; simp at ne
        · exact z
section
variable {prog : Program} {w : World} {A : Around} {E : Value → Shared → Prop} {s : Shared} {K : Frag}
/-- super() in such a def -/
theorem at_super {f cc D L x C : Addr} {qual : Str} {params : Arguments} {body : List Stmt} {fs : List Str} {p0 p1 : Pos} {whole : Sem Value} {oc : Value} {od : Option Addr} {dV kV doc pm : Value} {an : Option Addr} {cda : Addr} {ct : Value} {osl : Array (Option Value)} {m : Str → Option Value} {ox : Obj} {Q : Value → Shared → Prop}
    (G : Gd K s.heap) (lk : K.lookup f = some ⟨oc, od, .func (fnX "__init__" qual params body (scI fs) [("__class__", cc)] dV kV doc pm an (.ref cda) ct), osl⟩)
    (hcode : ∃ ccl cdd vs ccs file tf, K.lookup cda = some ⟨ccl, cdd, .fields vs, ccs⟩ ∧ vs[2]? = some (.str file tf) ∧ (prog.main.file == file) = true) (hcell : ∃ cl cld csl, K.lookup cc = some ⟨cl, cld, .cell (some (.ref D)), csl⟩)
    (hD : (clsIn K D).isSome = true) (htop : (prog.main.scope.names.lookup ("super" : Str)).isSome = false) (har : ∃ ar, (params.posonlyargs ++ params.args).head? = some ar ∧ ar.arg = "self") (hfs : ("__class__" : Str) ∉ fs ∧ ("super" : Str) ∉ fs)
    (hn : s.heap.Ns L m) (hv : m "self" = some (.ref x)) (hx : s.heap.get? x = some ox) (hxc : ox.cls = .ref C) (hnc : ∀ c, ox.data ≠ .cls c) (hsub : mroIn K C (.ref D) = some true)
    (h : ∀ h', h'.get? s.heap.objs.size = some (ks_superObj D x C) → (∀ b o, s.heap.get? b = some o → h'.get? b = some o) → Q (.ref s.heap.objs.size) { s with heap := h' }) :
    PySem.wpAt (model prog w) A (.func body (callEnv (fnX "__init__" qual params body (scI fs) [("__class__", cc)] dV kV doc pm an (.ref cda) ct) L f)) (attributeBase (.Call (.Name "super" p0) [] [] p1) "__init__" (callEnv (fnX "__init__" qual params body (scI fs) [("__class__", cc)] dV kV doc pm an (.ref cda) ct) L f) whole) Q E s := by
  obtain ⟨ccl, cdd, vs, ccs, file, tf, hcode, hvs, hfile⟩ := hcode
  obtain ⟨cl, cld, csl, hcell⟩ := hcell
  obtain ⟨ar, hp, har⟩ := har
  obtain ⟨mg, hmg⟩ := G.glob
  obtain ⟨mb, hmb, hsup⟩ := G.blt
  obtain ⟨cdD, hD⟩ := Option.isSome_iff_exists.mp hD
  have X := G.kin
  obtain ⟨hh, g, d, t, os⟩ := s
  obtain ⟨oD, hD1, hD2⟩ : ∃ oD, hh.get? D = some oD ∧ oD.data = .cls cdD := by
    unfold clsIn at hD
    split at hD
    · rename_i c d cd' sl ho
      cases hD
      exact ⟨_, X _ _ ho, rfl⟩
    · cases hD
  have hks : (callEnv (fnX "__init__" qual params body (scI fs) [("__class__", cc)] dV kV doc pm an (.ref cda) ct) L f).kindOf "super" = some .globalImplicit := scI_glob fs hfs.2
  have hkc : (callEnv (fnX "__init__" qual params body (scI fs) [("__class__", cc)] dV kV doc pm an (.ref cda) ct) L f).kindOf "__class__" = some .free := scI_free fs hfs.1
  refine ks_wpAt_super_base hks hkc (by decide +kernel) rfl (X _ _ lk) rfl hp rfl (X _ _ hcode) rfl hvs hfile htop ?_
  refine ks_loadName_global rfl hks (loadGlobal_builtin (mg := mg) hmg (mg_none_of X hmg G.sup) hmb (hsup.trans (by kernel_rfl : bootBuiltins "super" = some (.type "super"))) ⟨rfl, ?_⟩)
  refine wpAny_loadName_free rfl hkc rfl ⟨_, X _ _ hcell, rfl⟩ ?_
  rw [har]
  refine wpAny_loadName_local rfl rfl hn hv ?_
  refine ks_wpAny_isType_cls hD1 hD2 ⟨rfl, ?_⟩
  exact ks_wpAny_call_super hD1 hD2 hx hxc hnc (looks_mroIn X hsub) fun h' e k => h h' e k
end
/-! ### arguments and right sides: a parameter, a text -/
open L2 (V RelV Vals RelO)
inductive Ar where | par (x : Str) | lit (t : Str)
def Ar.E : Ar → Nat → Pos → Expr
  | .par x, _, p => .Name x p
  | .lit t, k, p => .Constant (.str t) k p
def Ar.of (b : List (Str × V)) : Ar → V → Prop
  | .par x, v => b.lookup x = some v
  | .lit t, v => v = .str t
/-- what the frame holds of the parameters -/
def Held (env : Env) (m : Str → Option Value) (b : List (Str × V)) : Prop := ∀ x v, b.lookup x = some v → env.kindOf x = some .local ∧ (x == ("__debug__" : Str)) = false ∧ ∃ u, m x = some u ∧ RelV v u
section
variable {prog : Program} {w : World} {M : Model} {A : Around} {E : Value → Shared → Prop} {s : Shared} {K : Frag} {env : Env} {m : Str → Option Value} {b : List (Str × V)}
theorem ev_ar {a : Ar} {k : Nat} {p : Pos} {v : V} {Q : Value → Shared → Prop} (hk : env.scope.kind = .function) (hn : s.heap.Ns env.locals m) (hb : Held env m b) (e : a.of b v)
    (h : ∀ u tk, RelV v u → Q u { s with toks := tk }) : wpAny M A (eval (a.E k p) env) Q E s := by
  cases a with
  | par x =>
    obtain ⟨h1, h2, u, h3, h4⟩ := hb x v e
    exact wpAny_Name (PySem.wpAny_loadName_local hk h1 hn h3 (h u s.toks h4)) h2
  | lit t =>
    have e : v = .str t := e
    subst e
    exact wpAny_Constant_str (h _ _ ⟨_, rfl⟩)
def arsE (l : List (Ar × Nat × Pos)) : List Expr := l.map fun a => a.1.E a.2.1 a.2.2
inductive Ofs (b : List (Str × V)) : List (Ar × Nat × Pos) → List V → Prop
  | nil : Ofs b [] []
  | cons {a l v vs} : a.1.of b v → Ofs b l vs → Ofs b (a :: l) (v :: vs)
theorem star_ar (a : Ar × Nat × Pos) (l : List (Ar × Nat × Pos)) (pos : Pos) : backTo pos (starEach (arsE (a :: l)) env) = (false, eval (a.1.E a.2.1 a.2.2) env) :: backTo pos (starEach (arsE l) env) := by
  obtain ⟨a, k, p⟩ := a
  cases a <;> rfl
theorem plain_ar : ∀ (l : List (Ar × Nat × Pos)) (pos : Pos), (backTo pos (starEach (arsE l) env)).any (·.1) = false
  | [], _ => rfl
  | a :: l, pos => by rw [star_ar]; simpa using plain_ar l pos
theorem ev_ars {pos : Pos} : ∀ {l : List (Ar × Nat × Pos)} {vs : List V} {s : Shared} {Q : List Value → Shared → Prop}, env.scope.kind = .function → s.heap.Ns env.locals m → Held env m b → Ofs b l vs →
    (∀ us tk, Vals vs us → Q us { s with toks := tk }) → wpAny M A (spliced (backTo pos (starEach (arsE l) env))) Q E s
  | _, _, s, _, _, _, _, .nil, h => spliced_nil (h [] s.toks .nil)
  | _, _, s, _, hk, hn, hb, .cons e r, h => by
    rw [star_ar]
    exact spliced_cons (ev_ar hk hn hb e fun u tk ru => ev_ars (s := { s with toks := tk }) hk hn hb r fun us tk' rs => h _ _ (.cons ru rs))
theorem ev_args {pos : Pos} {f : Value} {l : List (Ar × Nat × Pos)} {vs : List V} {Q : Args → Shared → Prop} (hk : env.scope.kind = .function) (hn : s.heap.Ns env.locals m) (hb : Held env m b) (o : Ofs b l vs) (ne : l ≠ [])
    (h : ∀ us tk, Vals vs us → Q ⟨us, []⟩ { s with toks := tk }) : wpAny M A (evalArgs f true (backTo pos (starEach (arsE l) env)) []) Q E s := by
  cases l with
  | nil => exact absurd rfl ne
  | cons a l =>
    rw [star_ar]
    refine evalArgs_plain ?_
    rw [← star_ar]
    exact ev_ars hk hn hb o h
end
/-! ### what a made error is -/
/-- at x: the exception, its dict dx holds fs -/
structure Part (h : Heap) (x C dx : Addr) (fs : List (Str × V)) : Prop where
  obj : ∃ t1 : Addr, h.get? x = some { cls := .ref C, dict := some dx, data := .fields #[.ref t1, .none, .none, .none, .bool false, .none] }
  ns : ∃ m nl, h.Ns1 dx m ∧ (∀ f, RelO (fs.lookup f) (m f)) ∧ Within m nl ∧ nl.length ≤ fs.length
structure InitEnd (h h' : Heap) (x C dx : Addr) (fs : List (Str × V)) : Prop where
  keep : ∀ b o, b ≠ x → h.get? b = some o → h'.get? b = some o
  dbig : h.objs.size ≤ dx
  dne : dx ≠ x
  part : Part h' x C dx fs
/-- __init__, at f, called at an instance of the class at C -/
def InitTo (prog : Program) (w : World) (K : Frag) (C f : Addr) (r : Nat) (vs : List V) (fs : List (Str × V)) : Prop :=
  ∀ (A : Around) (R : Result → Shared → Prop) (s : Shared) (x t0 : Addr) (us : List Value), Gd K s.heap → s.heap.get? x = some (excO C t0) → K.lookup x = none → Vals vs us → A.depth + r ≤ recursionLimit →
    (∀ h' tk dx, InitEnd s.heap h' x C dx fs → R (.ok (.ret .none)) { s with heap := h', toks := tk }) → codeAny (model prog w) A (.call (.ref f) ⟨.ref x :: us, []⟩) R s
theorem relO_put {v : V} {u : Value} {fs : List (Str × V)} {m : Str → Option Value} {f : Str} (r : RelV v u) (h : ∀ g, RelO (fs.lookup g) (m g)) (g : Str) : RelO (List.lookup g ((f, v) :: fs)) (if g = f then some u else m g) := by
  by_cases e : g = f
  · subst e
    rw [if_pos rfl, List.lookup_cons, beq_self_eq_true]
    exact r
  · rw [if_neg e, List.lookup_cons]
    have q : (g == f) = false := by simpa using e
    rw [q]
    exact h g
/-- self.f = a -/
structure As where
  f : Str
  a : Ar
  k : Nat
  p0 : Pos
  p1 : Pos
  p2 : Pos
  p3 : Pos
def As.S (x : As) : Stmt := .Assign [.Attribute (.Name "self" x.p0) x.f x.p1] (x.a.E x.k x.p2) x.p3
inductive Puts (b : List (Str × V)) : List As → List (Str × V) → List (Str × V) → Prop
  | nil {fs} : Puts b [] fs fs
  | cons {a : As} {l v fs fs'} : a.a.of b v → Puts b l ((a.f, v) :: fs) fs' → Puts b (a :: l) fs fs'
section
variable {prog : Program} {w : World} {A : Around} {E : Value → Shared → Prop} {s : Shared} {K : Frag} {env : Env} {m : Str → Option Value} {b : List (Str × V)} {x C dx : Addr}
theorem cls_of (c : Ec K C) : ∃ cd, clsIn K C = some cd ∧ refsVE cd.mro = true ∧ cd.hasDict = true ∧ ∃ bm, cd.mro = .ref C :: bm := by
  obtain ⟨nm, q, N, bs, bm, sn, sub, ab, col, dd, k0, k1, k2, k3, k5, hC, hbm⟩ := c.cls
  refine ⟨_, (by unfold clsIn; rw [hC] <;> rfl), (show refsVE (.ref C :: bm) = true from hbm), rfl, bm, rfl⟩
theorem put1 {a : As} {v : V} {fs : List (Str × V)} {Q : Flow → Shared → Prop} (c : Ec K C) (hf : findIn K (.ref C) a.f = some none) (X : K.In s.heap) (P : Part s.heap x C dx fs) (hz : fs.length ≤ 500)
    (hk : env.scope.kind = .function) (hn : s.heap.Ns env.locals m) (hs : env.kindOf "self" = some .local ∧ m "self" = some (.ref x)) (hb : Held env m b) (e : a.a.of b v)
    (h : ∀ h' tk, (∀ b o, b ≠ dx → s.heap.get? b = some o → h'.get? b = some o) → Part h' x C dx ((a.f, v) :: fs) → dx ≠ x → Q .next { s with heap := h', toks := tk }) : wpAny (model prog w) A (exec a.S env) Q E s := by
  obtain ⟨cd, hcd, hm, hh, _⟩ := cls_of c
  obtain ⟨⟨t1, hx⟩, ⟨mD, nl, hns, hr, hw, hl⟩⟩ := P
  obtain ⟨oD, esD, epD, hoD, hdD, _⟩ := hns.count hw
  have dne : dx ≠ x := fun z => by
    rw [z, hx] at hoD
    cases hoD
    cases hdD
  refine plainObj_wpAny_Assign_Attribute ?_ (by obtain ⟨f, a, k, p0, p1, p2, p3⟩ := a; cases a <;> rfl)
  refine ev_ar hk hn hb e fun u tk ru => wpAny_Name (PySem.wpAny_loadName_local hk hs.1 hn hs.2 ?_) (by decide)
  refine set_plain (s := { s with toks := tk }) (od := some oD) X ⟨hx, rfl, rfl, hoD⟩ c.sa ?_
  refine OEX.osa_old X hx hns hw (by omega) hcd hm hh hf fun h' tk' k' hns' => ?_
  refine h h' tk' k' ⟨⟨t1, k' _ _ (Ne.symm dne) hx⟩, ⟨_, a.f :: nl, hns', relO_put ru hr, Within.cons _ _ hw, ?_⟩⟩ dne
  rw [List.length_cons, List.length_cons]
  omega
/-- the stores of an __init__ -/
theorem puts {fs' : List (Str × V)} {Q : Flow → Shared → Prop} (c : Ec K C) (hk : env.scope.kind = .function) (hs : env.kindOf "self" = some .local ∧ m "self" = some (.ref x)) (hb : Held env m b) (hKx : K.lookup dx = none) :
    ∀ {l : List As} {fs : List (Str × V)} {s : Shared}, Puts b l fs fs' → (∀ a ∈ l, findIn K (.ref C) a.f = some none) → K.In s.heap → Part s.heap x C dx fs → s.heap.Ns env.locals m → env.locals ≠ dx → fs.length + l.length ≤ 500 →
    (∀ h' tk, (∀ b o, b ≠ dx → s.heap.get? b = some o → h'.get? b = some o) → Part h' x C dx fs' → Q .next { s with heap := h', toks := tk }) → wpAny (model prog w) A (execs (l.map As.S) env) Q E s
  | _, _, s, .nil, _, _, P, _, _, _, h => wpAny_execs_nil (h s.heap s.toks (fun _ _ _ e => e) P)
  | _, _, s, .cons e r, hf, X, P, hn, hne, hz, h => by
    refine wpAny_execs_cons (put1 c (hf _ List.mem_cons_self) X P (by simp only [List.length_cons] at hz; omega) hk hn hs hb e fun h' tk k' P' dne => ?_)
    refine puts c hk hs hb hKx r (fun a ha => hf a (List.mem_cons_of_mem _ ha)) (keep_ne X hKx k') P' (hn.at fun o q => k' _ o hne q) hne (by simp only [List.length_cons] at hz ⊢; omega) fun h2 tk2 k2 P2 => ?_
    exact h h2 tk2 (fun b o hb e => k2 b o hb (k' b o hb e)) P2
end
/-! ### the call of the base's __init__ -/
section
variable {prog : Program} {w : World} {A : Around} {E : Value → Shared → Prop} {s : Shared} {K : Frag} {env : Env} {m : Str → Option Value} {b : List (Str × V)} {x C D so t : Addr} {sa : List (Ar × Nat × Pos)} {vs : List V} {pos : Pos} {pl : Sem Bool} {Q : Value → Shared → Prop}
theorem exc_inst {h : Heap} (hx : h.get? x = some (excO C t)) : InstAt h x (excO C t) C none := ⟨hx, rfl, rfl, trivial⟩
theorem sup_ve (c : Ec K C) (ib : ks_superIn K C D "__init__" = some (some (.builtin "ValueError.__init__"))) (hop : nsIn K cStatics "thirdparty.any" = some none) (X : K.In s.heap) (hso : s.heap.get? so = some (ks_superObj D x C)) (hx : s.heap.get? x = some (excO C t))
    (hk : env.scope.kind = .function) (hn : s.heap.Ns env.locals m) (hb : Held env m b) (o : Ofs b sa vs) (ne : sa ≠ []) (hz : vs.length ≤ sizeLine)
    (h : ∀ h' tk t', (∀ b o, b ≠ x → s.heap.get? b = some o → h'.get? b = some o) → h'.get? x = some (excO C t') → Q .none { s with heap := h', toks := tk }) :
    wpAny (model prog w) A (getMethod (.ref so) "__init__" pl) (fun fx s₂ => wpAny (model prog w) A (callWith pos fx.1 fx.2 (backTo pos (starEach (arsE sa) env)) []) Q E s₂) E s := by
  obtain ⟨cd, hcd, hm, hh, _⟩ := cls_of c
  have hxC := ks_ne X (exc_inst hx) hcd
  have hI : Looks (model prog w) s.heap (isInstance (.ref x) (.type "ValueError")) true := (exc_inst hx).type.andThen (looks_subIn X c.exV)
  obtain ⟨nm, q, N, bs, bm, sn, sub, ab, col, dd, k0, k1, k2, k3, k5, hC, hbm⟩ := c.cls
  unfold ks_superIn at ib
  rw [hcd] at ib
  obtain ⟨hp, g, d, tk, os⟩ := s
  refine kxs_getMethod kxs_ValueError hso (looks_opaque X hop) (l₀ := cd.mro) (fun A Q E s k q => wpAny_bind ((looks_clsIn X hcd) A _ E s k (wpAny_pure q))) rfl X ib hI hxC (by decide) ?_
  have k : ∀ b o, hp.get? b = some o → (hp.push (kxs_mw "ValueError.__init__" x)).get? b = some o := fun b o e => Heap.get?_push_of_some _ e
  refine kxs_callWith (i := "ValueError.__init__") (x := x) (plain_ar sa pos) (ev_args hk (hn.keeps k) hb o ne fun us tk' ru => ⟨Heap.get?_push_at rfl rfl, ?_⟩)
  rw [List.nil_append]
  have e : us.length = vs.length := ru.length.symm
  refine call_ve (s := ⟨hp.push (kxs_mw "ValueError.__init__" x), g, d, tk', os⟩) PySem.F.excBase_ValueError (k _ _ (X _ _ hC)) (Heap.get?_push_at rfl rfl) (k _ _ hx) (show us.length ≤ sizeLine by omega) fun h' t' k' e' => ?_
  exact h h' tk' t' (fun b o hb e => k' b o hb (k b o e)) e'
theorem sup_own {fB : Addr} {r : Nat} {fs : List (Str × V)} (c : Ec K C) (ib : ks_superIn K C D "__init__" = some (some (.ref fB))) (hfB : ∃ od dt osl, K.lookup fB = some ⟨.type "function", od, .func dt, osl⟩) (iB : InitTo prog w K C fB r vs fs) (G : Gd K s.heap)
    (hso : s.heap.get? so = some (ks_superObj D x C)) (hx : s.heap.get? x = some (excO C t)) (hKx : K.lookup x = none)
    (hk : env.scope.kind = .function) (hn : s.heap.Ns env.locals m) (hb : Held env m b) (o : Ofs b sa vs) (ne : sa ≠ []) (hroom : A.depth + r ≤ recursionLimit)
    (h : ∀ h' tk dx, InitEnd s.heap h' x C dx fs → Q .none { s with heap := h', toks := tk }) :
    wpAny (model prog w) A (getMethod (.ref so) "__init__" pl) (fun fx s₂ => wpAny (model prog w) A (callWith pos fx.1 fx.2 (backTo pos (starEach (arsE sa) env)) []) Q E s₂) E s := by
  have X := G.kin
  obtain ⟨cd, hcd, hm, hh, _⟩ := cls_of c
  have hxC := ks_ne X (exc_inst hx) hcd
  obtain ⟨od, dt, osl, hfB⟩ := hfB
  unfold ks_superIn at ib
  rw [hcd] at ib
  obtain ⟨hp, g, d, tk, os⟩ := s
  refine ks_wpAny_getMethod_super hso (looks_opaque X G.opq) (l₀ := cd.mro) (fun A Q E s k q => wpAny_bind ((looks_clsIn X hcd) A _ E s k (wpAny_pure q))) rfl X ib (X _ _ hfB) rfl hxC (by decide) ?_
  have k : ∀ b o, hp.get? b = some o → (hp.push (moO fB x)).get? b = some o := fun b o e => Heap.get?_push_of_some _ e
  refine callWith_mo (plain_ar sa pos) (ev_args hk (hn.keeps k) hb o ne fun us tk' ru => ⟨⟨Heap.get?_push_at rfl rfl, _, _, k _ _ (X _ _ hfB), rfl⟩, ?_⟩)
  refine wpAny_call (ks_codeAny_call_bound (Heap.get?_push_at rfl rfl) ?_)
  refine iB _ _ ⟨hp.push (moO fB x), g, d, tk', os⟩ x t us (G.keeps k) (k _ _ hx) hKx ru ?_ fun h' tk2 dx I => ?_
  · exact hroom
  · have hsz : hp.objs.size ≤ (hp.push (moO fB x)).objs.size := by rw [Heap.size_push]; omega
    exact h h' tk2 dx ⟨fun b o hb e => I.keep b o hb (k b o e), Nat.le_trans hsz I.dbig, I.dne, I.part⟩
end
/-! ### the __init__ itself -/
/-- at f a def __init__(self, ps..) whose cell __class__ holds D -/
structure InitDef (prog : Program) (K : Frag) (f D : Addr) (ps : List Str) (body : List Stmt) : Prop where
  ok : ∃ (cc : Addr) (od : Option Addr) (qual : Str) (params : Arguments) (dV kV doc pm : Value) (an : Option Addr) (cda : Addr) (ct : Value) (osl : Array (Option Value)),
    K.lookup f = some ⟨.type "function", od, .func (fnX "__init__" qual params body (scI ps) [("__class__", cc)] dV kV doc pm an (.ref cda) ct), osl⟩ ∧ codeIn K (.ref cda) qual = true ∧
    (∃ ccl cdd vs ccs file tf, K.lookup cda = some ⟨ccl, cdd, .fields vs, ccs⟩ ∧ vs[2]? = some (.str file tf) ∧ (prog.main.file == file) = true) ∧
    (∃ cl cld csl, K.lookup cc = some ⟨cl, cld, .cell (some (.ref D)), csl⟩) ∧ (∃ ar, (params.posonlyargs ++ params.args).head? = some ar ∧ ar.arg = "self") ∧
    (∀ (s : Shared) (x : Addr) (us : List Value), us.length = ps.length → BindsTo s (fnX "__init__" qual params body (scI ps) [("__class__", cc)] dV kV doc pm an (.ref cda) ct) ⟨.ref x :: us, []⟩ ((("self" : Str), .ref x) :: ps.zip us))
  cls : (clsIn K D).isSome = true
  top : (prog.main.scope.names.lookup ("super" : Str)).isSome = false
  nf : ("__class__" : Str) ∉ ps ∧ ("super" : Str) ∉ ps
  nd : (("self" : Str) :: ps).Nodup
  ndb : ("__debug__" : Str) ∉ ps
theorem lk_of_mem {α : Type} : ∀ {l : List (Str × α)} {x : Str} {u : α}, (l.map (·.1)).Nodup → (x, u) ∈ l → l.lookup x = some u
  | [], _, _, _, h => by cases h
  | (y, v) :: l, x, u, nd, h => by
    rw [List.lookup_cons]
    rw [List.map_cons, List.nodup_cons] at nd
    rcases List.mem_cons.mp h with e | e
    · cases e
      rw [beq_self_eq_true]
    · have ne : x ≠ y := fun z => nd.1 (by rw [← z]; exact List.mem_map.mpr ⟨_, e, rfl⟩)
      have q : (x == y) = false := by simpa using ne
      rw [q]
      exact lk_of_mem nd.2 e
theorem zip_rel : ∀ {ps : List Str} {vs : List V} {us : List Value} {x : Str} {v : V}, Vals vs us → (ps.zip vs).lookup x = some v → x ∈ ps ∧ ∃ u, (x, u) ∈ ps.zip us ∧ RelV v u
  | [], _, _, _, _, _, e => by cases e
  | _ :: _, _, _, _, _, .nil, e => by cases e
  | p :: ps, _, _, x, v, .cons r rs, e => by
    rw [List.zip_cons_cons, List.lookup_cons] at e
    by_cases c : x = p
    · subst c
      rw [beq_self_eq_true] at e
      cases e
      exact ⟨List.mem_cons_self, _, List.mem_cons_self, r⟩
    · have q : (x == p) = false := by simpa using c
      rw [q] at e
      obtain ⟨h1, u, h2, h3⟩ := zip_rel rs e
      exact ⟨List.mem_cons_of_mem _ h1, u, List.mem_cons_of_mem _ h2, h3⟩
theorem zip_fst : ∀ {ps : List Str} {us : List Value}, us.length = ps.length → (ps.zip us).map (·.1) = ps
  | [], [], _ => rfl
  | p :: ps, u :: us, h => by
    rw [List.zip_cons_cons, List.map_cons, zip_fst (Nat.succ.inj h)]
  | [], _ :: _, h => by cases h
  | _ :: _, [], h => by cases h
section
variable {prog : Program} {w : World} {A : Around} {E : Value → Shared → Prop} {R : Result → Shared → Prop} {s : Shared} {K : Frag} {f D x C t0 : Addr} {ps : List Str} {body : List Stmt} {vs : List V} {us : List Value}
/-- the frame is entered: what the body finds -/
theorem enter (d : InitDef prog K f D ps body) (G : Gd K s.heap) (hroom : A.depth < recursionLimit) (hv : Vals vs us) (hl : vs.length = ps.length)
    (h : ∀ (env : Env) (m : Str → Option Value) (h₀ : Heap) (tk : Nat), env.scope.kind = .function → h₀.Ns env.locals m → env.locals = s.heap.objs.size → Held env m (ps.zip vs) → (env.kindOf "self" = some .local ∧ m "self" = some (.ref x)) →
      (∀ b o, s.heap.get? b = some o → h₀.get? b = some o) →
      (∀ {A' : Around} {whole : Sem Value} {Q : Value → Shared → Prop} {E : Value → Shared → Prop} {p0 p1 : Pos} {C : Addr} {ox : Obj} {s' : Shared}, Gd K s'.heap → s'.heap.Ns env.locals m → s'.heap.get? x = some ox → ox.cls = .ref C → (∀ c, ox.data ≠ .cls c) → mroIn K C (.ref D) = some true →
        (∀ h', h'.get? s'.heap.objs.size = some (ks_superObj D x C) → (∀ b o, s'.heap.get? b = some o → h'.get? b = some o) → Q (.ref s'.heap.objs.size) { s' with heap := h' }) →
        PySem.wpAt (model prog w) A' (.func body env) (attributeBase (.Call (.Name "super" p0) [] [] p1) "__init__" env whole) Q E s') →
      (env.scope.kind = .function → interactive env = false) →
      ∃ Efin, PySem.wpAt (model prog w) (A.deeper env) (.func body env) (execs body env) (fun fl s' => R (.ok (.ret (match fl with | .ret v => v | _ => .none))) s') Efin { s with heap := h₀, toks := tk } ∧ ∀ e s', ¬ Efin e s') :
    codeAny (model prog w) A (.call (.ref f) ⟨.ref x :: us, []⟩) R s := by
  obtain ⟨cc, od, qual, params, dV, kV, doc, pm, an, cda, ct, osl, lk, hcd, hfile, hcell, har, hbind⟩ := d.ok
  have X := G.kin
  have hul : us.length = ps.length := hv.length.symm.trans hl
  have hkey : (((("self" : Str), Value.ref x) :: ps.zip us).map (·.1)) = ("self" : Str) :: ps := by rw [List.map_cons, zip_fst hul]
  have loc : ∀ y ∈ ("self" : Str) :: ps, (scI ps).names.lookup y = some NameKind.local := by
    intro y hy
    rcases List.mem_cons.mp hy with e | e
    · rw [e] <;> rfl
    · exact scI_loc ps e
  refine ks_codeAny_call_defAt (binds := (("self" : Str), .ref x) :: ps.zip us) hroom (X _ _ lk) rfl G.lim (codeRec_of X hcd) rfl (hbind s x us hul) ?_ ?_ (fun h₀ hn k => ?_) rfl rfl rfl
  · intro y hy
    have hy : y ∈ (("self" : Str), NameKind.local) :: ((ps.map fun (f : Str) => (f, NameKind.local)) ++ [(("__class__" : Str), NameKind.free), (("super" : Str), NameKind.globalImplicit)]) := hy
    simp only [List.mem_cons, List.mem_append, List.mem_map, List.not_mem_nil, or_false] at hy
    rcases hy with e | ⟨_, _, e⟩ | e | e
    · rw [e]; decide
    · rw [← e]; exact fun z => by cases z
    · rw [e]; decide
    · rw [e]; decide
  · intro y hy
    refine loc y.1 ?_
    have := List.mem_map.mpr ⟨y, hy, (rfl : y.1 = y.1)⟩
    rw [hkey] at this
    exact this
  · have hself : ((("self" : Str), Value.ref x) :: ps.zip us).reverse.lookup ("self" : Str) = some (.ref x) := by
      refine lk_of_mem ?_ (List.mem_reverse.mpr List.mem_cons_self)
      rw [List.map_reverse, hkey]
      exact List.pairwise_reverse.mpr (d.nd.imp fun h => Ne.symm h)
    have hheld : Held (callEnv (fnX "__init__" qual params body (scI ps) [("__class__", cc)] dV kV doc pm an (.ref cda) ct) s.heap.objs.size f) (fun y => ((("self" : Str), Value.ref x) :: ps.zip us).reverse.lookup y) (ps.zip vs) := by
      intro y v e
      obtain ⟨h1, u, h2, h3⟩ := zip_rel hv e
      refine ⟨loc _ (List.mem_cons_of_mem _ h1), (by simpa using fun z => d.ndb (by rw [← z]; exact h1)), u, ?_, h3⟩
      refine lk_of_mem ?_ (List.mem_reverse.mpr (List.mem_cons_of_mem _ h2))
      rw [List.map_reverse, hkey]
      exact List.pairwise_reverse.mpr (d.nd.imp fun h => Ne.symm h)
    obtain ⟨Efin, w1, w2⟩ := h (callEnv (fnX "__init__" qual params body (scI ps) [("__class__", cc)] dV kV doc pm an (.ref cda) ct) s.heap.objs.size f) (fun y => ((("self" : Str), Value.ref x) :: ps.zip us).reverse.lookup y) h₀ (s.toks + ((("self" : Str), Value.ref x) :: ps.zip us).length) rfl hn rfl hheld ⟨loc _ List.mem_cons_self, hself⟩ k
      (fun {A' whole Q E p0 p1 C ox s'} G' hn' hx hxc hnc hsub q => by
        obtain ⟨ccl, cdd, vs', ccs, file, tf, e1, e2, e3⟩ := hfile
        exact at_super G' lk ⟨ccl, cdd, vs', ccs, file, tf, e1, e2, e3⟩ hcell d.cls d.top har d.nf hn' hself hx hxc hnc hsub q) (fun _ => rfl)
    exact ks_wpAt_mono w1 (fun _ _ z => z) fun e s' z => (w2 e s' z).elim
theorem eval_sup {env : Env} {q0 q1 q2 q3 : Pos} {line : Nat} {sa : List (Ar × Nat × Pos)} (hq : (q2.endLine == q3.line) = true) (hl : sa.length < 30) : (∃ pl : Sem Bool, eval (.Call (.Attribute (.Call (.Name "super" q0) [] [] q1) "__init__" q2) (arsE sa) [] q3) env = (do
      let ov ← attributeBase (.Call (.Name "super" q0) [] [] q1) "__init__" env (eval (.Call (.Name "super" q0) [] [] q1) env)
      standAt q2.atName
      let (f, first) ← holding [ov] (getMethod ov "__init__" pl)
      callWith q3 f first (backTo q3 (starEach (arsE sa) env)) [])) ∧ swapsWith (.Call (.Attribute (.Call (.Name "super" q0) [] [] q1) "__init__" q2) (arsE sa) [] q3) none line env = pure false := by
  have few : methodCallForm ((arsE sa).length + 0) (backTo q3 (starEach (arsE sa) env)) [] = true := by
    have h1 : (backTo q3 (starEach (arsE sa) env)).all (!·.1) = true := by
      have := plain_ar (env := env) sa q3
      rw [List.all_eq_true]
      intro y hy
      rw [List.any_eq_false] at this
      simpa using this y hy
    have h2 : (arsE sa).length + 0 + 0 < 30 := by
      unfold arsE
      rw [List.length_map]
      exact hl
    unfold methodCallForm
    rw [h1]
    simpa using h2
  refine ⟨⟨(do return (← importBound (.Call (.Name "super" q0) [] [] q1) env).getD true), ?_⟩, rfl⟩
  show (do let ov ← attributeBase (.Call (.Name "super" q0) [] [] q1) "__init__" env (eval (.Call (.Name "super" q0) [] [] q1) env); standAt q2.atName; methodCall (.Call (.Name "super" q0) [] [] q1) "__init__" q2 q3 env ov ((arsE sa).length + 0) (backTo q3 (starEach (arsE sa) env)) []) = _
  unfold methodCall
  rw [few]
  simp only [calleeOf, methodCallPos, hq, Bool.or_true, if_true]
  rfl
theorem init_sub {fB : Addr} {r : Nat} {sa : List (Ar × Nat × Pos)} {as : List As} {vA : List V} {fs0 fs : List (Str × V)} {q0 q1 q2 q3 q4 : Pos} (c : Ec K C) (d : InitDef prog K f D ps (supL q0 q1 q2 q3 q4 (arsE sa) :: as.map As.S)) (hsub : mroIn K C (.ref D) = some true)
    (ib : ks_superIn K C D "__init__" = some (some (.ref fB))) (hfB : ∃ od dt osl, K.lookup fB = some ⟨.type "function", od, .func dt, osl⟩) (iB : InitTo prog w K C fB r vA fs0) (o : Ofs (ps.zip vs) sa vA) (gd : sa ≠ []) (hg : sa.length < 30) (hq2 : (q2.endLine == q3.line) = true) (p : Puts (ps.zip vs) as fs0 fs)
    (hf : ∀ a ∈ as, findIn K (.ref C) a.f = some none) (hl : vs.length = ps.length) (hr : 1 ≤ r) (hz : fs0.length + as.length ≤ 500) : InitTo prog w K C f (r + 1) vs fs := by
  intro A R s x t0 us G hx hKx hv hroom hq
  refine enter d G (by omega) hv hl fun env m h₀ tk hk hn heq hb hs k sup hi => ⟨fun _ _ => False, ?_, fun _ _ z => z⟩
  have hsz : s.heap.objs.size ≠ x := Nat.ne_of_gt (Heap.lt_size hx)
  obtain ⟨⟨pl, hpl⟩, hsw⟩ := eval_sup (env := env) (q0 := q0) (q1 := q1) (q2 := q2) (q3 := q3) (line := q4.line) hq2 hg
  refine ks_wpAt_execs_cons (ks_wpAt_Expr_any (ks_wpAt_MethodCall (pl := pl) (sup (s' := { s with heap := h₀, toks := tk }) (G.keeps k) hn (k _ _ hx) rfl (fun _ z => by cases z) hsub fun h' e' k' => ?_) hpl) (hi hk) hsw)
  refine sup_own c ib hfB iB ((G.keeps k).keeps k') e' (k' _ _ (k _ _ hx)) hKx hk (hn.keeps k') hb o gd (by show A.depth + 1 + r ≤ _; omega) fun h2 tk2 dx I => ?_
  have kk : ∀ b o, b ≠ x → s.heap.get? b = some o → h2.get? b = some o := fun b o hb e => I.keep b o hb (k' b o (k b o e))
  have hKd : K.lookup dx = none := by
    refine notK G.kin ?_
    cases e : s.heap.get? dx with
    | none => rfl
    | some od =>
      have := Heap.lt_size (k' _ _ (k _ _ e))
      exact absurd I.dbig (Nat.not_le_of_lt this)
  have big : s.heap.objs.size < dx := by
    have z : s.heap.objs.size < h₀.objs.size := by
      have := hn.lt
      rw [heq] at this
      exact this
    refine Nat.lt_of_lt_of_le z (Nat.le_trans ?_ I.dbig)
    exact Nat.le_trans (Nat.le_succ _) (Heap.lt_size e')
  refine wpAt_of_wpAny (puts c hk hs hb hKd p hf (keep_ne (G.kin.keeps k |>.keeps k') hKx I.keep) I.part ((hn.keeps k').at fun o q => I.keep _ o (by rw [heq]; exact hsz) q) (by rw [heq]; exact Nat.ne_of_lt big) hz fun h3 tk3 k3 P3 => ?_)
  refine hq h3 tk3 dx ⟨fun b o hb e => k3 b o (Nat.ne_of_lt (Nat.lt_trans (Heap.lt_size e) big)) (kk b o hb e), Nat.le_of_lt big, I.dne, P3⟩
theorem init_ve {sa : List (Ar × Nat × Pos)} {a : As} {vA : List V} {v : V} {q0 q1 q2 q3 q4 : Pos} (c : Ec K C) (d : InitDef prog K f D ps (supL q0 q1 q2 q3 q4 (arsE sa) :: [a.S])) (hsub : mroIn K C (.ref D) = some true)
    (ib : ks_superIn K C D "__init__" = some (some (.builtin "ValueError.__init__"))) (o : Ofs (ps.zip vs) sa vA) (gd : sa ≠ []) (hg : sa.length < 30) (hq2 : (q2.endLine == q3.line) = true) (hzA : vA.length ≤ sizeLine) (e : a.a.of (ps.zip vs) v)
    (hf : findIn K (.ref C) a.f = some none) (hl : vs.length = ps.length) : InitTo prog w K C f 1 vs [(a.f, v)] := by
  intro A R s x t0 us G hx hKx hv hroom hq
  refine enter d G (by omega) hv hl fun env m h₀ tk hk hn heq hb hs k sup hi => ⟨fun _ _ => False, ?_, fun _ _ z => z⟩
  have hsz : s.heap.objs.size ≠ x := Nat.ne_of_gt (Heap.lt_size hx)
  obtain ⟨cd, hcd, hm, hh, _⟩ := cls_of c
  obtain ⟨⟨pl, hpl⟩, hsw⟩ := eval_sup (env := env) (q0 := q0) (q1 := q1) (q2 := q2) (q3 := q3) (line := q4.line) hq2 hg
  refine ks_wpAt_execs_cons (ks_wpAt_Expr_any (ks_wpAt_MethodCall (pl := pl) (sup (s' := { s with heap := h₀, toks := tk }) (G.keeps k) hn (k _ _ hx) rfl (fun _ z => by cases z) hsub fun h' e' k' => ?_) hpl) (hi hk) hsw)
  refine sup_ve c ib G.opq ((G.keeps k).keeps k').kin e' (k' _ _ (k _ _ hx)) hk (hn.keeps k') hb o gd hzA fun h2 tk2 t' k2 hx2 => ?_
  have kk : ∀ b o, b ≠ x → s.heap.get? b = some o → h2.get? b = some o := fun b o hb e => k2 b o hb (k' b o (k b o e))
  have X2 : K.In h2 := keep_ne G.kin hKx kk
  have hn2 : h2.Ns env.locals m := (hn.keeps k').at fun o q => k2 _ o (by rw [heq]; exact hsz) q
  have big : s.heap.objs.size < h2.objs.size := by
    have := hn2.lt
    rw [heq] at this
    exact this
  refine wpAt_of_wpAny (wpAny_execs_cons (plainObj_wpAny_Assign_Attribute ?_ (by obtain ⟨f, a, k, p0, p1, p2, p3⟩ := a; cases a <;> rfl)))
  refine ev_ar hk hn2 hb e fun u tk3 ru => wpAny_Name (PySem.wpAny_loadName_local hk hs.1 hn2 hs.2 ?_) (by decide)
  refine set_plain (s := { s with heap := h2, toks := tk3 }) (od := none) X2 ⟨hx2, rfl, rfl, trivial⟩ c.sa ?_
  refine exc_osa X2 hx2 hcd hm hh hf fun h3 tk4 dx k3 dbig dne hx3 hns3 => ?_
  refine wpAny_execs_nil (hq h3 tk4 dx ⟨fun b o hb e => k3 b o hb (kk b o hb e), Nat.le_of_lt (Nat.lt_of_lt_of_le big dbig), dne, ⟨⟨t', hx3⟩, ⟨_, [a.f], hns3, ?_, Within.cons _ _ Within.nil, Nat.le_refl _⟩⟩⟩)
  exact relO_put ru (fs := []) (m := fun _ => none) (fun _ => trivial)
end
/-- a made error -/
structure Made (h h' : Heap) (e C d : Addr) (fs : List (Str × V)) : Prop where
  keep : ∀ b o, h.get? b = some o → h'.get? b = some o
  new : h.objs.size ≤ e
  dbig : h.objs.size ≤ d
  dne : d ≠ e
  part : Part h' e C d fs
section
variable {prog : Program} {w : World} {A : Around} {R : Result → Shared → Prop} {s : Shared} {K : Frag} {C fI : Addr} {vs : List V} {us : List Value}
/-- C(..) -/
theorem made {r : Nat} {fs : List (Str × V)} (c : Ec K C) (iC : findIn K (.ref C) "__init__" = some (some (.ref fI))) (tI : typeIn K (.ref fI) = some (.type "function")) (iT : InitTo prog w K C fI r vs fs) (G : Gd K s.heap) (hv : Vals vs us) (hz : us.length ≤ sizeLine) (hroom : A.depth + 1 + r ≤ recursionLimit)
    (hq : ∀ h' tk e d, Made s.heap h' e C d fs → R (.ok (.ret (.ref e))) { s with heap := h', toks := tk }) : codeAny (model prog w) A (.call (.ref C) ⟨us, []⟩) R s := by
  obtain ⟨nm, q, N, bs, bm, sn, sub, ab, col, dd, k0, k1, k2, k3, k5, hC, hbm⟩ := c.cls
  obtain ⟨hp, g, dr, tk, os⟩ := s
  have X := G.kin
  have k : ∀ b o, hp.get? b = some o → ((hp.push (kdv_tup us)).push (excO C hp.objs.size)).get? b = some o := fun b o e => Heap.get?_push_of_some _ (Heap.get?_push_of_some _ e)
  have hget : ((hp.push (kdv_tup us)).push (excO C hp.objs.size)).get? (hp.objs.size + 1) = some (excO C hp.objs.size) := by heap_get
  have hnx : K.lookup (hp.objs.size + 1) = none := by
    cases e : K.lookup (hp.objs.size + 1) with
    | none => rfl
    | some o =>
      have z : hp.get? (hp.objs.size + 1) = some o := X _ _ e
      exact absurd (Nat.lt_of_succ_lt (Heap.lt_size z)) (Nat.lt_irrefl _)
  refine call_own PySem.F.excBase_ValueError (fun X => refsVE_contains X bm hbm) (X _ _ hC) (looks_findIn X iC) (fun self => bind_fn X self tI) hz ?_
  refine iT _ _ ⟨(hp.push (kdv_tup us)).push (excO C hp.objs.size), g, dr, tk, os⟩ (hp.objs.size + 1) hp.objs.size us (G.keeps k) hget hnx hv ?_ fun h' tk' dx I => ?_
  · show A.depth + 1 + r ≤ recursionLimit
    exact hroom
  · have old : ∀ b o, hp.get? b = some o → h'.get? b = some o := fun b o e => I.keep b o (Nat.ne_of_lt (Nat.lt_succ_of_lt (Heap.lt_size e))) (k b o e)
    have z : hp.objs.size ≤ dx := by
      have q := I.dbig
      rw [Heap.size_push, Heap.size_push] at q
      omega
    exact ⟨rfl, hq h' tk' (hp.objs.size + 1) dx ⟨old, Nat.le_succ _, z, I.dne, I.part⟩⟩
end
/-! ### the text of the inits, as the classes of this program write them -/
structure Frm (body : List Stmt) (sa : List Ar) (as : List (Str × Ar)) : Prop where
  ok : ∃ (q0 q1 q2 q3 q4 : Pos) (sl : List (Ar × Nat × Pos)) (al : List As), body = supL q0 q1 q2 q3 q4 (arsE sl) :: al.map As.S ∧ sl.map (·.1) = sa ∧ al.map (fun a => (a.f, a.a)) = as ∧ (q2.endLine == q3.line) = true
def errF (ps : List Str) (t : Str) (vs : List V) : List (Str × V) := (ps.zip vs).reverse ++ [(("reason" : Str), .str t)]
theorem puts_zip {b : List (Str × V)} : ∀ {al : List As} {ps : List Str} {vs : List V} {fs : List (Str × V)}, al.map (fun a => (a.f, a.a)) = ps.map (fun p => (p, Ar.par p)) → vs.length = ps.length → (∀ p ∈ ps.zip vs, b.lookup p.1 = some p.2) → Puts b al fs ((ps.zip vs).reverse ++ fs)
  | [], [], [], _, _, _, _ => .nil
  | a :: al, p :: ps, v :: vs, fs, h, hl, hb => by
    rw [List.map_cons, List.map_cons] at h
    injection h with h1 h2
    injection h1 with h1 h3
    have ih := puts_zip (b := b) (fs := (p, v) :: fs) h2 (Nat.succ.inj hl) fun q hq => hb q (List.mem_cons_of_mem _ hq)
    rw [List.zip_cons_cons, List.reverse_cons, List.append_assoc]
    refine .cons (v := v) ?_ (by rw [h1]; exact ih)
    rw [h3]
    exact hb (p, v) List.mem_cons_self
  | [], _ :: _, _, _, h, _, _ => by cases h
  | _ :: _, [], _, _, h, _, _ => by cases h
  | _, [], _ :: _, _, _, h, _ => by cases h
  | _, _ :: _, [], _, _, h, _ => by cases h
theorem zip_lk {ps : List Str} {vs : List V} (nd : ps.Nodup) (hl : vs.length = ps.length) : ∀ p ∈ ps.zip vs, (ps.zip vs).lookup p.1 = some p.2 := by
  intro p hp
  refine lk_of_mem ?_ hp
  have : (ps.zip vs).map (·.1) = ps := by
    clear hp nd
    induction ps generalizing vs with
    | nil => simp
    | cons q qs ih =>
      cases vs with
      | nil => cases hl
      | cons v vs => rw [List.zip_cons_cons, List.map_cons, ih (Nat.succ.inj hl)]
  rw [this]
  exact nd
theorem map_one {α β : Type} {g : α → β} {l : List α} {b : β} (h : l.map g = [b]) : ∃ a, l = [a] ∧ g a = b := by
  cases l with
  | nil => cases h
  | cons a l =>
    cases l with
    | nil => exact ⟨a, rfl, (List.cons.inj h).1⟩
    | cons _ _ => cases h
section
variable {P : Program} {w : World} {K : Frag} {C C0 f f0 : Addr} {ps : List Str} {body body0 : List Stmt} {t : Str}
theorem fork_to (c : Ec K C) (d : InitDef P K f0 C0 ["reason"] body0) (fr : Frm body0 [.par "reason"] [("reason", .par "reason")]) (hsub : mroIn K C (.ref C0) = some true) (ib : ks_superIn K C C0 "__init__" = some (some (.builtin "ValueError.__init__")))
    (hf : findIn K (.ref C) "reason" = some none) (v : V) : InitTo P w K C f0 1 [v] [("reason", v)] := by
  obtain ⟨q0, q1, q2, q3, q4, sl, al, rfl, e1, e2, e3⟩ := fr.ok
  have hlk : ((["reason"] : List Str).zip [v]).lookup ("reason" : Str) = some v := by simp [List.zip, List.zipWith, List.lookup]
  obtain ⟨⟨a, k, p⟩, rfl, e9⟩ := map_one e1
  clear e1
  have e9 : a = _ := e9
  subst e9
  obtain ⟨a1, rfl, e8⟩ := map_one e2
  injection e8 with e4 e5
  have := init_ve (vs := [v]) (vA := [v]) (v := v) (a := a1) (w := w) c d hsub ib (.cons hlk .nil) (by simp) (by simp) e3 (by rw [sizeLine_eq]; exact (by decide : 1 ≤ 16777216)) (by rw [e5]; exact hlk) (by rw [e4]; exact hf) rfl
  rw [e4] at this
  exact this
theorem sub_to (c : Ec K C) (d : InitDef P K f C ps body) (fr : Frm body [.lit t] (ps.map fun p => (p, .par p))) (hsub : mroIn K C (.ref C) = some true) (ib : ks_superIn K C C "__init__" = some (some (.ref f0))) (hf0 : ∃ od dt osl, K.lookup f0 = some ⟨.type "function", od, .func dt, osl⟩)
    (iB : ∀ v, InitTo P w K C f0 1 [v] [("reason", v)]) (hf : ∀ p ∈ ps, findIn K (.ref C) p = some none) (hps : ps.length ≤ 100) (vs : List V) (hl : vs.length = ps.length) : InitTo P w K C f 2 vs (errF ps t vs) := by
  obtain ⟨q0, q1, q2, q3, q4, sl, al, rfl, e1, e2, e3⟩ := fr.ok
  have hal : al.length = ps.length := by
    have := congrArg List.length e2
    simpa using this
  obtain ⟨⟨a, k, p⟩, rfl, e9⟩ := map_one e1
  clear e1
  have e9 : a = _ := e9
  subst e9
  refine init_sub (r := 1) (sa := [(.lit t, k, p)]) (vA := [.str t]) (fs0 := [("reason", .str t)]) c d hsub ib hf0 (iB _) (.cons rfl .nil) (by simp) (by simp) e3 (puts_zip e2 hl (zip_lk ?_ hl)) (fun a ha => ?_) hl (Nat.le_refl _) (by simp only [List.length_cons, List.length_nil]; omega)
  · exact (List.nodup_cons.mp d.nd).2
  · have : (a.f, a.a) ∈ al.map (fun a => (a.f, a.a)) := List.mem_map.mpr ⟨a, ha, rfl⟩
    rw [e2] at this
    obtain ⟨p, hp, e⟩ := List.mem_map.mp this
    injection e with e _
    rw [← e]
    exact hf p hp
end
/-- what is asked of a class at once -/
def ecB (K : Frag) (C : Addr) (fs : List Str) : Bool :=
  decide (findIn K (.ref C) "__setattr__" = some (some (.builtin "object.__setattr__"))) && (decide (subIn K (.ref C) (.type "ValueError") = some true) && (keepIn K (.ref C) && (decide (typeIn K (.ref C) = some (.type "type")) && (L2.xfB K C && (decide (mroIn K C (.ref C) = some true) &&
    fs.all fun f => decide (findIn K (.ref C) f = some none))))))
structure EcB (K : Frag) (C : Addr) (fs : List Str) : Prop where
  sa : findIn K (.ref C) "__setattr__" = some (some (.builtin "object.__setattr__"))
  exV : subIn K (.ref C) (.type "ValueError") = some true
  kC : keepIn K (.ref C) = true
  tyC : typeIn K (.ref C) = some (.type "type")
  xf : L2.XfC K C
  mr : mroIn K C (.ref C) = some true
  no : ∀ f ∈ fs, findIn K (.ref C) f = some none
theorem ecB_ok {K : Frag} {C : Addr} {fs : List Str} (h : ecB K C fs = true) : EcB K C fs := by
  obtain ⟨h1, h⟩ := Bool.and_eq_true_iff.mp h
  obtain ⟨h2, h⟩ := Bool.and_eq_true_iff.mp h
  obtain ⟨h3, h⟩ := Bool.and_eq_true_iff.mp h
  obtain ⟨h4, h⟩ := Bool.and_eq_true_iff.mp h
  obtain ⟨h5, h⟩ := Bool.and_eq_true_iff.mp h
  obtain ⟨h6, h7⟩ := Bool.and_eq_true_iff.mp h
  exact ⟨of_decide_eq_true h1, of_decide_eq_true h2, h3, of_decide_eq_true h4, L2.xfB_ok h5, of_decide_eq_true h6, fun f hf => of_decide_eq_true (List.all_eq_true.mp h7 f hf)⟩
open PySem.Spec in
theorem idef_mk {P : Program} {K : Frag} {st : Stmt} {ps : List Str} {f D cc cda : Addr} {qual file : Str} {tf : Tok} {od an cdd cld : Option Addr} {dV kV doc pm ct ccl cl : Value} {osl ccs csl : Array (Option Value)} {vs : Array Value}
    (l : K.lookup f = some ⟨.type "function", od, .func (fnX "__init__" qual (L2.defArgs st) (L2.defBody st) (L2.defScope st) [("__class__", cc)] dV kV doc pm an (.ref cda) ct), osl⟩) (hc : codeIn K (.ref cda) qual = true)
    (lc : K.lookup cda = some ⟨ccl, cdd, .fields vs, ccs⟩) (hv : vs[2]? = some (.str file tf)) (hf : (P.main.file == file) = true) (cell : K.lookup cc = some ⟨cl, cld, .cell (some (.ref D)), csl⟩) (hD : (clsIn K D).isSome = true)
    (top : (P.main.scope.names.lookup ("super" : Str)).isSome = false) (hs : L2.defScope st = scI ps) (har : ∃ ar, ((L2.defArgs st).posonlyargs ++ (L2.defArgs st).args).head? = some ar ∧ ar.arg = "self")
    (hb : ∀ (s : Shared) (x : Addr) (us : List Value), us.length = ps.length → BindsTo s (fnX "__init__" qual (L2.defArgs st) (L2.defBody st) (scI ps) [("__class__", cc)] dV kV doc pm an (.ref cda) ct) ⟨.ref x :: us, []⟩ ((("self" : Str), .ref x) :: ps.zip us))
    (nf : (("__class__" : Str) :: ("super" : Str) :: ("__debug__" : Str) :: ("self" : Str) :: ps).Nodup) : InitDef P K f D ps (L2.defBody st) := by
  obtain ⟨n1, nf⟩ := List.nodup_cons.mp nf
  obtain ⟨n2, nf⟩ := List.nodup_cons.mp nf
  obtain ⟨n3, nf⟩ := List.nodup_cons.mp nf
  rw [hs] at l
  exact ⟨⟨cc, od, qual, L2.defArgs st, dV, kV, doc, pm, an, cda, ct, osl, l, hc, ⟨ccl, cdd, vs, ccs, file, tf, lc, hv, hf⟩, ⟨cl, cld, csl, cell⟩, har, hb⟩, hD, top,
    ⟨fun z => n1 (List.mem_cons_of_mem _ (List.mem_cons_of_mem _ (List.mem_cons_of_mem _ z))), fun z => n2 (List.mem_cons_of_mem _ (List.mem_cons_of_mem _ z))⟩, nf, fun z => n3 (List.mem_cons_of_mem _ z)⟩
theorem idef_fn {P : Program} {K : Frag} {f D : Addr} {ps : List Str} {body : List Stmt} (d : InitDef P K f D ps body) : ∃ od dt osl, K.lookup f = some ⟨.type "function", od, .func dt, osl⟩ := by
  obtain ⟨cc, od, qual, params, dV, kV, doc, pm, an, cda, ct, osl, lk, _⟩ := d.ok
  exact ⟨_, _, _, lk⟩
theorem ec_mk {K : Frag} {C N : Addr} {fs : List Str} {nm q : Str} {bs bm : List Value} {sn : List Str} {sub : List Value} {ab : Bool} {col : Option Bool} {dd : Option Addr} {k0 k1 k2 k3 k5 : Option Value} (b : EcB K C fs)
    (x : K.lookup C = some (excClassObj nm q C N bs bm true sn sub ab col dd k0 k1 k2 k3 k5 "ValueError.__new__")) (h : refsVE bm = true) : Ec K C :=
  ⟨⟨nm, q, N, bs, bm, sn, sub, ab, col, dd, k0, k1, k2, k3, k5, x, h⟩, b.sa, b.exV⟩
theorem ec_cls {K : Frag} {C : Addr} (c : Ec K C) : (clsIn K C).isSome = true := by
  obtain ⟨cd, h, _⟩ := cls_of c
  rw [h] <;> rfl
end ExL
namespace L2
open PySem PySem.Spec PyProof.Rows
/-- what is said of an error class: name in the module, class at C, r rooms for its __init__, n parameters, the fields -/
structure Err (P : Program) (w : World) (K : PySem.W.Frag) (mg : Str → Option Value) (name : Str) (C : Addr) (r n : Nat) (mk : List V → List (Str × V)) : Prop where
  g : mg name = some (.ref C)
  ec : ExL.Ec K C
  ini : ∃ fI, PySem.W.findIn K (.ref C) "__init__" = some (some (.ref fI)) ∧ PySem.W.typeIn K (.ref fI) = some (.type "function") ∧ ∀ vs : List V, vs.length = n → ExL.InitTo P w K C fI r vs (mk vs)
  sup : PySem.W.nsIn K mainGlobals "super" = some none
  opq : PySem.W.nsIn K cStatics "thirdparty.any" = some none
  kC : PySem.W.keepIn K (.ref C) = true
  tyC : PySem.W.typeIn K (.ref C) = some (.type "type")
  xf : XfC K C
section
variable {X : Cx} {C : Addr}
theorem Inv.gd {pins : List (Addr × Obj)} {σ : St} {H : Hp} {s : Shared} (I : Inv X pins σ H s) (h1 : PySem.W.nsIn X.K mainGlobals "super" = some none) (h2 : PySem.W.nsIn X.K cStatics "thirdparty.any" = some none) : ExL.Gd X.K s.heap :=
  ⟨I.kIn, h1, h2, ⟨_, I.mod.glob.keeps I.bk⟩, (let ⟨mb, e, q⟩ := I.mod.blt; ⟨mb, e.keeps I.bk, q _ (by decide)⟩), I.nolimit⟩
theorem Room.er {k r : Nat} {A : Around} (h : Room k A) (l : r ≤ 3) : A.depth + 1 + r ≤ recursionLimit := by
  have := h.dp
  omega
/-- C(e, ..) -/
def tMk (C : Addr) (mk : List V → List (Str × V)) (n : Nat) (ta : TA) : St → Hp → XK → Prop := fun σ H Q => ta σ H fun vs H1 => vs.length = n ∧ ∀ d, H1 d = none → Q (.ref C) (some d) (upd H1 d (.xd (mk vs)))
theorem pmk_err {name : Str} {r n : Nat} {mk : List V → List (Str × V)} {e : Expr} {es : List Expr} {ta : TA} {p pos : Pos} (T : Err X.prog X.w X.K X.mg name C r n mk) (hr : X.A.depth + 1 + r ≤ recursionLimit) (hn : n ≤ sizeLine) (ha : PA X (e :: es) ta) (hg : Gl X name := by rfl)
    (he : starEach (e :: es) X.env = (false, eval e X.env) :: starEach es X.env := by rfl) (hpl : (backTo pos (starEach es X.env)).any (·.1) = false := by rfl) (hd : (name == ("__debug__" : Str)) = false := by decide) :
    PMk X (.Call (.Name name p) (e :: es) [] pos) (tMk C mk n ta) := by
  intro pins s σ H Q I h
  refine wpAny_Call_Name_kw (ld_glob I hg T.g ?_ hd)
  refine PySem.W.callWith_K (h₀ := X.base) I.ok.mod.kin T.kC (thn (ha.run pos pins s σ H _ I h) fun us s1 hh => ?_) he hpl
  obtain ⟨vs, H1, I1, r1, ev, q1⟩ := hh
  refine ⟨I1.kIn, ?_⟩
  obtain ⟨fI, i1, i2, i3⟩ := T.ini
  have hl : us.length = vs.length := r1.length.symm
  show wpAny _ _ (call (.ref C) us) _ _ _
  obtain ⟨hp, g, dr, tk, os⟩ := s1
  refine wpAny_call (ExL.made T.ec i1 i2 (i3 vs ev) (I1.gd T.sup T.opq) r1 (by omega) hr fun h' tk' e d M => ?_)
  show MkP X pins σ Q (.ref e) ⟨h', g, dr, tk', os⟩
  obtain ⟨⟨t1, hoe⟩, ⟨mD, nl, hns, hrel, _, _⟩⟩ := M.part
  obtain ⟨G', g1, g2⟩ := restrict h' fun b => decide (b ≠ e)
  have gk : ∀ b, b ≠ e → G'.get? b = h'.get? b := fun b hb => g1 b (decide_eq_true hb)
  have ge : G'.get? e = none := g2 e (by simp)
  have old : ∀ b o, hp.get? b = some o → G'.get? b = some o := fun b o q => (gk b (Nat.ne_of_lt (Nat.lt_of_lt_of_le (Heap.lt_size q) M.new))).trans (M.keep b o q)
  have ob : ObjOk X.prog X.w (upd H1 d (.xd (mk vs))) G' d (.xd (mk vs)) :=
    ⟨_, hns.at (fun o q => (gk d M.dne).trans q), hrel⟩
  have J : Inv X pins σ (upd H1 d (.xd (mk vs))) ⟨G', g, dr, tk', os⟩ := I1.laid (t' := tk') old M.dbig ob
  refine ⟨e, _, _, ⟨G', g, dr, tk', os⟩, _, .ref C, some d, rfl, J, fun b o q => ?_, ge, hoe, ⟨rfl, rfl⟩, rfl, rfl, ?_, rfl, I1.bare, raises_own T.xf.exC T.tyC, q1 d (I1.hok.fresh M.dbig)⟩
  · by_cases hb : b = e
    · have q' : G'.get? b = some o := q
      rw [hb, ge] at q'; cases q'
    · exact (gk b hb).symm.trans q
  · rw [upd_ne (Ne.symm M.dne)]
    exact I1.hok.fresh M.new
/-- raise C(e, ..) -/
def tRaise (C : Addr) (mk : List V → List (Str × V)) (n : Nat) (W : WX) (ta : TA) : TS := fun _ σ H => tMk C mk n ta σ H fun cls d H' => W cls d σ H'
theorem ps_raiseE {name : Str} {r n : Nat} {mk : List V → List (Str × V)} {e : Expr} {es : List Expr} {ta : TA} {W : WX} {p pos pos2 : Pos} (hc : X.calm = true) (T : Err X.prog X.w X.K X.mg name C r n mk) (hr : X.A.depth + 1 + r ≤ recursionLimit) (hn : n ≤ sizeLine) (tk : Takes X W) (ha : PA X (e :: es) ta) (hg : Gl X name := by rfl)
    (he : starEach (e :: es) X.env = (false, eval e X.env) :: starEach es X.env := by rfl) (hpl : (backTo pos (starEach es X.env)).any (·.1) = false := by rfl) (hd : (name == ("__debug__" : Str)) = false := by decide) :
    PS X (.Raise (some (.Call (.Name name p) (e :: es) [] pos)) none pos2) (tRaise C mk n W ta) := ps_raise hc tk (pmk_err T hr hn ha hg he hpl hd)
end
theorem err_mk {P : Program} {w : World} {K : PySem.W.Frag} {mg : Str → Option Value} {name t : Str} {C C0 f f0 : Addr} {ps : List Str} {body body0 : List Stmt} (g : mg name = some (.ref C)) (c : ExL.Ec K C) (b : ExL.EcB K C ("reason" :: ps))
    (d0 : ExL.InitDef P K f0 C0 ["reason"] body0) (fr0 : ExL.Frm body0 [.par "reason"] [("reason", .par "reason")]) (m0 : PySem.W.mroIn K C (.ref C0) = some true) (i0 : PySem.W.ks_superIn K C C0 "__init__" = some (some (.builtin "ValueError.__init__")))
    (d : ExL.InitDef P K f C ps body) (fr : ExL.Frm body [.lit t] (ps.map fun p => (p, .par p))) (i1 : PySem.W.ks_superIn K C C "__init__" = some (some (.ref f0))) (iC : PySem.W.findIn K (.ref C) "__init__" = some (some (.ref f))) (tI : PySem.W.typeIn K (.ref f) = some (.type "function"))
    (sup : PySem.W.nsIn K mainGlobals "super" = some none) (opq : PySem.W.nsIn K cStatics "thirdparty.any" = some none) (hl : ps.length ≤ 100) : Err P w K mg name C 2 ps.length (ExL.errF ps t) :=
  ⟨g, c, ⟨f, iC, tI, fun vs hv => ExL.sub_to c d fr b.mr i1 (ExL.idef_fn d0) (fun v => ExL.fork_to c d0 fr0 m0 i0 (b.no _ List.mem_cons_self) v) (fun p hp => b.no _ (List.mem_cons_of_mem _ hp)) hl vs hv⟩, sup, opq, b.kC, b.tyC, b.xf⟩
/-! ### e.f in an except suite, whatever the class -/
def tXg (K : PySem.W.Frag) (a : Addr) (cls : Value) (d : Option Addr) (f : Str) (te : TE) : TE := fun σ H Q => te σ H fun x H1 => x = .ref a ∧ ∃ (C dd : Addr) (fs : List (Str × V)) (v : V), cls = .ref C ∧ (XfC K C ∧ PySem.W.findIn K (.ref C) f = some none) ∧ d = some dd ∧ H1 dd = some (.xd fs) ∧ fs.lookup f = some v ∧ Q v H1
theorem pe_xg {X : Cx} {a : Addr} {oe : Obj} {cls : Value} {d : Option Addr} {pn : List (Addr × Obj)} {e : Expr} {te : TE} {pos : Pos} {n : Str} (hz : Zc cls d oe) (hf : ∃ vs, oe.data = .fields vs) (he : PE (X.suite a ((a, oe) :: pn)) e te) (hb : attributeBase e n X.env (eval e X.env) = eval e X.env := by rfl) :
    PE (X.suite a ((a, oe) :: pn)) (.Attribute e n pos) (tXg X.K a cls d n te) := by
  refine ⟨fun pins s σ H Q I h => ?_⟩
  refine attr_of hb (thn (he.run pins s σ H _ I h) fun u s1 ⟨x, H1, I1, rx, ex, C, dd, fs, v, ec, ⟨T, hno⟩, ed, ea, l, q⟩ => ?_)
  subst ex ec ed
  obtain rfl : u = Value.ref a := rx
  obtain ⟨ha, _⟩ := I1.pin (a, oe) (List.mem_append_left _ List.mem_cons_self)
  obtain ⟨vs, hd⟩ := hf
  obtain ⟨mA, hns, hr⟩ := (I1.hok dd _ ea : ObjOk X.prog X.w H1 s1.heap dd (.xd fs))
  obtain ⟨od, ho, hl⟩ := lookIn_ns hns
  obtain ⟨u, hu, ru⟩ := RelO.some_of (v := v) (o := mA n) (by rw [← l]; exact hr n)
  exact HandSPX.exc_get I1.kIn (⟨ha, hz.1, by unfold PySem.W.notCls; rw [hd] <;> rfl, by rw [hz.2]; exact ho⟩ : PySem.W.InstAt s1.heap a oe C (some od)) T.ga T.gg T.exC (PySem.W.findObj_own T.hdC hno rfl (by rw [hl, hu])) (handed_of ru) ⟨v, H1, I1.tok _, ru, q⟩
/-! ### the words that gen.py prints -/
def tTryAs (K : PySem.W.Frag) (c : Value) (i : Nat) (tb : WX → TS) (ts : Addr → Value → Option Addr → TS) (Wout : WX) : TS := fun D σ H => tb (wAs K c i ts Wout D) D σ H
def tTryOnly (K : PySem.W.Frag) (c : Value) (tb : WX → TS) (ts : Addr → Value → Option Addr → TS) (Wout : WX) : TS := fun D σ H => tb (wOnly K c ts Wout D) D σ H
end L2
namespace Rd
open PySem PySem.Spec PyProof.Rows L2
theorem pe_calS {X : Cx} {E : L2.St → XK} {x : Str} {k : Nat} {ps : List Str} {sp : Sp} {e : Expr} {es : List Expr} {t : TA} {p pos : Pos} (c : Cal X.prog X.w X.K X.mg X.base (L2.CX X.prog X.w) x k ps sp) (hr : Room k X.A) (hx : ∀ σ, PassesAt (L2.CX X.prog X.w) X σ (E σ)) (ha : PA X (e :: es) t)
    (hg : Gl X x := by rfl) (hdb : (x == ("__debug__" : Str)) = false := by decide) (he : starEach (e :: es) X.env = (false, eval e X.env) :: starEach es X.env := by rfl) (hpl : (backTo pos (starEach es X.env)).any (·.1) = false := by rfl) :
    PE X (.Call (.Name x p) (e :: es) [] pos) (tCallS sp E t) := by
  obtain ⟨f, fd, a, b, d, g⟩ := c.ex
  exact pe_callS a hr hg b d g hx ha hdb he hpl
end Rd

/-! Rd2: the layer's second part: readings of raise, try, list(range), all, any -/
namespace Rd
open PySem PySem.Spec PyProof.Rows L2
section
variable {K : PySem.W.Frag} {σ : L2.St} {H : Hp} {Q : VK} {D : Ends} {ta : TA} {te : TE}
theorem rd_callS {sp : Sp} {E : L2.St → XK} (h : ta σ H fun vs H1 => sp vs H1 Q (E σ)) : tCallS sp E ta σ H Q := h
theorem rd_tryAs {c : Value} {i : Nat} {tb : WX → TS} {ts : Addr → Value → Option Addr → TS} {W : WX} (h : tb (wAs K c i ts W D) D σ H) : tTryAs K c i tb ts W D σ H := h
theorem rd_tryOnly {c : Value} {tb : WX → TS} {ts : Addr → Value → Option Addr → TS} {W : WX} (h : tb (wOnly K c ts W D) D σ H) : tTryOnly K c tb ts W D σ H := h
theorem rd_raise {C : Addr} {mk : List V → List (Str × V)} {n : Nat} {W : WX} (h : ta σ H fun vs H1 => vs.length = n ∧ ∀ d, H1 d = none → W (.ref C) (some d) σ (upd H1 d (.xd (mk vs)))) : tRaise C mk n W ta D σ H := h
theorem rd_xg {a : Addr} {cls : Value} {d : Option Addr} {f : Str} (h : te σ H fun x H1 => x = .ref a ∧ ∃ (C dd : Addr) (fs : List (Str × V)) (v : V), cls = .ref C ∧ (XfC K C ∧ PySem.W.findIn K (.ref C) f = some none) ∧ d = some dd ∧ H1 dd = some (.xd fs) ∧ fs.lookup f = some v ∧ Q v H1) :
    tXg K a cls d f te σ H Q := h
theorem rgV_nat (n : Nat) : rgV 0 (n : Int) = (List.range n).map iv := by
  unfold rgV
  simp [iv]
def LRg (x : V) (H : Hp) (Q : VK) : Prop := ∃ m : Int, x = .int m ∧ RgOk 0 m ∧ ∀ q, H q = none → Q (.ref q) (upd H q (.lst (rgV 0 m)))
theorem rd_listRg (h : te σ H fun x H1 => LRg x H1 Q) : tLstRg (tRg1 te) σ H Q := h
theorem rd_lrg {n : Nat} {z : Int} (hz : z = (n : Int)) (hn : n ≤ 1000000) (h : ∀ q, H q = none → Q (.ref q) (upd H q (.lst ((List.range n).map iv)))) : LRg (.int z) H Q := by
  subst hz
  refine ⟨_, rfl, .of_le (by omega) (by omega) (by omega) (by omega), fun q hq => ?_⟩
  rw [rgV_nat]
  exact h q hq
theorem rd_all {a : Addr} {bs : List Bool} (ha : SqL K H a (bs.map V.bl)) (h : Q (.bl (bs.all id)) H) : rAll K [.ref a] H Q := ⟨a, bs, rfl, ha, h⟩
theorem rd_any {a : Addr} {bs : List Bool} (ha : SqL K H a (bs.map V.bl)) (h : Q (.bl (bs.any id)) H) : rAny K [.ref a] H Q := ⟨a, bs, rfl, ha, h⟩
theorem flat_int (ys : List Int) : (ys.map V.int).all flatV = true := by simp [List.all_eq_true, flatV]
theorem in_int (t : Int) (ys : List Int) : inV (.int t) (ys.map V.int) = decide (t ∈ ys) := by
  unfold inV
  rw [List.any_map]
  rw [Bool.eq_iff_iff]
  simp only [Function.comp, eqV, List.any_eq_true, beq_iff_eq, decide_eq_true_eq]
  constructor
  · rintro ⟨x, h, e⟩
    rw [← e]
    exact h
  · exact fun h => ⟨t, h, rfl⟩
theorem flat_bl (bs : List Bool) : (bs.map V.bl).all flatV = true := by simp [List.all_eq_true, flatV]
theorem in_bl (b : Bool) (bs : List Bool) : inV (.bl b) (bs.map V.bl) = decide (b ∈ bs) := by
  unfold inV
  rw [List.any_map]
  rw [Bool.eq_iff_iff]
  simp only [Function.comp, eqV, List.any_eq_true, beq_iff_eq, decide_eq_true_eq]
  constructor
  · rintro ⟨x, h, e⟩
    have e' : x = b := by cases x <;> cases b <;> first | rfl | (revert e; decide)
    rw [← e']
    exact h
  · exact fun h => ⟨b, h, rfl⟩
/-- addresses that stand -/
def Al (H : Hp) (M : List Addr) : Prop := ∀ x ∈ M, H x ≠ none
theorem Al.off {M : List Addr} {a : Addr} (al : Al H M) (f : H a = none) : a ∉ M := fun m => al a m f
theorem Al.but {M N : List Addr} {H' : Hp} (al : Al H M) (b : But N H H') (n : ∀ x ∈ N, H' x ≠ none) : Al H' M := fun x m => by
  by_cases h : x ∈ N
  · exact n x h
  · cases e : H x with
    | none => exact absurd e (al x m)
    | some o => rw [b x o h e]; exact fun z => by cases z
theorem But.none {N : List Addr} {H' : Hp} {p : Addr} (b : But N H H') (n : ∀ x ∈ N, H' x ≠ none) (f : H' p = none) : H p = none := by
  cases e : H p with
  | none => rfl
  | some o =>
    by_cases h : p ∈ N
    · exact absurd f (n p h)
    · rw [b p o h e] at f; cases f
theorem lit_at (cs : List Int) {r : Int} (h0 : 0 ≤ r) (h1 : r < cs.length) : ∃ c ∈ cs, atI (cs.map V.int) r = some (.int c) := by
  obtain ⟨k, rfl⟩ := Int.eq_ofNat_of_zero_le h0
  have hk : k < cs.length := by omega
  exact ⟨cs[k], List.getElem_mem hk, atI_nat (map_at (List.getElem?_eq_getElem hk))⟩
end
end Rd

/-! Dt: data on the heap, away from the addresses M that change -/
namespace Rd
open PySem PySem.Spec PyProof.Rows L2
inductive Dt (M : List Addr) (H : Hp) : Nat → V → PyData → Prop
  | non {n : Nat} : Dt M H n .non .none
  | bl {n : Nat} {b : Bool} : Dt M H n (.bl b) (.bool b)
  | int {n : Nat} {i : Int} : Dt M H n (.int i) (.int i)
  | str {n : Nat} {s : Str} : Dt M H n (.str s) (.str s)
  | lst {n : Nat} {a : Addr} {xs : List V} {ds : List PyData} (h : H a = some (.lst xs)) (m : a ∉ M) (l : xs.length = ds.length) (z : ds.length ≤ 1000000) (e : ∀ (i : Nat) v d, xs[i]? = some v → ds[i]? = some d → Dt M H n v d) : Dt M H (n + 1) (.ref a) (.list ds)
  | tup {n : Nat} {a : Addr} {xs : List V} {ds : List PyData} (h : H a = some (.tup xs)) (m : a ∉ M) (l : xs.length = ds.length) (z : ds.length ≤ 1000000) (e : ∀ (i : Nat) v d, xs[i]? = some v → ds[i]? = some d → Dt M H n v d) : Dt M H (n + 1) (.ref a) (.tuple ds)
section
variable {M M' : List Addr} {H H' : Hp} {n m : Nat} {v : V} {d : PyData} {p : Addr}
theorem Dt.keep (h : Dt M H n v d) (b : But M H H') : Dt M H' n v d := by
  induction h with
  | non => exact .non
  | bl => exact .bl
  | int => exact .int
  | str => exact .str
  | lst h m l z _ ih => exact .lst (b _ _ m h) m l z ih
  | tup h m l z _ ih => exact .tup (b _ _ m h) m l z ih
theorem Dt.same (h : Dt M H n v d) (s : Same H H') : Dt M H' n v d := h.keep (But.of s)
theorem Dt.sub (h : Dt M H n v d) (s : ∀ x ∈ M', x ∈ M) : Dt M' H n v d := by
  induction h with
  | non => exact .non
  | bl => exact .bl
  | int => exact .int
  | str => exact .str
  | lst h m l z _ ih => exact .lst h (fun q => m (s _ q)) l z ih
  | tup h m l z _ ih => exact .tup h (fun q => m (s _ q)) l z ih
theorem not_cons {a : Addr} {o : HO} (h : H a = some o) (f : H p = none) (m : a ∉ M) : a ∉ p :: M := fun q => by
  rcases List.mem_cons.mp q with e | e
  · rw [e, f] at h; cases h
  · exact m e
theorem Dt.more (h : Dt M H n v d) (f : H p = none) : Dt (p :: M) H n v d := by
  induction h with
  | non => exact .non
  | bl => exact .bl
  | int => exact .int
  | str => exact .str
  | lst h m l z _ ih => exact .lst h (not_cons h f m) l z ih
  | tup h m l z _ ih => exact .tup h (not_cons h f m) l z ih
/-- an address that holds no list and no tuple of data is off -/
theorem Dt.off (h : Dt M H n v d) (f : ∀ (xs : List V) (ds : List PyData) (k : Nat), H p = some (.lst xs) ∨ H p = some (.tup xs) → xs.length = ds.length → (∀ (i : Nat) v d, xs[i]? = some v → ds[i]? = some d → Dt M H k v d) → False) : Dt (p :: M) H n v d := by
  induction h with
  | non => exact .non
  | bl => exact .bl
  | int => exact .int
  | str => exact .str
  | @lst k a xs ds h m l z e ih =>
    have q : a ∉ p :: M := fun q => by
      rcases List.mem_cons.mp q with c | c
      · exact f xs ds k (.inl (by rw [← c]; exact h)) l e
      · exact m c
    exact .lst h q l z ih
  | @tup k a xs ds h m l z e ih =>
    have q : a ∉ p :: M := fun q => by
      rcases List.mem_cons.mp q with c | c
      · exact f xs ds k (.inr (by rw [← c]; exact h)) l e
      · exact m c
    exact .tup h q l z ih
theorem Dt.up1 (h : Dt M H n v d) : Dt M H (n + 1) v d := by
  induction h with
  | non => exact .non
  | bl => exact .bl
  | int => exact .int
  | str => exact .str
  | lst h m l z _ ih => exact .lst h m l z ih
  | tup h m l z _ ih => exact .tup h m l z ih
theorem Dt.up (h : Dt M H n v d) (l : n ≤ m) : Dt M H m v d := by
  induction l with
  | refl => exact h
  | step _ ih => exact ih.up1
theorem Dt.list_inv {ds : List PyData} (h : Dt M H n v (.list ds)) : ∃ a xs k, v = .ref a ∧ n = k + 1 ∧ H a = some (.lst xs) ∧ a ∉ M ∧ xs.length = ds.length ∧ ds.length ≤ 1000000 ∧ ∀ (i : Nat) v d, xs[i]? = some v → ds[i]? = some d → Dt M H k v d := by
  cases h with
  | lst h m l z e => exact ⟨_, _, _, rfl, rfl, h, m, l, z, e⟩
theorem Dt.tup_inv {ds : List PyData} (h : Dt M H n v (.tuple ds)) : ∃ a xs k, v = .ref a ∧ n = k + 1 ∧ H a = some (.tup xs) ∧ a ∉ M ∧ xs.length = ds.length ∧ ds.length ≤ 1000000 ∧ ∀ (i : Nat) v d, xs[i]? = some v → ds[i]? = some d → Dt M H k v d := by
  cases h with
  | tup h m l z e => exact ⟨_, _, _, rfl, rfl, h, m, l, z, e⟩
theorem Dt.int_inv {i : Int} (h : Dt M H n v (.int i)) : v = .int i := by cases h; rfl
theorem Dt.non_inv (h : Dt M H n v .none) : v = .non := by cases h; rfl
theorem Dt.bl_inv {b : Bool} (h : Dt M H n v (.bool b)) : v = .bl b := by cases h; rfl
theorem Dt.str_inv {s : Str} (h : Dt M H n v (.str s)) : v = .str s := by cases h; rfl
/-- a list of plain things -/
theorem Dt.flat {α : Type} {f : α → V} {g : α → PyData} (hg : ∀ x n, Dt M H n (f x) (g x)) {a : Addr} {l : List α} (h : H a = some (.lst (l.map f))) (m : a ∉ M) (z : l.length ≤ 1000000) : Dt M H (n + 1) (.ref a) (.list (l.map g)) := by
  refine .lst h m (by simp) (by simpa using z) fun i v d e1 e2 => ?_
  rw [List.getElem?_map] at e1 e2
  cases e : l[i]? with
  | none => rw [e] at e1; cases e1
  | some x =>
    rw [e] at e1 e2
    cases e1
    cases e2
    exact hg x n
theorem Dt.ints {a : Addr} {l : List Int} (h : H a = some (.lst (l.map V.int))) (m : a ∉ M) (z : l.length ≤ 1000000) : Dt M H (n + 1) (.ref a) (.list (l.map .int)) := .flat (fun _ _ => .int) h m z
theorem Dt.ints_inv {l : List Int} (h : Dt M H n v (.list (l.map .int))) : ∃ a, v = .ref a ∧ H a = some (.lst (l.map V.int)) ∧ a ∉ M := by
  obtain ⟨a, xs, k, rfl, rfl, h, m, e, z, q⟩ := h.list_inv
  refine ⟨a, rfl, ?_, m⟩
  rw [h]
  refine congrArg (fun l => some (HO.lst l)) (List.ext_getElem? fun i => ?_)
  rw [List.length_map] at e
  by_cases hi : i < l.length
  · have h1 := List.getElem?_eq_getElem (l := xs) (i := i) (by omega)
    have h2 : (l.map PyData.int)[i]? = some (.int l[i]) := by rw [List.getElem?_map, List.getElem?_eq_getElem hi]; rfl
    rw [List.getElem?_map, List.getElem?_eq_getElem hi, h1, (q i _ _ h1 h2).int_inv]
    rfl
  · rw [List.getElem?_eq_none (by omega), List.getElem?_eq_none (by rw [List.length_map]; omega)]
/-- one more thing at the end of a list that grows -/
theorem dts_snoc {xs : List V} {ds : List PyData} {k : Nat} (l : xs.length = ds.length) (e : ∀ (i : Nat) v d, xs[i]? = some v → ds[i]? = some d → Dt M H k v d) {x : V} {y : PyData} (h : Dt M H k x y) :
    ∀ (i : Nat) v d, (xs ++ [x])[i]? = some v → (ds ++ [y])[i]? = some d → Dt M H k v d := by
  intro i v d e1 e2
  by_cases hi : i < xs.length
  · rw [List.getElem?_append_left hi] at e1
    rw [List.getElem?_append_left (by omega)] at e2
    exact e i v d e1 e2
  · rw [List.getElem?_append_right (by omega)] at e1
    rw [List.getElem?_append_right (by omega), ← l] at e2
    cases hj : i - xs.length with
    | zero =>
      rw [hj] at e1 e2
      cases e1
      cases e2
      exact h
    | succ j => rw [hj] at e1; simp at e1
theorem TyX.same {K : PySem.W.Frag} {x : V} {t : Value} (h : TyX K H x t) (s : Same H H') : TyX K H' x t := by
  cases h with
  | byt b => exact .byt b
  | set e => exact .set (s _ _ e)
  | kList e c => exact .kList e c
  | kTuple e c => exact .kTuple e c
  | kDict e c => exact .kDict e c
  | fTuple e => exact .fTuple (s _ _ e)
  | fDict e => exact .fDict (s _ _ e)
  | base h =>
    refine .base ?_
    cases h with
    | lst e => exact .lst (s _ _ e)
    | frz e => exact .frz (s _ _ e)
    | tup e => exact .tup (s _ _ e)
    | dK e => exact .dK (s _ _ e)
    | dT e => exact .dT (s _ _ e)
    | non => exact .non
    | bl x => exact .bl x
    | int x => exact .int x
    | str x => exact .str x
    | flt x => exact .flt x
    | ins e cl ha hn htk hm => exact .ins (s _ _ e) cl ha hn htk hm
end
/-! ### comprehensions whose tests and elements may leave new things behind -/
section
variable {K : PySem.W.Frag} {σ : L2.St} {H : Hp} {Q : VK} {j : Nat} {tt : TT} {te : TE}
theorem lcLs {a : Addr} {xs : List V} (hx : SqL K H a xs) (p : V → Bool) (f : V → V) (hz : xs.length ≤ 1000000)
    (ht : ∀ (i : Nat) (x : V) (H1 : Hp), xs[i]? = some x → Same H H1 → ∀ R : Bool → Hp → Prop, (∀ H2, Same H1 H2 → R (p x) H2) → tt ((wipe σ [j]).set j (some x)) H1 R)
    (he : ∀ (i : Nat) (x : V) (H1 : Hp), xs[i]? = some x → p x = true → Same H H1 → ∀ R : VK, (∀ H2, Same H1 H2 → R (f x) H2) → te ((wipe σ [j]).set j (some x)) H1 R)
    (q : ∀ (Dd : Addr) (H' : Hp), H Dd = none → Same H H' → H' Dd = some (.lst ((xs.filter p).map f)) → Q (.ref Dd) H') : LcA K (.ref a) (gName j) tt te [j] σ H Q := by
  refine lcL hx fun Dd hD => ⟨fun i H' => H' Dd = some (.lst (((xs.take i).filter p).map f)) ∧ Same H H', ⟨upd_same, same_new hD⟩, fun i H' _ h => h.2.seq hx, ?_, fun H' h => q Dd H' hD h.2 (by have := h.1; rwa [List.take_length] at this)⟩
  rintro i x H1 hi ⟨hd, s⟩
  refine ⟨wipe1 _ _ _, ht i x H1 hi s _ fun H2 s2 => ?_⟩
  have len : ((xs.take i).filter p).length ≤ 1000000 := Nat.le_trans (List.length_filter_le _ _) (Nat.le_trans (List.length_take_le' _ _) hz)
  cases hp : p x with
  | true =>
    refine rd_ite1 (he i x H2 hi hp (s.trans s2) _ fun H3 s3 => ⟨_, s3 _ _ (s2 _ _ hd), size_lt (by rw [List.length_map]; omega), ?_, same_mut ((s.trans s2).trans s3) hD⟩)
    rw [take_end hi, List.filter_append, List.map_append, List.filter_cons_of_pos hp]
    exact upd_same
  | false =>
    refine rd_ite0 ⟨?_, s.trans s2⟩
    rw [take_end hi, List.filter_append, List.filter_cons_of_neg (by rw [hp]; decide), List.filter_nil, List.append_nil]
    exact s2 _ _ hd
theorem lcRs {n : Nat} {z : Int} (hz : z = (n : Int)) (p : Nat → Bool) (f : Nat → V) (hn : n ≤ 1000000)
    (ht : ∀ (i : Nat) (H1 : Hp), i < n → Same H H1 → ∀ R : Bool → Hp → Prop, (∀ H2, Same H1 H2 → R (p i) H2) → tt ((wipe σ [j]).set j (some (.int (i : Int)))) H1 R)
    (he : ∀ (i : Nat) (H1 : Hp), i < n → p i = true → Same H H1 → ∀ R : VK, (∀ H2, Same H1 H2 → R (f i) H2) → te ((wipe σ [j]).set j (some (.int (i : Int)))) H1 R)
    (q : ∀ (Dd : Addr) (H' : Hp), H Dd = none → Same H H' → H' Dd = some (.lst (((List.range n).filter p).map f)) → Q (.ref Dd) H') : LcR1 [.int z] (gName j) tt te [j] σ H Q := by
  refine lcR hz (by omega) fun Dd hD => ⟨fun i H' => H' Dd = some (.lst (((List.range i).filter p).map f)) ∧ Same H H', ⟨upd_same, same_new hD⟩, ?_, fun H' h => q Dd H' hD h.2 h.1⟩
  rintro i H1 hi ⟨hd, s⟩
  refine ⟨wipe1 _ _ _, ht i H1 hi s _ fun H2 s2 => ?_⟩
  have len : ((List.range i).filter p).length ≤ i := Nat.le_trans (List.length_filter_le _ _) (by rw [List.length_range]; exact Nat.le_refl _)
  cases hp : p i with
  | true =>
    refine rd_ite1 (he i H2 hi hp (s.trans s2) _ fun H3 s3 => ⟨_, s3 _ _ (s2 _ _ hd), size_lt (by rw [List.length_map]; omega), ?_, same_mut ((s.trans s2).trans s3) hD⟩)
    rw [List.range_succ, List.filter_append, List.map_append, List.filter_cons_of_pos hp]
    exact upd_same
  | false =>
    refine rd_ite0 ⟨?_, s.trans s2⟩
    rw [List.range_succ, List.filter_append, List.filter_cons_of_neg (by rw [hp]; decide), List.filter_nil, List.append_nil]
    exact s2 _ _ hd
theorem lit_nat (cs : List Int) {i : Nat} (h : i < cs.length) : atI (cs.map V.int) (i : Int) = some (.int (cs.getD i 0)) := atI_nat (map_at (getD_at 0 h))
end
end Rd

namespace K39
open PySem PySem.Spec PyProof.Rows L2 Rd
/-! own steps, upon words of the kit that stand free here: kaf_pre: one step of a reading; kcf_m: what stands at an address; kcj_m: two addresses differ; kaf_suf: a test is known; kas_types: an item at a place -/
local macro_rules | `(tactic| kcj_m) => `(tactic| first | assumption | (exact Ne.symm (by assumption)) | (refine ne_of_none ?_ (by assumption); kcf_m) | (refine Ne.symm (ne_of_none ?_ (by assumption)); kcf_m))
local macro_rules | `(tactic| kcf_m) => `(tactic| first
  | assumption | exact upd_same | ((with_reducible apply SqL.of); kcf_m) | ((with_reducible apply SqT.of); kcf_m) | (refine Eq.trans (upd_ne (by kcj_m)) ?_; kcf_m)
  | ((with_reducible apply Rd.Same.here); (case s => assumption); (case h => kcf_m)) | ((with_reducible apply L2.Same.seq); (case e => assumption); (case h => kcf_m)) | ((with_reducible apply Rd.Same.seqT); (case a => assumption); (case h => kcf_m))
  | ((with_reducible apply But.here); (case a => assumption); (case n => kcj_in); (case h => kcf_m)) | ((with_reducible apply But.seq); (case a => assumption); (case n => kcj_in); (case h => kcf_m)) | ((with_reducible apply But.seqT); (case a => assumption); (case n => kcj_in); (case h => kcf_m)))
local macro_rules | `(tactic| kcj_in) => `(tactic| first | exact nil_off | (refine cons_off (by kcj_m) ?_; kcj_in))
local macro_rules | `(tactic| kaf_suf) => `(tactic| first | assumption | omega | decide | rfl | exact (fun z => V.noConfusion z))
local macro_rules | `(tactic| kas_types) => `(tactic| first | rfl | exact atI_nat (by assumption) | (refine atI_nat ?_; simp; done))
local macro_rules | `(tactic| kaf_pre) => `(tactic| first
  | with_reducible refine rd_var rfl ?_ | with_reducible refine rd_c ?_ | with_reducible refine rd_op ?_ | with_reducible refine rd_seq ?_ | with_reducible refine rd_asg ?_ | with_reducible refine rd_gName ?_
  | with_reducible refine rd_gSub ?_ | with_reducible refine rd_drop ?_ | with_reducible refine rd_ret ?_ | with_reducible refine rd_retN ?_ | with_reducible refine rd_if ?_ | with_reducible refine rd_next ?_ | with_reducible refine rd_brk ?_ | with_reducible refine rd_cont ?_
  | with_reducible refine rd_test ?_ | with_reducible refine rd_tru ?_ | with_reducible refine rd_nil ?_ | with_reducible refine rd_cons ?_ | with_reducible refine rd_call ?_ | with_reducible refine rd_cb ?_
  | with_reducible refine rd_and ?_ | with_reducible refine rd_or ?_ | with_reducible refine rd_not ?_ | with_reducible refine rd_andV ?_ | with_reducible refine rd_orV ?_ | with_reducible refine rd_notV ?_ | with_reducible refine rd_ifE ?_ | with_reducible refine rd_chain ?_
  | with_reducible refine rd_lst ?_ | with_reducible refine rd_tup ?_ | with_reducible refine rd_bm ?_ | with_reducible refine rd_bm0 ?_ | with_reducible refine rd_un ?_ | with_reducible refine rd_par ?_ | with_reducible refine rd_aug rfl ?_
  | with_reducible refine rd_forA ?_ | with_reducible refine rd_lcA ?_ | with_reducible refine rd_forR1 ?_ | with_reducible refine rd_lcR1 ?_ | with_reducible refine rd_forR2 ?_ | with_reducible refine rd_lcR2 ?_
  | with_reducible refine rd_addI ?_ | with_reducible refine rd_sub ?_ | with_reducible refine rd_iaddI ?_ | ((with_reducible refine rd_mulR ?_ ?_); decide) | ((with_reducible refine rd_mulL ?_ ?_); decide)
  | ((with_reducible refine rd_div ?_ ?_); kaf_suf) | ((with_reducible refine rd_mod ?_ ?_); kaf_suf) | ((with_reducible refine rd_pow ?_ ?_); decide) | with_reducible refine rd_neg ?_
  | with_reducible refine rd_lt ?_ | with_reducible refine rd_le ?_ | with_reducible refine rd_gt ?_ | with_reducible refine rd_ge ?_
  | with_reducible refine rd_eqI ?_ | with_reducible refine rd_eqS ?_ | with_reducible refine rd_eqB ?_ | with_reducible refine rd_neI ?_ | with_reducible refine rd_neS ?_ | with_reducible refine rd_neB ?_ | with_reducible refine rd_isN ?_ | with_reducible refine rd_notN ?_
  | ((with_reducible apply rd_ixL); (case hp => kcf_m); (case ha => kas_types)) | ((with_reducible apply rd_ixT); (case hp => kcf_m); (case ha => kas_types)) | ((with_reducible apply rd_setL); (case hp => kcf_m); (case hj => kas_types))
  | ((with_reducible apply rd_lenL); (case hp => kcf_m)) | ((with_reducible apply rd_lenT); (case hp => kcf_m)) | ((with_reducible apply rd_list); (case hp => kcf_m)) | with_reducible refine rd_int ?_ | with_reducible refine rd_min ?_ | with_reducible refine rd_max ?_
  | ((with_reducible apply rd_tyL); (case hp => kcf_m))
  | ((with_reducible apply rd_isi); (case ht => first | assumption | exact .base (.int _) | exact .base (.bl _) | exact .base (.str _) | exact .base .non | ((with_reducible apply TyX.base); (with_reducible apply TyOf.lst); kcf_m) | ((with_reducible apply TyX.base); (with_reducible apply TyOf.tup); kcf_m)); (case hb => first | exact kb_int_bool | exact kb_int_int | exact kb_int_str | exact kb_int_list | exact kb_int_tuple | exact kb_bool_bool | exact kb_bool_int | exact kb_bool_str | exact kb_bool_list | exact kb_bool_tuple | exact kb_str_bool | exact kb_str_int | exact kb_str_str | exact kb_str_list | exact kb_str_tuple | exact kb_list_bool | exact kb_list_int | exact kb_list_str | exact kb_list_list | exact kb_list_tuple | exact kb_tuple_bool | exact kb_tuple_int | exact kb_tuple_str | exact kb_tuple_list | exact kb_tuple_tuple | exact kb_NoneType_bool | exact kb_NoneType_int | exact kb_NoneType_str | exact kb_NoneType_list | exact kb_NoneType_tuple))
  | ((with_reducible apply rd_inL); (case hp => kcf_m); (case hx => rfl); (case ha => exact flat_iv _)) | ((with_reducible apply rd_notInL); (case hp => kcf_m); (case hx => rfl); (case ha => exact flat_iv _))
  | with_reducible refine rd_yes ?_ | with_reducible refine rd_bl ?_ | with_reducible refine rd_truB ?_ | with_reducible refine rd_ite1 ?_ | with_reducible refine rd_ite0 ?_ | with_reducible refine rd_nite1 ?_ | with_reducible refine rd_nite0 ?_
  | ((with_reducible refine rd_iteT ?_ ?_); kaf_suf) | ((with_reducible refine rd_iteF ?_ ?_); kaf_suf) | ((with_reducible refine rd_niteT ?_ ?_); kaf_suf) | ((with_reducible refine rd_niteF ?_ ?_); kaf_suf))
local macro_rules | `(tactic| kaf_pre) => `(tactic| first
  | with_reducible refine rd_callS ?_ | with_reducible refine rd_tryAs ?_ | with_reducible refine rd_tryOnly ?_ | with_reducible refine rd_raise ?_ | with_reducible refine rd_xg ?_ | with_reducible refine rd_listRg ?_)
local macro_rules | `(tactic| kaf_pre) => `(tactic| first
  | ((with_reducible apply rd_all); (case ha => kcf_m)) | ((with_reducible apply rd_any); (case ha => kcf_m)))
local macro_rules | `(tactic| kaf_pre) => `(tactic| first
  | ((with_reducible apply rd_inL); (case hp => kcf_m); (case hx => rfl); (case ha => first | exact flat_int _ | exact flat_bl _)) | ((with_reducible apply rd_notInL); (case hp => kcf_m); (case hx => rfl); (case ha => first | exact flat_int _ | exact flat_bl _)))
/- slots of _law_start: 0 script -/
def t_law_start (K : PySem.W.Frag) : TS :=
  (tRet (tLst (tCons (tCB (rListOf K) (tCons (tVar 0) tNil)) (tCons (tC (.int 0)) (tCons (tC (.int 0)) (tCons (tC (.int 0)) (tCons (tC (.int 0)) tNil)))))))
/- slots of _law_draw: 0 state, 1 many, 2 value, 3 mixed -/
def t_law_draw (K : PySem.W.Frag) : TS :=
  (tSeqC (tIfS (tTest (tOp (rEqA K) (tOp (rIx K) (tVar 0) (tC (.int 3))) (tC (.int 0)))) (tSeq (tIfS (tTest (tOp rGeI (tOp (rIx K) (tVar 0) (tC (.int 1))) (tCB (rLen K) (tCons (tOp (rIx K) (tVar 0) (tC (.int 0))) tNil)))) (tRet (tC (.int 0))) tNext)
  (tSeq (tAsg (tOp (rIx K) (tOp (rIx K) (tVar 0) (tC (.int 0))) (tOp (rIx K) (tVar 0) (tC (.int 1)))) (gSub (tVar 0) (tC (.int 2)) rSetL))
  (tSeq (tAsg (tOp (rAddA K) (tOp (rIx K) (tVar 0) (tC (.int 1))) (tC (.int 1))) (gSub (tVar 0) (tC (.int 1)) rSetL))
  (tSeq (tAsg (tC (.int 10)) (gSub (tVar 0) (tC (.int 3)) rSetL))
  (tSeq (tAsg (tC (.int 0)) (gSub (tVar 0) (tC (.int 4)) rSetL))
  (tIfS (tTest (tOp rGeI (tOp (rIx K) (tVar 0) (tC (.int 2))) (tOp rPowI (tC (.int 10)) (tC (.int 18))))) (tSeq (tAsg (tC (.int 60)) (gSub (tVar 0) (tC (.int 3)) rSetL))
  (tAsg (tC (.int 1)) (gSub (tVar 0) (tC (.int 4)) rSetL))) tNext)))))) tNext)
  (tSeq (tAsg (tOp rSubI (tOp (rIx K) (tVar 0) (tC (.int 3))) (tC (.int 1))) (gSub (tVar 0) (tC (.int 3)) rSetL))
  (tSeq (tIfS (tTest (tOp (rEqA K) (tOp (rIx K) (tVar 0) (tC (.int 4))) (tC (.int 1)))) (tSeq (tAsg (tOp rModI (tCB rInt1 (tCons (tOp (rIx K) (tVar 0) (tC (.int 2))) tNil)) (tVar 1)) (gName 2))
  (tSeq (tAsg (tOp rDivI (tCB rInt1 (tCons (tOp (rIx K) (tVar 0) (tC (.int 2))) tNil)) (tVar 1)) (gSub (tVar 0) (tC (.int 2)) rSetL))
  (tSeqC (tIfS (tTest (tOp (rEqA K) (tOp (rIx K) (tVar 0) (tC (.int 2))) (tC (.int 0)))) (tAsg (tC (.int 0)) (gSub (tVar 0) (tC (.int 3)) rSetL)) tNext)
  (tRet (tVar 2))))) tNext)
  (tSeq (tAsg (tOp rModI (tCB rInt1 (tCons (tOp (rAddA K) (tOp (rAddA K) (tOp rMulA (tOp (rIx K) (tVar 0) (tC (.int 2))) (tC (.int 48271))) (tOp rMulA (tOp (rIx K) (tVar 0) (tC (.int 3))) (tC (.int 69621)))) (tC (.int 12345))) tNil)) (tC (.int 2147483647))) (gName 3))
  (tSeq (tAsg (tOp rModI (tCB rInt1 (tCons (tOp (rAddA K) (tOp (rAddA K) (tOp rMulA (tVar 3) (tC (.int 16807))) (tOp rDivI (tVar 3) (tC (.int 127773)))) (tC (.int 3))) tNil)) (tC (.int 1000003))) (gName 3))
  (tRet (tOp rModI (tCB rInt1 (tCons (tVar 3) tNil)) (tVar 1))))))))
/-! ### the law's own draws -/
/-- the state at st: the script's copy at sc, four numbers -/
def StO (sc : Addr) (a : Nat) (b c d : Int) : HO := .lst [.ref sc, .int (a : Int), .int b, .int c, .int d]
theorem st_ne {H : Hp} {st sc : Addr} {a : Nat} {b c d : Int} {ns : List Int} (h : H st = some (StO sc a b c d)) (g : H sc = some (.lst (ns.map V.int))) : sc ≠ st := by
  refine Ne.symm (ne_of h g fun z => ?_)
  unfold StO at z
  injection z with z
  cases ns with
  | nil => cases z
  | cons n r => injection z with z _; cases z
/-- _law_draw: a number below m; the state stands, all else is as it was -/
def spDraw : Sp := fun vs H Q _ => ∃ (st : Addr) (m : Int) (sc : Addr) (ns : List Int) (a : Nat) (b c d : Int), vs = [.ref st, .int m] ∧ 0 < m ∧ m < 1000000000 ∧ H st = some (StO sc a b c d) ∧ H sc = some (.lst (ns.map V.int)) ∧
  ∀ (r : Int) (a' : Nat) (b' c' d' : Int) (H' : Hp), 0 ≤ r → r < m → H' st = some (StO sc a' b' c' d') → But [st] H H' → Q (.int r) H'
theorem len_law_draw (K : PySem.W.Frag) {vs : List V} {H : Hp} {Q : VK} {E : XK} (h : spDraw vs H Q E) : vs.length = 2 := by
  obtain ⟨st, m, sc, ns, a, b, c, d, rfl, _⟩ := h
  rfl
theorem rd_law_draw (K : PySem.W.Frag) (vs : List V) (H : Hp) (Q : VK) (E : XK) (h : spDraw vs H Q E) : t_law_draw K { nx := fun _ H' => Q .non H', rt := Q } (start ["state", "many", "value", "mixed"] vs) H := by
  obtain ⟨st, m, sc, ns, a, b, c, d, rfl, m0, m1, hst, hsc, q⟩ := h
  have ne := st_ne hst hsc
  unfold StO at hst
  unfold t_law_draw
  refine rd_cut (fun σ' H' => σ' = [some (.ref st), some (.int m), none, none] ∧ (∃ (a : Nat) (b c d : Int), H' st = some (.lst [.ref sc, .int (a : Int), .int b, .int c, .int d])) ∧ But [st] H H') ?_ ?_
  · repeat kaf_pre
    refine rd_ite (fun hc => ?_) (fun hc => ?_)
    · repeat kaf_pre
      refine rd_ite (fun hl => ?_) (fun hl => ?_)
      · repeat kaf_pre
        exact q 0 a b c d H (by omega) m0 hst (But.refl _ _)
      · rw [List.length_map] at hl
        repeat kaf_pre
        have ha : a < ns.length := by omega
        have hg : (ns.map V.int)[a]? = some (V.int ns[a]) := by rw [List.getElem?_map, List.getElem?_eq_getElem ha]; rfl
        repeat kaf_pre
        refine rd_ite (fun hb => ?_) (fun hb => ?_) <;> repeat kaf_pre
        · exact ⟨rfl, ⟨a + 1, ns[a], 60, 1, upd_same⟩, by repeat (first | exact But.refl _ _ | refine But.set ?_ (by simp))⟩
        · exact ⟨rfl, ⟨a + 1, ns[a], 10, 0, upd_same⟩, by repeat (first | exact But.refl _ _ | refine But.set ?_ (by simp))⟩
    · repeat kaf_pre
      exact ⟨rfl, ⟨a, b, c, d, hst⟩, But.refl _ _⟩
  · rintro σ' H' ⟨rfl, ⟨a, b, c, d, hst'⟩, hB⟩
    repeat kaf_pre
    refine rd_ite (fun hc => ?_) (fun hc => ?_)
    · repeat kaf_pre
      refine rd_cut (fun σ' H1 => σ' = [some (.ref st), some (.int m), some (.int (b % m)), none] ∧ (∃ (a : Nat) (b c d : Int), H1 st = some (.lst [.ref sc, .int (a : Int), .int b, .int c, .int d])) ∧ But [st] H H1) ?_ ?_
      · repeat kaf_pre
        refine rd_ite (fun hz => ?_) (fun hz => ?_) <;> repeat kaf_pre
        · exact ⟨rfl, ⟨a, _, _, _, upd_same⟩, by repeat (first | exact hB | refine But.set ?_ (by simp))⟩
        · exact ⟨rfl, ⟨a, _, _, _, upd_same⟩, by repeat (first | exact hB | refine But.set ?_ (by simp))⟩
      · rintro σ' H1 ⟨rfl, ⟨a, b', c', d', h1⟩, hB1⟩
        repeat kaf_pre
        exact q _ a b' c' d' H1 (Int.emod_nonneg _ (by omega)) (Int.emod_lt_of_pos _ m0) h1 hB1
    · repeat kaf_pre
      exact q _ a _ _ _ _ (Int.emod_nonneg _ (by omega)) (Int.emod_lt_of_pos _ m0) upd_same (But.set hB (by simp))
/-- _law_start -/
def spStart (K : PySem.W.Frag) : Sp := fun vs H Q _ => ∃ (s : Addr) (ns : List Int), vs = [.ref s] ∧ SqL K H s (ns.map V.int) ∧
  ∀ (st sc : Addr) (H' : Hp), H st = none → H sc = none → H' st = some (StO sc 0 0 0 0) → H' sc = some (.lst (ns.map V.int)) → Same H H' → Q (.ref st) H'
theorem len_law_start (K : PySem.W.Frag) {vs : List V} {H : Hp} {Q : VK} {E : XK} (h : spStart K vs H Q E) : vs.length = 1 := by
  obtain ⟨s, ns, rfl, _⟩ := h
  rfl
theorem rd_law_start (K : PySem.W.Frag) (vs : List V) (H : Hp) (Q : VK) (E : XK) (h : spStart K vs H Q E) : t_law_start K { nx := fun _ H' => Q .non H', rt := Q } (start ["script"] vs) H := by
  obtain ⟨s, ns, rfl, hs, q⟩ := h
  unfold t_law_start
  repeat kaf_pre
  intro sc nsc
  repeat kaf_pre
  refine ⟨size_of (by simp), fun st nst => ?_⟩
  have ne : sc ≠ st := fun z => by rw [← z, upd_same] at nst; cases nst
  have f : H st = none := by rw [upd_ne ne.symm] at nst; exact nst
  exact q st sc _ f nsc upd_same (by rw [upd_ne ne]; exact upd_same) (same_mut (same_new nsc) f)
/-! ### promises of the small ones -/
def spIsNum : Sp := fun vs H Q _ => ∃ i : Int, vs = [.int i] ∧ Q (.bl true) H
/- slots of _law_is_number: 0 actual -/
def t_law_is_number (K : PySem.W.Frag) : TS :=
  (tRet (tAndV (tCB (rIsi K) (tCons (tVar 0) (tCons (tC (.ty "int")) tNil))) (tNotV (tCB (rIsi K) (tCons (tVar 0) (tCons (tC (.ty "bool")) tNil))))))
/- slots of _law_same: 0 actual, 1 expected, 2 k -/
def t_law_same (K : PySem.W.Frag) (sp : Sp) : TS :=
  (tSeq (tIfS (tOr (tTru K (tCB (rIsi K) (tCons (tVar 1) (tCons (tC (.ty "list")) tNil)))) (tTru K (tCB (rIsi K) (tCons (tVar 1) (tCons (tC (.ty "tuple")) tNil))))) (tSeq (tIfS (tOr (tTest (tOp (rNeA K) (tCB (rIsi K) (tCons (tVar 0) (tCons (tC (.ty "list")) tNil))) (tCB (rIsi K) (tCons (tVar 1) (tCons (tC (.ty "list")) tNil))))) (tTest (tOp (rNeA K) (tCB (rIsi K) (tCons (tVar 0) (tCons (tC (.ty "tuple")) tNil))) (tCB (rIsi K) (tCons (tVar 1) (tCons (tC (.ty "tuple")) tNil)))))) (tRet (tC (.bl false))) tNext)
  (tSeq (tIfS (tTest (tOp (rNeA K) (tCB (rLen K) (tCons (tVar 0) tNil)) (tCB (rLen K) (tCons (tVar 1) tNil)))) (tRet (tC (.bl false))) tNext)
  (tRet (tOp (rNotInA K) (tC (.bl false)) (tLc (iRng1 (tCons (tCB (rLen K) (tCons (tVar 1) tNil)) tNil)) (gName 2) tYes (tCall sp [] E0 (tCons (tOp (rIx K) (tVar 0) (tVar 2)) (tCons (tOp (rIx K) (tVar 1) (tVar 2)) tNil))) [2]))))) tNext)
  (tSeq (tIfS (tOr (tTest (tOp rIsN (tVar 1) (tC .non))) (tTru K (tCB (rIsi K) (tCons (tVar 1) (tCons (tC (.ty "bool")) tNil))))) (tRet (tAndV (tOrV (tOp rIsN (tVar 0) (tC .non)) (tCB (rIsi K) (tCons (tVar 0) (tCons (tC (.ty "bool")) tNil)))) (tOp (rEqA K) (tVar 0) (tVar 1)))) tNext)
  (tSeq (tIfS (tTru K (tCB (rIsi K) (tCons (tVar 1) (tCons (tC (.ty "str")) tNil)))) (tRet (tAndV (tCB (rIsi K) (tCons (tVar 0) (tCons (tC (.ty "str")) tNil))) (tOp (rEqA K) (tVar 0) (tVar 1)))) tNext)
  (tRet (tAndV (tCall (spIsNum) [] E0 (tCons (tVar 0) tNil)) (tOp (rEqA K) (tVar 0) (tVar 1)))))))
/-! ### _law_is_number, _law_same (the form with one comprehension): two values of one data are the same -/
theorem len_law_is_number (K : PySem.W.Frag) {vs : List V} {H : Hp} {Q : VK} {E : XK} (h : spIsNum vs H Q E) : vs.length = 1 := by
  obtain ⟨i, rfl, _⟩ := h
  rfl
theorem rd_law_is_number (K : PySem.W.Frag) (vs : List V) (H : Hp) (Q : VK) (E : XK) (h : spIsNum vs H Q E) : t_law_is_number K { nx := fun _ H' => Q .non H', rt := Q } (start ["actual"] vs) H := by
  obtain ⟨i, rfl, q⟩ := h
  unfold t_law_is_number
  repeat kaf_pre
  exact q
/-- by depth: 0 promises nothing -/
def spSm (K : PySem.W.Frag) : Nat → Sp
  | 0 => fun _ _ _ _ => False
  | d + 1 => fun vs H Q _ => ∃ (x y : V) (e : PyData), vs = [x, y] ∧ Dt [] H d x e ∧ Dt [] H d y e ∧ ∀ H', Same H H' → Q (.bl true) H'
theorem len_law_same (K : PySem.W.Frag) {d : Nat} {vs : List V} {H : Hp} {Q : VK} {E : XK} (h : spSm K d vs H Q E) : vs.length = 2 := by
  cases d with
  | zero => exact h.elim
  | succ d =>
    obtain ⟨x, y, e, rfl, _⟩ := h
    rfl
theorem inV_reps (n : Nat) : inV (.bl false) (List.replicate n (.bl true)) = false := by
  induction n with
  | zero => rfl
  | succ n ih => rw [List.replicate_succ]; exact ih
theorem flat_reps (n : Nat) : (List.replicate n (V.bl true)).all flatV = true := by simp [List.all_eq_true, flatV]
theorem rd_law_same (K : PySem.W.Frag) (d : Nat) (vs : List V) (H : Hp) (Q : VK) (E : XK) (h : spSm K (d + 1) vs H Q E) : t_law_same K (spSm K d) { nx := fun _ H' => Q .non H', rt := Q } (start ["actual", "expected", "k"] vs) H := by
  obtain ⟨x, y, e, rfl, hx, hy, q⟩ := h
  unfold t_law_same
  have q0 := q H (Same.refl H)
  cases hx with
  | non =>
    cases hy
    repeat kaf_pre
    exact .inl ⟨rfl, by simpa using q0⟩
  | bl =>
    cases hy
    repeat kaf_pre
    simpa using q0
  | int =>
    cases hy
    repeat kaf_pre
    refine ⟨_, rfl, ?_⟩
    repeat kaf_pre
    simpa using q0
  | str =>
    cases hy
    repeat kaf_pre
    simpa using q0
  | @lst d a xs ds ha _ l z r1 =>
    obtain ⟨b, ys, _, rfl, e, hb, _, l2, _, r2⟩ := hy.list_inv
    cases e
    repeat kaf_pre
    refine lcR (n := ys.length) rfl (by omega) fun Dd hD => ⟨fun i H' => H' Dd = some (.lst (List.replicate i (.bl true))) ∧ Same H H', ⟨upd_same, same_new hD⟩, ?_, ?_⟩
    · rintro i H1 hi ⟨hd, s⟩
      have gx := List.getElem?_eq_getElem (l := xs) (i := i) (by omega)
      have gy := List.getElem?_eq_getElem hi
      have gd : ds[i]? = some (ds[i]'(by omega)) := List.getElem?_eq_getElem _
      refine ⟨wipe1 _ _ _, ?_⟩
      have ha1 := s _ _ ha
      have hb1 := s _ _ hb
      repeat kaf_pre
      refine ⟨_, _, _, rfl, (r1 i _ _ gx gd).same s, (r2 i _ _ gy gd).same s, fun H2 s2 => ⟨_, s2 _ _ hd, size_lt (by rw [List.length_replicate]; omega), ?_, ?_⟩⟩
      · rw [List.replicate_succ']; exact upd_same
      · exact same_mut (s.trans s2) hD
    · rintro H1 ⟨hd, s⟩
      refine rd_notInL (SqL.of hd) rfl (flat_reps _) ?_
      rw [inV_reps]
      exact q _ s
  | @tup d a xs ds ha _ l z r1 =>
    obtain ⟨b, ys, _, rfl, e, hb, _, l2, _, r2⟩ := hy.tup_inv
    cases e
    repeat kaf_pre
    refine lcR (n := ys.length) rfl (by omega) fun Dd hD => ⟨fun i H' => H' Dd = some (.lst (List.replicate i (.bl true))) ∧ Same H H', ⟨upd_same, same_new hD⟩, ?_, ?_⟩
    · rintro i H1 hi ⟨hd, s⟩
      have gx := List.getElem?_eq_getElem (l := xs) (i := i) (by omega)
      have gy := List.getElem?_eq_getElem hi
      have gd : ds[i]? = some (ds[i]'(by omega)) := List.getElem?_eq_getElem _
      refine ⟨wipe1 _ _ _, ?_⟩
      have ha1 := s _ _ ha
      have hb1 := s _ _ hb
      repeat kaf_pre
      refine ⟨_, _, _, rfl, (r1 i _ _ gx gd).same s, (r2 i _ _ gy gd).same s, fun H2 s2 => ⟨_, s2 _ _ hd, size_lt (by rw [List.length_replicate]; omega), ?_, ?_⟩⟩
      · rw [List.replicate_succ']; exact upd_same
      · exact same_mut (s.trans s2) hD
    · rintro H1 ⟨hd, s⟩
      refine rd_notInL (SqL.of hd) rfl (flat_reps _) ?_
      rw [inV_reps]
      exact q _ s
structure Cs where
  (ForkError NoTask : Addr)
structure Cf (K : PySem.W.Frag) (Z : Cs) : Prop where
  x_NoTask_NoTask : PySem.W.exmOne K (.ref Z.NoTask) (.ref Z.NoTask) = some true
  xf_NoTask : XfC K Z.NoTask
  f_NoTask_task : PySem.W.findIn K (.ref Z.NoTask) "task" = some none
  f_NoTask_reason : PySem.W.findIn K (.ref Z.NoTask) "reason" = some none
/- slots of can_go: 0 ways, 1 hopeful, 2 way, 3 task -/
def t_can_go (K : PySem.W.Frag) : TS :=
  (tSeq (tIfS (tTest (tOp rIsN (tVar 0) (tC .non))) (tRet (tC (.bl true))) tNext)
  (tSeq (tFor (iAny K (tVar 0)) (gName 2) (tIfS (tTru K (tCB (rAll K) (tCons (tLc (iAny K (tVar 2)) (gName 3) tYes (tOp (rIx K) (tVar 1) (tVar 3)) [3]) tNil))) (tRet (tC (.bl true))) tNext))
  (tRet (tC (.bl false)))))
/-! ### moments -/
abbrev Wy := Option (List (List Int))
def wsD (ws : List (List Int)) : PyData := .list (ws.map fun y => .list (y.map .int))
def wyD : Wy → PyData
  | none => .none
  | some ws => wsD ws
def momD (m : List Wy) : PyData := .list (m.map wyD)
def goB (w : Wy) (f : Int → Bool) : Bool := match w with
  | none => true
  | some ws => ws.any fun y => y.all f
/-- all tasks of the ways are below n -/
def InR (n : Nat) (w : Wy) : Prop := ∀ ws, w = some ws → ∀ y ∈ ws, ∀ t ∈ y, 0 ≤ t ∧ t < (n : Int)
/-- the ways of a thing that is no None -/
theorem ways_inv {M : List Addr} {H : Hp} {n : Nat} {v : V} {ws : List (List Int)} (h : Dt M H n v (wsD ws)) : ∃ a xs k, v = .ref a ∧ n = k + 1 ∧ H a = some (.lst xs) ∧ a ∉ M ∧ xs.length = ws.length ∧ ws.length ≤ 1000000 ∧
    ∀ (i : Nat) x, xs[i]? = some x → ∃ (b : Addr) (y : List Int), ws[i]? = some y ∧ x = .ref b ∧ H b = some (.lst (y.map V.int)) ∧ b ∉ M ∧ y.length ≤ 1000000 := by
  obtain ⟨a, xs, k, rfl, rfl, h, m, l, z, e⟩ := h.list_inv
  rw [List.length_map] at l z
  refine ⟨a, xs, k, rfl, rfl, h, m, l, z, fun i x hx => ?_⟩
  have hi : i < ws.length := by have := (List.getElem?_eq_some_iff.mp hx).1; omega
  have hw := List.getElem?_eq_getElem hi
  have d := e i x _ hx (map_at hw)
  obtain ⟨b, _, _, _, _, _, _, _, zz, _⟩ := d.list_inv
  obtain ⟨b, rfl, hb, mb⟩ := d.ints_inv
  exact ⟨b, _, hw, rfl, hb, mb, by simpa using zz⟩
def fV (f : Int → Bool) : V → V
  | .int t => .bl (f t)
  | _ => .non
theorem map_fV (f : Int → Bool) (y : List Int) : ((y.map V.int).filter fun _ => true).map (fV f) = (y.map f).map V.bl := by
  rw [List.filter_eq_self.mpr (fun _ _ => rfl), List.map_map, List.map_map]
  rfl
def spCanGo (K : PySem.W.Frag) : Sp := fun vs H Q _ => ∃ (v : V) (hp : Addr) (w : Wy) (hb : List Bool) (n : Nat), vs = [v, .ref hp] ∧ Dt [] H n v (wyD w) ∧ SqL K H hp (hb.map V.bl) ∧ InR hb.length w ∧
  ∀ H', Same H H' → Q (.bl (goB w fun t => hb.getD t.toNat false)) H'
theorem len_can_go (K : PySem.W.Frag) {vs : List V} {H : Hp} {Q : VK} {E : XK} (h : spCanGo K vs H Q E) : vs.length = 2 := by
  obtain ⟨v, hp, w, hb, n, rfl, _⟩ := h
  rfl
theorem rd_can_go (K : PySem.W.Frag) (vs : List V) (H : Hp) (Q : VK) (E : XK) (h : spCanGo K vs H Q E) : t_can_go K { nx := fun _ H' => Q .non H', rt := Q } (start ["ways", "hopeful", "way", "task"] vs) H := by
  obtain ⟨v, hp, w, hb, n, rfl, d, hh, r, q⟩ := h
  unfold t_can_go
  cases w with
  | none =>
    have e := d.non_inv
    subst e
    repeat kaf_pre
    exact q H (Same.refl H)
  | some ws =>
    obtain ⟨a, xs, k, rfl, rfl, ha, _, l, z, e⟩ := ways_inv d
    repeat kaf_pre
    refine forL (SqL.of ha) (fun i σ' H' => Same H H' ∧ (∃ v3, σ' = [some (.ref a), some (.ref hp), v3, none]) ∧ ∀ y ∈ ws.take i, (y.all fun t => hb.getD t.toNat false) = false) ⟨Same.refl H, ⟨_, rfl⟩, by simp⟩ (fun i σ' H' _ h => SqL.of (h.1 _ _ ha)) ?_ ?_
    · rintro i x σ' H1 hi ⟨s, ⟨v3, rfl⟩, old⟩
      obtain ⟨b, y, hy, rfl, hb1, _, zy⟩ := e i x hi
      have hb2 := s _ _ hb1
      have hh2 := s.seq hh
      repeat kaf_pre
      refine lcLp (SqL.of hb2) (fun _ => true) (fV fun t => hb.getD t.toNat false) (by rw [List.length_map]; exact zy) (fun i x Dd acc hi hD R r => ?_) (fun j x Dd acc hj _ hD R rr => ?_) fun hA nA => ?_
      · exact r
      · obtain ⟨t, ht, rfl⟩ := at_map hj
        obtain ⟨t0, t1⟩ := r ws rfl y (List.mem_of_getElem? hy) t (List.mem_of_getElem? ht)
        obtain ⟨k, rfl⟩ := Int.eq_ofNat_of_zero_le t0
        have g : (hb.map V.bl)[k]? = some (V.bl (hb.getD k false)) := map_at (getD_at false (by omega))
        have s2 := same_new (o := HO.lst acc) hD
        repeat kaf_pre
        exact rr
      · rw [map_fV]
        repeat kaf_pre
        refine rd_iteB (fun c => ?_) (fun c => ?_)
        · repeat kaf_pre
          have g : goB (some ws) (fun t => hb.getD t.toNat false) = true := by
            refine List.any_eq_true.mpr ⟨y, List.mem_of_getElem? hy, ?_⟩
            simpa [List.all_map] using c
          rw [← g]
          exact q _ (s.trans (same_new nA))
        · repeat kaf_pre
          refine ⟨s.trans (same_new nA), ⟨_, rfl⟩, ?_⟩
          intro y' hy'
          rw [take_end hy] at hy'
          rcases List.mem_append.mp hy' with m | m
          · exact old y' m
          · rw [List.mem_singleton.mp m]
            simpa [List.all_map] using c
    · rintro σ' H1 ⟨s, ⟨v3, rfl⟩, old⟩
      repeat kaf_pre
      rw [l, List.take_length] at old
      have g : goB (some ws) (fun t => hb.getD t.toNat false) = false := by
        refine List.any_eq_false.mpr fun y hy => ?_
        rw [old y hy]
        decide
      rw [← g]
      exact q _ s
/- slots of hopeless: 0 moment, 1 hopeful, 2 lot, 3 bright, 4 task, 5 grows -/
def t_hopeless (K : PySem.W.Frag) : TS :=
  (tSeq (tAsg (tCB (rListOf K) (tCons (tVar 1) tNil)) (gName 3))
  (tSeq (tFor (iAny K (tVar 2)) (gName 4) (tAsg (tC (.bl false)) (gSub (tVar 3) (tVar 4) rSetL)))
  (tSeq (tAsg (tC (.bl true)) (gName 5))
  (tSeq (tWhile (tTru K (tVar 5)) (tSeq (tAsg (tC (.bl false)) (gName 5))
  (tFor (iAny K (tVar 2)) (gName 4) (tIfS (tAnd (tNot (tTru K (tOp (rIx K) (tVar 3) (tVar 4)))) (tTru K (tCall (spCanGo K) [] E0 (tCons (tOp (rIx K) (tVar 0) (tVar 4)) (tCons (tVar 3) tNil))))) (tSeq (tAsg (tC (.bl true)) (gSub (tVar 3) (tVar 4) rSetL))
  (tAsg (tC (.bl true)) (gName 5))) tNext))))
  (tRet (tLc (iAny K (tVar 2)) (gName 4) (tNot (tTru K (tOp (rIx K) (tVar 3) (tVar 4)))) (tVar 4) [4]))))))
theorem mom_inv {M : List Addr} {H : Hp} {n : Nat} {v : V} {m : List Wy} (h : Dt M H n v (momD m)) : ∃ a xs k, v = .ref a ∧ n = k + 1 ∧ H a = some (.lst xs) ∧ a ∉ M ∧ xs.length = m.length ∧ m.length ≤ 1000000 ∧
    ∀ (i : Nat) w, m[i]? = some w → ∃ x, xs[i]? = some x ∧ Dt M H k x (wyD w) := by
  obtain ⟨a, xs, k, rfl, rfl, h, m, l, z, e⟩ := h.list_inv
  rw [List.length_map] at l z
  refine ⟨a, xs, k, rfl, rfl, h, m, l, z, fun i w hw => ?_⟩
  have hi : i < xs.length := by have := (List.getElem?_eq_some_iff.mp hw).1; omega
  have hx := List.getElem?_eq_getElem hi
  exact ⟨_, hx, e i _ _ hx (map_at hw)⟩
/-- what grows bright -/
inductive Br (m : List Wy) (hb : List Bool) (ys : List Nat) : Int → Prop
  | old {t : Nat} : t ∉ ys → hb.getD t false = true → Br m hb ys (t : Int)
  | free {t : Nat} : t ∈ ys → m[t]? = some none → Br m hb ys (t : Int)
  | way {t : Nat} {ws : List (List Int)} {y : List Int} : t ∈ ys → m[t]? = some (some ws) → y ∈ ws → (∀ u ∈ y, Br m hb ys u) → Br m hb ys (t : Int)
def bF (bb : List Bool) : Int → Bool := fun t => bb.getD t.toNat false
theorem go_br {m : List Wy} {hb bb : List Bool} {ys : List Nat} {t : Nat} {w : Wy} (ht : t ∈ ys) (hw : m[t]? = some w) (r : InR m.length w) (s : ∀ k : Nat, bb.getD k false = true → Br m hb ys (k : Int)) (g : goB w (bF bb) = true) : Br m hb ys (t : Int) := by
  cases w with
  | none => exact .free ht hw
  | some ws =>
    obtain ⟨y, hy, a⟩ := List.any_eq_true.mp g
    refine .way ht hw hy fun u hu => ?_
    obtain ⟨u0, _⟩ := r ws rfl y hy u hu
    obtain ⟨k, rfl⟩ := Int.eq_ofNat_of_zero_le u0
    exact s k (by simpa [bF] using List.all_eq_true.mp a _ hu)
theorem br_closed {m : List Wy} {hb bb : List Bool} {ys : List Nat} (h1 : ∀ t : Nat, t ∉ ys → hb.getD t false = true → bb.getD t false = true) (h2 : ∀ t ∈ ys, ∀ w, m[t]? = some w → bb.getD t false = false → goB w (bF bb) = false) {u : Int} (h : Br m hb ys u) : bF bb u = true := by
  induction h with
  | old a b => simpa [bF] using h1 _ a b
  | @free t a b =>
    cases e : bb.getD t false with
    | true => simpa [bF] using e
    | false => have := h2 t a none b e; cases this
  | @way t ws y a b c _ ih =>
    cases e : bb.getD t false with
    | true => simpa [bF] using e
    | false =>
      have := h2 t a (some ws) b e
      have g : goB (some ws) (bF bb) = true := List.any_eq_true.mpr ⟨y, c, List.all_eq_true.mpr ih⟩
      rw [g] at this
      cases this
theorem getD_set' {hp : List Bool} {k i : Nat} {b : Bool} (hk : k < hp.length) : (hp.set k b).getD i false = if i = k then b else hp.getD i false := by
  rw [List.getD_eq_getElem?_getD, List.getD_eq_getElem?_getD, List.getElem?_set]
  by_cases e : i = k
  · subst e; simp [hk]
  · rw [if_neg (Ne.symm e), if_neg e]
theorem count_set {hp : List Bool} {k : Nat} (hk : k < hp.length) (e : hp.getD k false = false) : (hp.set k true).count false < hp.count false := by
  have e' : hp[k] = false := by rw [List.getD_eq_getElem?_getD, List.getElem?_eq_getElem hk] at e; exact e
  have pos : 0 < hp.count false := List.count_pos_iff.mpr (by rw [← e']; exact List.getElem_mem hk)
  have h : (hp.set k true).count false = hp.count false - (if hp[k] == false then 1 else 0) + (if true == false then 1 else 0) := List.count_set hk
  rw [h, e']
  simp
  omega
def spHopeless (K : PySem.W.Frag) : Sp := fun vs H Q _ => ∃ (ma ha la : Addr) (m : List Wy) (hb : List Bool) (ys : List Nat) (n : Nat), vs = [.ref ma, .ref ha, .ref la] ∧ Dt [] H n (.ref ma) (momD m) ∧ SqL K H ha (hb.map V.bl) ∧ hb.length = m.length ∧ SqL K H la (ys.map iv) ∧ ys.length ≤ 100000 ∧
  (∀ t ∈ ys, t < m.length) ∧ (∀ w ∈ m, InR m.length w) ∧
  ∀ (p : Addr) (H' : Hp) (bb : List Bool), bb.length = m.length → (∀ t : Nat, bb.getD t false = true ↔ Br m hb ys (t : Int)) → H p = none → Same H H' → H' p = some (.lst ((ys.filter fun t => !bb.getD t false).map iv)) → Q (.ref p) H'
theorem len_hopeless (K : PySem.W.Frag) {vs : List V} {H : Hp} {Q : VK} {E : XK} (h : spHopeless K vs H Q E) : vs.length = 3 := by
  obtain ⟨ma, ha, la, m, hb, ys, n, rfl, _⟩ := h
  rfl
theorem ixN_nat {n k : Nat} (h : k < n) : ixN n (k : Int) = some k := by
  unfold ixN
  rw [if_pos (by omega), if_pos (by omega)]
  simp
def InvB (m : List Wy) (hb : List Bool) (ys : List Nat) (bb : List Bool) : Prop := bb.length = m.length ∧ (∀ k : Nat, bb.getD k false = true → Br m hb ys (k : Int)) ∧ (∀ t : Nat, t ∉ ys → hb.getD t false = true → bb.getD t false = true)
def Clo (m : List Wy) (ys : List Nat) (bb : List Bool) : Prop := ∀ t ∈ ys, ∀ w, m[t]? = some w → bb.getD t false = false → goB w (bF bb) = false
theorem filt_not (ys : List Nat) (bb : List Bool) (f : V → Bool) (hf : ∀ t ∈ ys, f (iv t) = !bb.getD t false) : ((ys.map iv).filter f).map (fun x => x) = (ys.filter fun t => !bb.getD t false).map iv := by
  rw [List.map_id', List.filter_map]
  exact congrArg _ (List.filter_congr fun t ht => hf t ht)
theorem rd_hopeless (K : PySem.W.Frag) (vs : List V) (H : Hp) (Q : VK) (E : XK) (h : spHopeless K vs H Q E) : t_hopeless K { nx := fun _ H' => Q .non H', rt := Q } (start ["moment", "hopeful", "lot", "bright", "task", "grows"] vs) H := by
  obtain ⟨ma, ha, la, m, hb, ys, n, rfl, dm, hh, lh, hl, lz, yr, mr, q⟩ := h
  obtain ⟨_, xs, k0, e0, rfl, hm, _, lm, mz, mi⟩ := mom_inv dm
  cases e0
  unfold t_hopeless
  repeat kaf_pre
  intro hA nA
  repeat kaf_pre
  have len (hp : List Bool) : (hp.map V.bl).length = hp.length := List.length_map _
  refine forL ((same_new nA).seq hl) (fun i σ' H' => ∃ (bb : List Bool) (v4 v5 : Option V), σ' = [some (.ref ma), some (.ref ha), some (.ref la), some (.ref hA), v4, v5] ∧ Same H H' ∧ H' hA = some (.lst (bb.map V.bl)) ∧ bb.length = m.length ∧ ∀ t, bb.getD t false = (hb.getD t false && !decide (t ∈ ys.take i)))
    ⟨hb, _, _, rfl, same_new nA, upd_same, lh, by simp⟩ (fun i σ' H' _ h => by obtain ⟨_, _, _, _, s, _⟩ := h; exact s.seq hl) ?_ ?_
  · rintro i x σ' H1 hi ⟨bb, v4, v5, rfl, s, hb1, lb, gb⟩
    obtain ⟨t, ht, rfl⟩ := at_map hi
    have tl := yr t (List.mem_of_getElem? ht)
    repeat kaf_pre
    refine rd_setL hb1 (ixN_nat (by rw [len]; omega)) ?_
    repeat kaf_pre
    refine ⟨bb.set t false, _, _, rfl, same_mut s nA, by rw [List.map_set]; exact upd_same, by rw [List.length_set]; exact lb, fun u => ?_⟩
    rw [getD_set' (by omega), take_end ht]
    by_cases e : u = t
    · subst e; simp
    · rw [if_neg e, gb u]
      have : (u ∈ ys.take i ++ [t]) ↔ u ∈ ys.take i := by simp [e]
      simp only [this]
  rintro σ0 H0 ⟨bb0, v4, v5, rfl, s0, hb0, lb0, gb0⟩
  rw [List.length_map, List.take_length] at gb0
  repeat kaf_pre
  refine rd_while (m0 := 2 * bb0.count false + 1) (fun mm σ' H' => ∃ (bb : List Bool) (g : Bool) (v4 : Option V), mm = 2 * bb.count false + (if g then 1 else 0) ∧ σ' = [some (.ref ma), some (.ref ha), some (.ref la), some (.ref hA), v4, some (.bl g)] ∧
    Same H H' ∧ H' hA = some (.lst (bb.map V.bl)) ∧ InvB m hb ys bb ∧ (g = false → Clo m ys bb)) ⟨bb0, true, _, rfl, rfl, s0, hb0, ⟨lb0, fun k e => ?_, fun t a b => ?_⟩, fun z => by cases z⟩ ?_
  · rw [gb0 k] at e
    simp only [Bool.and_eq_true, Bool.not_eq_true', decide_eq_false_iff_not] at e
    exact .old e.2 e.1
  · rw [gb0 t, b]
    simp [a]
  rintro mm σ' H1 ⟨bb, g, v4, rfl, rfl, s1, hb1, ⟨lb, sound, base⟩, cl⟩
  repeat kaf_pre
  cases g with
  | false =>
    repeat kaf_pre
    refine lcLp (s1.seq hl) (fun x => match x with | .int t => !bF bb t | _ => false) (fun x => x) (by rw [List.length_map]; omega) (fun i x Dd acc hi hD R r => ?_) (fun i x Dd acc hi _ hD R r => ?_) fun Dd hD => ?_
    · obtain ⟨t, ht, rfl⟩ := at_map hi
      have tl := yr t (List.mem_of_getElem? ht)
      have g1 : (bb.map V.bl)[t]? = some (V.bl (bb.getD t false)) := map_at (getD_at false (by omega))
      have g2 := same_new (o := HO.lst acc) hD
      repeat kaf_pre
      exact r
    · repeat kaf_pre
      exact r
    · refine q Dd _ bb lb (fun t => ⟨sound t, fun hh => by simpa [bF] using br_closed base (cl rfl) hh⟩) (s1.free hD) (s1.trans (same_new hD)) ?_
      rw [upd_same, filt_not ys bb _ fun t _ => rfl]
  | true =>
    repeat kaf_pre
    refine rd_turn ?_
    repeat kaf_pre
    refine forL (s1.seq hl) (fun k σ' H' => ∃ (b2 : List Bool) (g : Bool) (v4 : Option V), σ' = [some (.ref ma), some (.ref ha), some (.ref la), some (.ref hA), v4, some (.bl g)] ∧ Same H H' ∧ H' hA = some (.lst (b2.map V.bl)) ∧ InvB m hb ys b2 ∧
      (g = false → b2 = bb ∧ Clo m (ys.take k) bb) ∧ (g = true → b2.count false < bb.count false)) ⟨bb, false, _, rfl, s1, hb1, ⟨lb, sound, base⟩, fun _ => ⟨rfl, fun t ht => by simp at ht⟩, fun z => by cases z⟩ (fun i σ' H' _ h => by obtain ⟨_, _, _, _, s, _⟩ := h; exact s.seq hl) ?_ ?_
    · rintro i x σ2 H2 hi ⟨b2, g, v4, rfl, s2, hb2, ⟨l2, so2, ba2⟩, c0, c1⟩
      obtain ⟨t, ht, rfl⟩ := at_map hi
      have tm := List.mem_of_getElem? ht
      have tl := yr t tm
      have g1 : (b2.map V.bl)[t]? = some (V.bl (b2.getD t false)) := map_at (getD_at false (by omega))
      obtain ⟨x, hx, dx⟩ := mi t _ (List.getElem?_eq_getElem tl)
      have hm2 := s2 _ _ hm
      have keep : (b2 = bb → b2.getD t false = true ∨ goB m[t] (bF b2) = false) → (g = false → b2 = bb ∧ Clo m (ys.take (i + 1)) bb) := fun e eg => by
        obtain ⟨e1, cl1⟩ := c0 eg
        refine ⟨e1, fun u hu w hw hf => ?_⟩
        rw [take_end ht] at hu
        rcases List.mem_append.mp hu with hu | hu
        · exact cl1 u hu w hw hf
        · rw [List.mem_singleton.mp hu] at hw hf
          rw [List.getElem?_eq_getElem tl] at hw
          cases hw
          rcases e e1 with z | z
          · rw [e1, hf] at z; cases z
          · rw [e1] at z; exact z
      cases e : b2.getD t false with
      | true =>
        rw [e] at g1
        repeat kaf_pre
        exact ⟨b2, g, _, rfl, s2, hb2, ⟨l2, so2, ba2⟩, keep fun _ => .inl e, c1⟩
      | false =>
        rw [e] at g1
        repeat kaf_pre
        refine ⟨x, hA, m[t], b2, _, rfl, dx.same s2, SqL.of hb2, by rw [l2]; exact mr _ (List.getElem_mem tl), fun H3 s3 => ?_⟩
        have hb3 := s3 _ _ hb2
        repeat kaf_pre
        refine rd_iteB (fun c => ?_) (fun c => ?_)
        · repeat kaf_pre
          refine rd_setL hb3 (ixN_nat (by rw [len]; omega)) ?_
          repeat kaf_pre
          refine ⟨b2.set t true, true, _, rfl, same_mut (s2.trans s3) nA, by rw [List.map_set]; exact upd_same, ⟨by rw [List.length_set]; exact l2, fun k hk => ?_, fun u a b => ?_⟩, (fun z => by cases z), fun _ => ?_⟩
          · rw [getD_set' (by omega)] at hk
            by_cases ek : k = t
            · subst ek
              exact go_br tm (List.getElem?_eq_getElem tl) (mr _ (List.getElem_mem tl)) so2 c
            · rw [if_neg ek] at hk; exact so2 k hk
          · rw [getD_set' (by omega)]
            by_cases ek : u = t
            · rw [if_pos ek]
            · rw [if_neg ek]; exact ba2 u a b
          · have lt := count_set (hp := b2) (k := t) (by omega) e
            cases g with
            | false => rw [(c0 rfl).1] at lt ⊢; exact lt
            | true => exact Nat.lt_trans lt (c1 rfl)
        · repeat kaf_pre
          exact ⟨b2, g, _, rfl, s2.trans s3, hb3, ⟨l2, so2, ba2⟩, keep fun _ => .inr c, c1⟩
    · rintro σ2 H2 ⟨b2, g, v4, rfl, s2, hb2, i2, c0, c1⟩
      rw [List.length_map, List.take_length] at c0
      cases g with
      | false =>
        obtain ⟨rfl, cl1⟩ := c0 rfl
        exact ⟨2 * b2.count false + 0, by simp, b2, false, _, rfl, rfl, s2, hb2, i2, fun _ => cl1⟩
      | true =>
        have := c1 rfl
        exact ⟨2 * b2.count false + 1, by simp; omega, b2, true, _, rfl, rfl, s2, hb2, i2, fun z => by cases z⟩
/- slots of demand_tasks: 0 moment, 1 ways, 2 way, 3 task -/
def t_demand_tasks (K : PySem.W.Frag) (Z : Cs) (E : XK) : TS :=
  (tFor (iAny K (tVar 0)) (gName 1) (tIfS (tTest (tOp rNotN (tVar 1) (tC .non))) (tFor (iAny K (tVar 1)) (gName 2) (tFor (iAny K (tVar 2)) (gName 3) (tIfS (tNot (tTest (tChain rLeI rLtI (tC (.int 0)) (tVar 3) (tCB (rLen K) (tCons (tVar 0) tNil))))) (tRaise Z.NoTask (ExL.errF ["task"] "no such task") 1 (fun cls d (_ : L2.St) H => E cls d H) (tCons (tVar 3) tNil)) tNext))) tNext))
def wyT : Wy → List Int
  | none => []
  | some ws => ws.flatten
def okT (n : Nat) (t : Int) : Bool := decide (0 ≤ t) && decide (t < (n : Int))
def firstBad (m : List Wy) : Option Int := (m.flatMap wyT).find? fun t => !okT m.length t
theorem find_at {α : Type} {p : α → Bool} {t : α} {pre post : List α} (h : ∀ x ∈ pre, p x = false) (ht : p t = true) : (pre ++ t :: post).find? p = some t := by
  rw [List.find?_append, List.find?_eq_none.mpr (fun x hx => by rw [h x hx]; decide), List.find?_cons_of_pos ht]
  rfl
theorem split_at {α : Type} {l : List α} {i : Nat} {x : α} (h : l[i]? = some x) : l = l.take i ++ x :: l.drop (i + 1) := by
  have hi := (List.getElem?_eq_some_iff.mp h).1
  have := List.take_append_drop i l
  rw [List.drop_eq_getElem_cons hi] at this
  rw [(List.getElem?_eq_some_iff.mp h).2] at this
  exact this.symm
theorem inR_of {n : Nat} {w : Wy} (h : ∀ t ∈ wyT w, okT n t = true) : InR n w := by
  rintro ws rfl y hy t ht
  have := h t (List.mem_flatten.mpr ⟨y, hy, ht⟩)
  unfold okT at this
  simpa using this
theorem okT_of {n : Nat} {w : Wy} (h : InR n w) : ∀ t ∈ wyT w, okT n t = true := by
  intro t ht
  cases w with
  | none => cases ht
  | some ws =>
    obtain ⟨y, hy, hyt⟩ := List.mem_flatten.mp ht
    have := h ws rfl y hy t hyt
    unfold okT
    simpa using this
def spDemand (K : PySem.W.Frag) (Z : Cs) : Sp := fun vs H Q E => ∃ (ma : Addr) (m : List Wy) (n : Nat), vs = [.ref ma] ∧ Dt [] H n (.ref ma) (momD m) ∧ ((∀ w ∈ m, InR m.length w) → Q .non H) ∧
  (∀ t, firstBad m = some t → ∀ d, H d = none → E (.ref Z.NoTask) (some d) (upd H d (.xd (ExL.errF ["task"] "no such task" [.int t]))))
theorem len_demand_tasks (K : PySem.W.Frag) {Z : Cs} {vs : List V} {H : Hp} {Q : VK} {E : XK} (h : spDemand K Z vs H Q E) : vs.length = 1 := by
  obtain ⟨ma, m, n, rfl, _⟩ := h
  rfl
theorem rd_demand_tasks (K : PySem.W.Frag) (Z : Cs) (_ : Cf K Z) (vs : List V) (H : Hp) (Q : VK) (E : XK) (h : spDemand K Z vs H Q E) : t_demand_tasks K Z E { nx := fun _ H' => Q .non H', rt := Q } (start ["moment", "ways", "way", "task"] vs) H := by
  obtain ⟨ma, m, n, rfl, dm, q1, q2⟩ := h
  obtain ⟨_, xs, k0, e0, rfl, hm, _, lm, mz, mi⟩ := mom_inv dm
  cases e0
  unfold t_demand_tasks
  repeat kaf_pre
  refine forL (SqL.of hm) (fun i σ' H' => H' = H ∧ (∃ v1 v2 v3, σ' = [some (.ref ma), v1, v2, v3]) ∧ ∀ t ∈ (m.take i).flatMap wyT, okT m.length t = true) ⟨rfl, ⟨_, _, _, rfl⟩, by simp⟩ (fun i σ' H' _ h => by rw [h.1]; exact SqL.of hm) ?_ ?_
  · rintro i x σ' H1 hi ⟨rfl, ⟨v1, v2, v3, rfl⟩, old⟩
    have il : i < m.length := by have := (List.getElem?_eq_some_iff.mp hi).1; omega
    obtain ⟨x', hx', dx⟩ := mi i _ (List.getElem?_eq_getElem il)
    rw [hi] at hx'
    cases hx'
    have hw := List.getElem?_eq_getElem il
    have sp := split_at hw
    generalize hwe : m[i] = w at *
    cases w with
    | none =>
      have e := dx.non_inv
      subst e
      repeat kaf_pre
      refine ⟨rfl, ⟨_, _, _, rfl⟩, ?_⟩
      rw [take_end hw, List.flatMap_append]
      intro t ht
      rcases List.mem_append.mp ht with ht | ht
      · exact old t ht
      · simp [wyT] at ht
    | some ws =>
      obtain ⟨a, bs, k, rfl, rfl, ha, _, l, z, e⟩ := ways_inv dx
      repeat kaf_pre
      refine forL (SqL.of ha) (fun j σ' H' => H' = H1 ∧ (∃ v2 v3, σ' = [some (.ref ma), some (.ref a), v2, v3]) ∧ ∀ t ∈ (ws.take j).flatten, okT m.length t = true) ⟨rfl, ⟨_, _, rfl⟩, by simp⟩ (fun i σ' H' _ h => by rw [h.1]; exact SqL.of ha) ?_ ?_
      · rintro j x σ' H2 hj ⟨rfl, ⟨v2, v3, rfl⟩, old2⟩
        obtain ⟨b, y, hy, rfl, hb, _, zy⟩ := e j x hj
        have sp2 := split_at hy
        repeat kaf_pre
        refine forL (SqL.of hb) (fun k σ' H' => H' = H2 ∧ (∃ v3, σ' = [some (.ref ma), some (.ref a), some (.ref b), v3]) ∧ ∀ t ∈ y.take k, okT m.length t = true) ⟨rfl, ⟨_, rfl⟩, by simp⟩ (fun i σ' H' _ h => by rw [h.1]; exact SqL.of hb) ?_ ?_
        · rintro k x σ' H3 hk ⟨rfl, ⟨v3, rfl⟩, old3⟩
          obtain ⟨t, ht, rfl⟩ := at_map hk
          have sp3 := split_at ht
          have bad : okT m.length t = false → firstBad m = some t := fun hb => by
            unfold firstBad
            rw [show m.flatMap wyT = ((m.take i).flatMap wyT ++ ((ws.take j).flatten ++ y.take k)) ++ t :: (y.drop (k + 1) ++ ((ws.drop (j + 1)).flatten ++ (m.drop (i + 1)).flatMap wyT)) from by
              conv => lhs; rw [sp, List.flatMap_append, List.flatMap_cons, show wyT (some ws) = ws.flatten from rfl, sp2, List.flatten_append, List.flatten_cons, sp3]
              simp only [List.append_assoc, List.cons_append]]
            refine find_at (fun u hu => ?_) (by rw [hb]; rfl)
            rcases List.mem_append.mp hu with hu | hu
            · rw [old u hu]; rfl
            · rcases List.mem_append.mp hu with hu | hu
              · rw [old2 u hu]; rfl
              · rw [old3 u hu]; rfl
          have good : okT m.length t = true → ∀ u ∈ y.take (k + 1), okT m.length u = true := fun hg u hu => by
            rw [take_end ht] at hu
            rcases List.mem_append.mp hu with hu | hu
            · exact old3 u hu
            · rw [List.mem_singleton.mp hu]; exact hg
          by_cases c0 : 0 ≤ t
          · repeat kaf_pre
            rw [lm]
            by_cases c1 : t < (m.length : Int)
            · repeat kaf_pre
              exact ⟨rfl, ⟨_, rfl⟩, good (by unfold okT; simp [c0, c1])⟩
            · repeat kaf_pre
              exact ⟨rfl, q2 t (bad (by unfold okT; simp [c1]))⟩
          · repeat kaf_pre
            exact ⟨rfl, q2 t (bad (by unfold okT; simp [c0]))⟩
        · rintro σ' H3 ⟨rfl, ⟨v3, rfl⟩, old3⟩
          rw [List.length_map, List.take_length] at old3
          refine ⟨rfl, ⟨_, _, rfl⟩, fun u hu => ?_⟩
          rw [take_end hy, List.flatten_append] at hu
          rcases List.mem_append.mp hu with hu | hu
          · exact old2 u hu
          · exact old3 u (by simpa using hu)
      · rintro σ' H2 ⟨rfl, ⟨v2, v3, rfl⟩, old2⟩
        rw [l, List.take_length] at old2
        refine ⟨rfl, ⟨_, _, _, rfl⟩, fun u hu => ?_⟩
        rw [take_end hw, List.flatMap_append] at hu
        rcases List.mem_append.mp hu with hu | hu
        · exact old u hu
        · exact old2 u (by simpa [wyT] using hu)
  · rintro σ' H1 ⟨rfl, ⟨v1, v2, v3, rfl⟩, old⟩
    rw [lm, List.take_length] at old
    exact q1 fun w hw => inR_of fun t ht => old t (List.mem_flatMap.mpr ⟨w, hw, ht⟩)
/- slots of stuck_of: 0 moment, 1 _ -/
def t_stuck_of (K : PySem.W.Frag) (Z : Cs) (E : XK) : TS :=
  (tSeq (tDrop (tCallS (spDemand K Z) (WE (fun cls d (_ : L2.St) H => E cls d H)) (tCons (tVar 0) tNil)))
  (tRet (tCall (spHopeless K) [] E0 (tCons (tVar 0) (tCons (tLc (iAny K (tVar 0)) (gName 1) tYes (tC (.bl true)) [1]) (tCons (tLstRg (tRg1 (tCB (rLen K) (tCons (tVar 0) tNil)))) tNil))))))
/-- the tasks that can still go on -/
inductive Dv (m : List Wy) : Int → Prop
  | free {t : Nat} : m[t]? = some none → Dv m (t : Int)
  | way {t : Nat} {ws : List (List Int)} {y : List Int} : m[t]? = some (some ws) → y ∈ ws → (∀ u ∈ y, Dv m u) → Dv m (t : Int)
theorem dv_lt {m : List Wy} {u : Int} (h : Dv m u) : 0 ≤ u ∧ u < (m.length : Int) := by
  cases h with
  | free h => have := (List.getElem?_eq_some_iff.mp h).1; omega
  | way h _ _ => have := (List.getElem?_eq_some_iff.mp h).1; omega
theorem br_dv {m : List Wy} {u : Int} : Br m (List.replicate m.length true) (List.range m.length) u ↔ Dv m u := by
  constructor
  · intro h
    induction h with
    | @old t a b =>
      rw [List.mem_range] at a
      rw [List.getD_eq_getElem?_getD, List.getElem?_eq_none (by rw [List.length_replicate]; omega)] at b
      cases b
    | free a b => exact .free b
    | way a b c _ ih => exact .way b c ih
  · intro h
    induction h with
    | free b => exact .free (List.mem_range.mpr (List.getElem?_eq_some_iff.mp b).1) b
    | way b c _ ih => exact .way (List.mem_range.mpr (List.getElem?_eq_some_iff.mp b).1) b c ih
/-- out are the tasks that cannot, in order -/
def IsStuck (m : List Wy) (out : List Nat) : Prop := ∃ bb : Nat → Bool, (∀ t, t < m.length → (bb t = true ↔ Dv m (t : Int))) ∧ out = (List.range m.length).filter fun t => !bb t
theorem IsStuck.unique {m : List Wy} {a b : List Nat} (h : IsStuck m a) (g : IsStuck m b) : a = b := by
  obtain ⟨f, h1, rfl⟩ := h
  obtain ⟨k, g1, rfl⟩ := g
  refine List.filter_congr fun t ht => ?_
  rw [List.mem_range] at ht
  have : (f t = true ↔ k t = true) := (h1 t ht).trans (g1 t ht).symm
  cases e : f t <;> cases e2 : k t <;> simp_all
theorem IsStuck.mem {m : List Wy} {a : List Nat} (h : IsStuck m a) {t : Nat} : t ∈ a ↔ t < m.length ∧ ¬ Dv m (t : Int) := by
  obtain ⟨f, h1, rfl⟩ := h
  rw [List.mem_filter, List.mem_range]
  constructor
  · rintro ⟨h, e⟩
    refine ⟨h, fun d => ?_⟩
    rw [(h1 t h).mpr d] at e
    cases e
  · rintro ⟨h, e⟩
    refine ⟨h, ?_⟩
    cases c : f t with
    | false => rfl
    | true => exact absurd ((h1 t h).mp c) e
def spStuckOf (K : PySem.W.Frag) (Z : Cs) : Sp := fun vs H Q E => ∃ (ma : Addr) (m : List Wy) (n : Nat), vs = [.ref ma] ∧ Dt [] H n (.ref ma) (momD m) ∧ m.length ≤ 1000 ∧
  ((∀ w ∈ m, InR m.length w) → ∀ (p : Addr) (H' : Hp) (out : List Nat), IsStuck m out → H p = none → Same H H' → H' p = some (.lst (out.map iv)) → Q (.ref p) H') ∧
  (∀ t, firstBad m = some t → ∀ d, H d = none → E (.ref Z.NoTask) (some d) (upd H d (.xd (ExL.errF ["task"] "no such task" [.int t]))))
theorem len_stuck_of (K : PySem.W.Frag) {Z : Cs} {vs : List V} {H : Hp} {Q : VK} {E : XK} (h : spStuckOf K Z vs H Q E) : vs.length = 1 := by
  obtain ⟨ma, m, n, rfl, _⟩ := h
  rfl
theorem map_true (xs : List V) : (xs.filter fun _ => true).map (fun _ => V.bl true) = (List.replicate xs.length true).map V.bl := by
  rw [List.filter_eq_self.mpr (fun _ _ => rfl), List.map_replicate]
  exact List.map_const'
theorem rd_stuck_of (K : PySem.W.Frag) (Z : Cs) (_ : Cf K Z) (vs : List V) (H : Hp) (Q : VK) (E : XK) (h : spStuckOf K Z vs H Q E) : t_stuck_of K Z E { nx := fun _ H' => Q .non H', rt := Q } (start ["moment", "_"] vs) H := by
  obtain ⟨ma, m, n, rfl, dm, mz, q1, q2⟩ := h
  unfold t_stuck_of
  repeat kaf_pre
  refine ⟨ma, m, n, rfl, dm, fun good => ?_, q2⟩
  obtain ⟨_, xs, k0, e0, rfl, hm, _, lm, _, mi⟩ := mom_inv dm
  cases e0
  repeat kaf_pre
  refine lcLp (SqL.of hm) (fun _ => true) (fun _ => .bl true) (by omega) (fun i x Dd acc hi hD R r => ?_) (fun i x Dd acc hi _ hD R r => ?_) fun hA nA => ?_
  · exact r
  · repeat kaf_pre
    exact r
  rw [map_true, lm]
  have s1 := same_new (o := HO.lst ((List.replicate m.length true).map V.bl)) nA
  repeat kaf_pre
  rw [lm]
  refine rd_lrg rfl (by omega) fun hL nL => ?_
  have s2 := s1.trans (same_new (o := HO.lst ((List.range m.length).map iv)) nL)
  have hA2 := same_new (o := HO.lst ((List.range m.length).map iv)) nL _ _ (upd_same (H := H) (a := hA) (o := HO.lst ((List.replicate m.length true).map V.bl)))
  repeat kaf_pre
  refine ⟨ma, hA, hL, m, List.replicate m.length true, List.range m.length, _, rfl, dm.same s2, SqL.of hA2, List.length_replicate, SqL.of upd_same, by rw [List.length_range]; omega, fun t ht => List.mem_range.mp ht, good, fun p H' bb lb hbb np s3 hp => ?_⟩
  exact q1 good p H' _ ⟨fun t => bb.getD t false, fun t _ => (hbb t).trans br_dv, rfl⟩ (s2.free np) (s2.trans s3) hp
/- slots of is_closed: 0 moment, 1 lot, 2 task, 3 way, 4 other -/
def t_is_closed (K : PySem.W.Frag) (Z : Cs) (E : XK) : TS :=
  (tSeq (tDrop (tCallS (spDemand K Z) (WE (fun cls d (_ : L2.St) H => E cls d H)) (tCons (tVar 0) tNil)))
  (tSeq (tFor (iAny K (tVar 1)) (gName 2) (tIfS (tNot (tTest (tChain rLeI rLtI (tC (.int 0)) (tVar 2) (tCB (rLen K) (tCons (tVar 0) tNil))))) (tRaise Z.NoTask (ExL.errF ["task"] "no such task") 1 (fun cls d (_ : L2.St) H => E cls d H) (tCons (tVar 2) tNil)) tNext))
  (tSeq (tFor (iAny K (tVar 1)) (gName 2) (tSeq (tIfS (tTest (tOp rIsN (tOp (rIx K) (tVar 0) (tVar 2)) (tC .non))) (tRet (tC (.bl false))) tNext)
  (tFor (iAny K (tOp (rIx K) (tVar 0) (tVar 2))) (gName 3) (tIfS (tNot (tTru K (tCB (rAny K) (tCons (tLc (iAny K (tVar 3)) (gName 4) tYes (tOp (rInA K) (tVar 4) (tVar 1)) [4]) tNil)))) (tRet (tC (.bl false))) tNext))))
  (tRet (tC (.bl true))))))
def cloW (lot : List Int) (w : Option Wy) : Bool := match w with
  | some (some ws) => ws.all fun y => y.any fun u => decide (u ∈ lot)
  | _ => false
def closedB (m : List Wy) (lot : List Int) : Bool := lot.all fun t => cloW lot m[t.toNat]?
def iInV (lot : List Int) : V → V
  | .int t => .bl (decide (t ∈ lot))
  | _ => .non
theorem map_iInV (lot y : List Int) : ((y.map V.int).filter fun _ => true).map (iInV lot) = (y.map fun u => decide (u ∈ lot)).map V.bl := by
  rw [List.filter_eq_self.mpr (fun _ _ => rfl), List.map_map, List.map_map]
  rfl
theorem okT_iff {n : Nat} {t : Int} : okT n t = true ↔ 0 ≤ t ∧ t < (n : Int) := by unfold okT; simp
def spIsClosed (K : PySem.W.Frag) (Z : Cs) : Sp := fun vs H Q E => ∃ (ma la : Addr) (m : List Wy) (lot : List Int) (n : Nat), vs = [.ref ma, .ref la] ∧ Dt [] H n (.ref ma) (momD m) ∧ SqL K H la (lot.map V.int) ∧ lot.length ≤ 1000 ∧
  ((∀ w ∈ m, InR m.length w) → (∀ t ∈ lot, okT m.length t = true) → ∀ H', Same H H' → Q (.bl (closedB m lot)) H') ∧
  (∀ t, firstBad m = some t → ∀ d, H d = none → E (.ref Z.NoTask) (some d) (upd H d (.xd (ExL.errF ["task"] "no such task" [.int t])))) ∧
  ((∀ w ∈ m, InR m.length w) → ∀ t, (lot.find? fun t => !okT m.length t) = some t → ∀ d, H d = none → E (.ref Z.NoTask) (some d) (upd H d (.xd (ExL.errF ["task"] "no such task" [.int t]))))
theorem len_is_closed (K : PySem.W.Frag) {Z : Cs} {vs : List V} {H : Hp} {Q : VK} {E : XK} (h : spIsClosed K Z vs H Q E) : vs.length = 2 := by
  obtain ⟨ma, la, m, lot, n, rfl, _⟩ := h
  rfl
theorem rd_is_closed (K : PySem.W.Frag) (Z : Cs) (_ : Cf K Z) (vs : List V) (H : Hp) (Q : VK) (E : XK) (h : spIsClosed K Z vs H Q E) : t_is_closed K Z E { nx := fun _ H' => Q .non H', rt := Q } (start ["moment", "lot", "task", "way", "other"] vs) H := by
  obtain ⟨ma, la, m, lot, n, rfl, dm, hl, lz, q1, q2, q3⟩ := h
  unfold t_is_closed
  repeat kaf_pre
  refine ⟨ma, m, n, rfl, dm, fun good => ?_, q2⟩
  obtain ⟨_, xs, k0, e0, rfl, hm, _, lm, _, mi⟩ := mom_inv dm
  cases e0
  repeat kaf_pre
  refine forL hl (fun i σ' H' => H' = H ∧ (∃ v2, σ' = [some (.ref ma), some (.ref la), v2, none, none]) ∧ ∀ t ∈ lot.take i, okT m.length t = true) ⟨rfl, ⟨_, rfl⟩, by simp⟩ (fun i σ' H' _ h => by rw [h.1]; exact hl) ?_ ?_
  · rintro i x σ' H1 hi ⟨rfl, ⟨v2, rfl⟩, old⟩
    obtain ⟨t, ht, rfl⟩ := at_map hi
    have bad : okT m.length t = false → (lot.find? fun t => !okT m.length t) = some t := fun hb => by
      rw [split_at ht]
      exact find_at (fun u hu => by rw [old u hu]; rfl) (by rw [hb]; rfl)
    by_cases c0 : 0 ≤ t
    · repeat kaf_pre
      rw [lm]
      by_cases c1 : t < (m.length : Int)
      · repeat kaf_pre
        refine ⟨rfl, ⟨_, rfl⟩, fun u hu => ?_⟩
        rw [take_end ht] at hu
        rcases List.mem_append.mp hu with hu | hu
        · exact old u hu
        · rw [List.mem_singleton.mp hu]; exact okT_iff.mpr ⟨c0, c1⟩
      · repeat kaf_pre
        exact ⟨rfl, q3 good t (bad (by unfold okT; simp [c1]))⟩
    · repeat kaf_pre
      exact ⟨rfl, q3 good t (bad (by unfold okT; simp [c0]))⟩
  rintro σ' H1 ⟨rfl, ⟨v2, rfl⟩, ok⟩
  rw [List.length_map, List.take_length] at ok
  have q := q1 good ok
  repeat kaf_pre
  refine forL hl (fun i σ' H' => Same H1 H' ∧ (∃ v2 v3, σ' = [some (.ref ma), some (.ref la), v2, v3, none]) ∧ ∀ t ∈ lot.take i, cloW lot m[t.toNat]? = true) ⟨Same.refl _, ⟨_, _, rfl⟩, by simp⟩ (fun i σ' H' _ h => h.1.seq hl) ?_ ?_
  · rintro i x σ' H2 hi ⟨s2, ⟨v2, v3, rfl⟩, old⟩
    obtain ⟨t, ht, rfl⟩ := at_map hi
    obtain ⟨t0, t1⟩ := okT_iff.mp (ok t (List.mem_of_getElem? ht))
    obtain ⟨k, rfl⟩ := Int.eq_ofNat_of_zero_le t0
    have kl : k < m.length := by omega
    have hw := List.getElem?_eq_getElem kl
    obtain ⟨x, hx, dx⟩ := mi k _ hw
    have hm2 := s2 _ _ hm
    have no : cloW lot m[((k : Int)).toNat]? = false → closedB m lot = false := fun c => by
      unfold closedB
      refine List.all_eq_false.mpr ⟨(k : Int), List.mem_of_getElem? ht, ?_⟩
      rw [c]; decide
    have yes : cloW lot m[((k : Int)).toNat]? = true → ∀ t ∈ lot.take (i + 1), cloW lot m[t.toNat]? = true := fun c u hu => by
      rw [take_end ht] at hu
      rcases List.mem_append.mp hu with hu | hu
      · exact old u hu
      · rw [List.mem_singleton.mp hu]; exact c
    rw [Int.toNat_natCast, hw] at no yes
    generalize hwe : m[k] = w at *
    cases w with
    | none =>
      have e := dx.non_inv
      subst e
      repeat kaf_pre
      rw [← no rfl]
      exact q _ s2
    | some ws =>
      obtain ⟨a, bs, k2, rfl, rfl, ha, _, l, z, e⟩ := ways_inv dx
      have ha2 := s2 _ _ ha
      repeat kaf_pre
      refine forL (SqL.of ha2) (fun j σ' H' => Same H2 H' ∧ (∃ v3, σ' = [some (.ref ma), some (.ref la), some (.int (k : Int)), v3, none]) ∧ ∀ y ∈ ws.take j, (y.any fun u => decide (u ∈ lot)) = true) ⟨Same.refl _, ⟨_, rfl⟩, by simp⟩ (fun i σ' H' _ h => SqL.of (h.1 _ _ ha2)) ?_ ?_
      · rintro j x σ' H3 hj ⟨s3, ⟨v3, rfl⟩, old2⟩
        obtain ⟨b, y, hy, rfl, hb, _, zy⟩ := e j x hj
        have hb3 := s3 _ _ (s2 _ _ hb)
        have hl3 := s3.seq (s2.seq hl)
        repeat kaf_pre
        refine lcLp (SqL.of hb3) (fun _ => true) (iInV lot) (by rw [List.length_map]; exact zy) (fun i x Dd acc hi hD R r => ?_) (fun j x Dd acc hj _ hD R rr => ?_) fun hA nA => ?_
        · exact r
        · obtain ⟨u, hu, rfl⟩ := at_map hj
          have s4 := same_new (o := HO.lst acc) hD
          repeat kaf_pre
          rw [in_int]
          exact rr
        · rw [map_iInV]
          repeat kaf_pre
          refine rd_niteB (fun c => ?_) (fun c => ?_)
          · repeat kaf_pre
            have c' : (y.any fun u => decide (u ∈ lot)) = false := by simpa [List.any_map] using c
            rw [← no (List.all_eq_false.mpr ⟨y, List.mem_of_getElem? hy, by rw [c']; decide⟩)]
            exact q _ ((s2.trans s3).trans (same_new nA))
          · repeat kaf_pre
            refine ⟨s3.trans (same_new nA), ⟨_, rfl⟩, fun y' hy' => ?_⟩
            rw [take_end hy] at hy'
            rcases List.mem_append.mp hy' with m | m
            · exact old2 y' m
            · rw [List.mem_singleton.mp m]
              simpa [List.any_map] using c
      · rintro σ' H3 ⟨s3, ⟨v3, rfl⟩, old2⟩
        rw [l, List.take_length] at old2
        exact ⟨s2.trans s3, ⟨_, _, rfl⟩, yes (List.all_eq_true.mpr old2)⟩
  · rintro σ' H2 ⟨s2, ⟨v2, v3, rfl⟩, old⟩
    rw [List.length_map, List.take_length] at old
    repeat kaf_pre
    have g : closedB m lot = true := List.all_eq_true.mpr old
    rw [← g]
    exact q _ s2
/- slots of _law_goes: 0 ways, 1 hopeful, 2 way, 3 task -/
def t_law_goes (K : PySem.W.Frag) : TS :=
  (tSeq (tIfS (tTest (tOp rIsN (tVar 0) (tC .non))) (tRet (tC (.bl true))) tNext)
  (tSeq (tFor (iAny K (tVar 0)) (gName 2) (tIfS (tTest (tOp (rNotInA K) (tC (.bl false)) (tLc (iAny K (tVar 2)) (gName 3) tYes (tOp (rInA K) (tVar 3) (tVar 1)) [3]))) (tRet (tC (.bl true))) tNext))
  (tRet (tC (.bl false)))))
def inF (hs : List Int) : Int → Bool := fun u => decide (u ∈ hs)
theorem bl_notin (y : List Int) (f : Int → Bool) : (!inV (.bl false) ((y.map f).map V.bl)) = y.all f := by
  rw [in_bl]
  induction y with
  | nil => rfl
  | cons a y ih =>
    rw [List.all_cons, ← ih]
    cases e : f a <;> simp [e]
theorem bl_nohit (y : List Int) (f : Int → Bool) : (!inV (.bl true) ((y.map f).map V.bl)) = !y.any f := by
  rw [in_bl]
  induction y with
  | nil => rfl
  | cons a y ih =>
    rw [List.any_cons, Bool.not_or, ← ih]
    cases e : f a <;> simp [e]
def spGoes (K : PySem.W.Frag) : Sp := fun vs H Q _ => ∃ (v : V) (hp : Addr) (w : Wy) (hs : List Int) (n : Nat), vs = [v, .ref hp] ∧ Dt [] H n v (wyD w) ∧ SqL K H hp (hs.map V.int) ∧ ∀ H', Same H H' → Q (.bl (goB w (inF hs))) H'
theorem len_law_goes (K : PySem.W.Frag) {vs : List V} {H : Hp} {Q : VK} {E : XK} (h : spGoes K vs H Q E) : vs.length = 2 := by
  obtain ⟨v, hp, w, hs, n, rfl, _⟩ := h
  rfl
theorem rd_law_goes (K : PySem.W.Frag) (vs : List V) (H : Hp) (Q : VK) (E : XK) (h : spGoes K vs H Q E) : t_law_goes K { nx := fun _ H' => Q .non H', rt := Q } (start ["ways", "hopeful", "way", "task"] vs) H := by
  obtain ⟨v, hp, w, hs, n, rfl, d, hh, q⟩ := h
  unfold t_law_goes
  cases w with
  | none =>
    have e := d.non_inv
    subst e
    repeat kaf_pre
    exact q H (Same.refl H)
  | some ws =>
    obtain ⟨a, xs, k, rfl, rfl, ha, _, l, z, e⟩ := ways_inv d
    repeat kaf_pre
    refine forL (SqL.of ha) (fun i σ' H' => Same H H' ∧ (∃ v3, σ' = [some (.ref a), some (.ref hp), v3, none]) ∧ ∀ y ∈ ws.take i, y.all (inF hs) = false) ⟨Same.refl H, ⟨_, rfl⟩, by simp⟩ (fun i σ' H' _ h => SqL.of (h.1 _ _ ha)) ?_ ?_
    · rintro i x σ' H1 hi ⟨s, ⟨v3, rfl⟩, old⟩
      obtain ⟨b, y, hy, rfl, hb1, _, zy⟩ := e i x hi
      have hb2 := s _ _ hb1
      have hh2 := s.seq hh
      repeat kaf_pre
      refine lcLp (SqL.of hb2) (fun _ => true) (iInV hs) (by rw [List.length_map]; exact zy) (fun i x Dd acc hi hD R r => ?_) (fun j x Dd acc hj _ hD R rr => ?_) fun hA nA => ?_
      · exact r
      · obtain ⟨u, hu, rfl⟩ := at_map hj
        have s4 := same_new (o := HO.lst acc) hD
        repeat kaf_pre
        rw [in_int]
        exact rr
      · rw [map_iInV]
        repeat kaf_pre
        rw [show (y.map fun u => decide (u ∈ hs)) = y.map (inF hs) from rfl, bl_notin]
        refine rd_iteB (fun c => ?_) (fun c => ?_)
        · repeat kaf_pre
          have g : goB (some ws) (inF hs) = true := List.any_eq_true.mpr ⟨y, List.mem_of_getElem? hy, c⟩
          rw [← g]
          exact q _ (s.trans (same_new nA))
        · repeat kaf_pre
          refine ⟨s.trans (same_new nA), ⟨_, rfl⟩, ?_⟩
          intro y' hy'
          rw [take_end hy] at hy'
          rcases List.mem_append.mp hy' with m | m
          · exact old y' m
          · rw [List.mem_singleton.mp m]; exact c
    · rintro σ' H1 ⟨s, ⟨v3, rfl⟩, old⟩
      repeat kaf_pre
      rw [l, List.take_length] at old
      have g : goB (some ws) (inF hs) = false := List.any_eq_false.mpr fun y hy => by rw [old y hy]; decide
      rw [← g]
      exact q _ s
/- slots of _law_left: 0 moment, 1 hopeful, 2 k, 3 many, 4 task -/
def t_law_left (K : PySem.W.Frag) : TS :=
  (tSeq (tAsg (tLst tNil) (gName 1))
  (tSeqC (tFor (iRng1 (tCons (tOp (rAddA K) (tCB (rLen K) (tCons (tVar 0) tNil)) (tC (.int 1))) tNil)) (gName 2) (tSeq (tAsg (tCB (rLen K) (tCons (tVar 1) tNil)) (gName 3))
  (tSeq (tFor (iRng1 (tCons (tCB (rLen K) (tCons (tVar 0) tNil)) tNil)) (gName 4) (tIfS (tAnd (tTest (tOp (rNotInA K) (tVar 4) (tVar 1))) (tTru K (tCall (spGoes K) [] E0 (tCons (tOp (rIx K) (tVar 0) (tVar 4)) (tCons (tVar 1) tNil))))) (tDrop (tBM K "list" rAppend (tVar 1) (tCons (tVar 4) tNil))) tNext))
  (tIfS (tTest (tOp (rEqA K) (tCB (rLen K) (tCons (tVar 1) tNil)) (tVar 3))) tBreak tNext))))
  (tRet (tLc (iRng1 (tCons (tCB (rLen K) (tCons (tVar 0) tNil)) tNil)) (gName 4) (tTest (tOp (rNotInA K) (tVar 4) (tVar 1))) (tVar 4) [4]))))
/-! ### lists of tasks that go on -/
theorem go_dv {m : List Wy} {hs : List Int} {t : Nat} {w : Wy} (hw : m[t]? = some w) (s : ∀ u ∈ hs, Dv m u) (g : goB w (inF hs) = true) : Dv m (t : Int) := by
  cases w with
  | none => exact .free hw
  | some ws =>
    obtain ⟨y, hy, a⟩ := List.any_eq_true.mp g
    exact .way hw hy fun u hu => s u (by simpa [inF] using List.all_eq_true.mp a u hu)
theorem dv_in {m : List Wy} {hs : List Int} (c : ∀ (t : Nat) w, m[t]? = some w → goB w (inF hs) = true → (t : Int) ∈ hs) {u : Int} (h : Dv m u) : u ∈ hs := by
  induction h with
  | free a => exact c _ _ a rfl
  | way a b _ ih => exact c _ _ a (List.any_eq_true.mpr ⟨_, b, List.all_eq_true.mpr fun u hu => by simpa [inF] using ih u hu⟩)
theorem nodup_sub {l : List Nat} : ∀ {l' : List Nat}, l.Nodup → (∀ a ∈ l, a ∈ l') → l.length ≤ l'.length := by
  induction l with
  | nil => intro _ _ _; exact Nat.zero_le _
  | cons a l ih =>
    intro l' hn hs
    obtain ⟨n1, n2⟩ := List.nodup_cons.mp hn
    have ha := hs a List.mem_cons_self
    have h1 := ih (l' := l'.erase a) n2 fun b hb => (List.mem_erase_of_ne (fun e => n1 (by rw [← e]; exact hb))).mpr (hs b (List.mem_cons_of_mem _ hb))
    have h2 := List.length_erase_of_mem ha
    have h3 : 0 < l'.length := List.length_pos_of_mem ha
    rw [List.length_cons]
    omega
theorem nodup_len {hs : List Int} {n : Nat} (nd : hs.Nodup) (r : ∀ u ∈ hs, 0 ≤ u ∧ u < (n : Int)) : hs.length ≤ n := by
  have h1 : (hs.map Int.toNat).Nodup := by
    unfold List.Nodup
    rw [List.pairwise_map]
    refine List.Pairwise.imp_of_mem ?_ nd
    intro a b ha hb ne e
    have := r a ha; have := r b hb
    exact ne (by omega)
  have h2 : ∀ (l : List Nat) (n : Nat), l.Nodup → (∀ x ∈ l, x < n) → l.length ≤ n := by
    intro l n nd r
    have := nodup_sub nd (fun x hx => List.mem_range.mpr (r x hx) : ∀ x ∈ l, x ∈ List.range n)
    rwa [List.length_range] at this
  have := h2 _ n h1 fun x hx => by
    obtain ⟨u, hu, rfl⟩ := List.mem_map.mp hx
    have := r u hu
    omega
  rwa [List.length_map] at this
def spLeft (K : PySem.W.Frag) : Sp := fun vs H Q _ => ∃ (ma : Addr) (m : List Wy) (n : Nat), vs = [.ref ma] ∧ Dt [] H n (.ref ma) (momD m) ∧ m.length ≤ 1000 ∧
  ∀ (p : Addr) (H' : Hp) (out : List Nat), IsStuck m out → H p = none → Same H H' → H' p = some (.lst (out.map iv)) → Q (.ref p) H'
theorem len_law_left (K : PySem.W.Frag) {vs : List V} {H : Hp} {Q : VK} {E : XK} (h : spLeft K vs H Q E) : vs.length = 1 := by
  obtain ⟨ma, m, n, rfl, _⟩ := h
  rfl
theorem rd_law_left (K : PySem.W.Frag) (vs : List V) (H : Hp) (Q : VK) (E : XK) (h : spLeft K vs H Q E) : t_law_left K { nx := fun _ H' => Q .non H', rt := Q } (start ["moment", "hopeful", "k", "many", "task"] vs) H := by
  obtain ⟨ma, m, n, rfl, dm, mz, q⟩ := h
  obtain ⟨_, xs, k0, e0, rfl, hm, _, lm, _, mi⟩ := mom_inv dm
  cases e0
  unfold t_law_left
  repeat kaf_pre
  refine ⟨size_of (by simp), fun p0 n0 => ?_⟩
  repeat kaf_pre
  refine rd_cut (fun σ' H' => ∃ (hs : List Int) (v2 v3 v4 : Option V), σ' = [some (.ref ma), some (.ref p0), v2, v3, v4] ∧ Same H H' ∧ H' p0 = some (.lst (hs.map V.int)) ∧ (∀ u ∈ hs, Dv m u) ∧ (∀ (t : Nat) w, m[t]? = some w → goB w (inF hs) = true → (t : Int) ∈ hs)) ?_ ?_
  · have s0 := same_new (H := H) (o := HO.lst []) n0
    repeat kaf_pre
    refine forR (n := m.length + 1) (by rw [lm]; rfl) (by omega) (fun k σ' H' => ∃ (hs : List Int) (v2 v3 v4 : Option V), σ' = [some (.ref ma), some (.ref p0), v2, v3, v4] ∧ Same H H' ∧ H' p0 = some (.lst (hs.map V.int)) ∧ (∀ u ∈ hs, Dv m u) ∧ hs.Nodup ∧ k ≤ hs.length)
      ⟨[], _, _, _, rfl, s0, upd_same, by simp, List.nodup_nil, Nat.le_refl _⟩ ?_ ?_
    · rintro k σ' H1 hk ⟨hs, v2, v3, v4, rfl, s1, h1, so, nd, kl⟩
      have hm1 := s1 _ _ hm
      repeat kaf_pre
      refine forR (n := m.length) (by rw [lm]) (by omega) (fun i σ' H' => ∃ (h2 : List Int) (v4 : Option V), σ' = [some (.ref ma), some (.ref p0), some (.int (k : Int)), some (.int ((hs.map V.int).length : Nat)), v4] ∧ Same H H' ∧ H' p0 = some (.lst (h2.map V.int)) ∧ (∀ u ∈ h2, Dv m u) ∧ h2.Nodup ∧
        (h2.length = hs.length ∧ h2 = hs ∧ (∀ (t : Nat) w, t < i → m[t]? = some w → goB w (inF hs) = true → (t : Int) ∈ hs) ∨ hs.length < h2.length)) ⟨hs, _, rfl, s1, h1, so, nd, .inl ⟨rfl, rfl, fun t w z => by omega⟩⟩ ?_ ?_
      · rintro i σ' H2 hi ⟨h2, v4, rfl, s2, hp2, so2, nd2, c⟩
        have hw := List.getElem?_eq_getElem hi
        obtain ⟨x, hx, dx⟩ := mi i _ hw
        have hm2 := s2 _ _ hm
        have stay : (goB m[i] (inF h2) = true → (i : Int) ∈ h2) → (h2.length = hs.length ∧ h2 = hs ∧ (∀ (t : Nat) w, t < i + 1 → m[t]? = some w → goB w (inF hs) = true → (t : Int) ∈ hs) ∨ hs.length < h2.length) := fun g => by
          rcases c with ⟨c1, c2, c3⟩ | c
          · refine .inl ⟨c1, c2, fun t w ht hwt hg => ?_⟩
            by_cases e : t = i
            · subst e
              rw [hw] at hwt
              cases hwt
              rw [c2] at g
              exact g hg
            · exact c3 t w (by omega) hwt hg
          · exact .inr c
        repeat kaf_pre
        rw [in_int]
        refine rd_niteB (fun c1 => ?_) (fun c1 => ?_)
        · repeat kaf_pre
          refine ⟨x, p0, m[i], h2, _, rfl, dx.same s2, SqL.of hp2, fun H3 s3 => ?_⟩
          have hp3 := s3 _ _ hp2
          repeat kaf_pre
          refine rd_iteB (fun c2 => ?_) (fun c2 => ?_)
          · repeat kaf_pre
            have nin : (i : Int) ∉ h2 := by simpa using c1
            have d2 : ∀ u ∈ h2 ++ [(i : Int)], Dv m u := fun u hu => by
              rcases List.mem_append.mp hu with hu | hu
              · exact so2 u hu
              · rw [List.mem_singleton.mp hu]; exact go_dv hw so2 c2
            have nd3 : (h2 ++ [(i : Int)]).Nodup := by
              rw [List.nodup_append]
              exact ⟨nd2, by simp, fun a ha b hb e => nin (by rw [List.mem_singleton.mp hb] at e; rw [← e]; exact ha)⟩
            refine rd_append hp3 (size_lt ?_) ?_
            · have := nodup_len nd2 fun u hu => dv_lt (so2 u hu)
              rw [List.length_map]; omega
            repeat kaf_pre
            refine ⟨h2 ++ [(i : Int)], _, rfl, same_mut (s2.trans s3) n0, by rw [List.map_append]; exact upd_same, d2, nd3, .inr ?_⟩
            rw [List.length_append, List.length_singleton]
            rcases c with ⟨c1, _⟩ | c <;> omega
          · repeat kaf_pre
            exact ⟨h2, _, rfl, s2.trans s3, hp3, so2, nd2, stay fun g => by rw [c2] at g; cases g⟩
        · repeat kaf_pre
          exact ⟨h2, _, rfl, s2, hp2, so2, nd2, stay fun _ => by simpa using c1⟩
      · rintro σ' H2 ⟨h2, v4, rfl, s2, hp2, so2, nd2, c⟩
        repeat kaf_pre
        rw [List.length_map, List.length_map]
        refine rd_ite (fun e => ?_) (fun e => ?_)
        · repeat kaf_pre
          rcases c with ⟨c1, c2, c3⟩ | c
          · refine ⟨h2, _, _, _, rfl, s2, hp2, so2, fun t w hw g => ?_⟩
            rw [c2] at g ⊢
            exact c3 t w (List.getElem?_eq_some_iff.mp hw).1 hw g
          · omega
        · repeat kaf_pre
          refine ⟨h2, _, _, _, rfl, s2, hp2, so2, nd2, ?_⟩
          rcases c with ⟨c1, _⟩ | c <;> omega
    · rintro σ' H1 ⟨hs, v2, v3, v4, rfl, s1, h1, so, nd, kl⟩
      have := nodup_len nd fun u hu => dv_lt (so u hu)
      omega
  · rintro σ' H1 ⟨hs, v2, v3, v4, rfl, s1, h1, so, cl⟩
    have hm1 := s1 _ _ hm
    repeat kaf_pre
    refine lcRp (n := m.length) (by rw [lm]) (fun i => !decide ((i : Int) ∈ hs)) iv (by omega) (fun i Dd acc hi hD R r => ?_) (fun i Dd acc hi _ hD R r => ?_) fun Dd hD => ?_
    · have g2 := same_new (o := HO.lst acc) hD
      repeat kaf_pre
      rw [in_int]
      exact r
    · repeat kaf_pre
      exact r
    · refine q Dd _ _ ⟨fun t => decide ((t : Int) ∈ hs), fun t _ => ⟨fun e => so _ (by simpa using e), fun d => by simpa using dv_in cl d⟩, rfl⟩ (s1.free hD) (s1.trans (same_new hD)) upd_same
/- slots of _law_closed: 0 moment, 1 lot, 2 task, 3 way, 4 other -/
def t_law_closed (K : PySem.W.Frag) : TS :=
  (tSeq (tFor (iAny K (tVar 1)) (gName 2) (tSeq (tIfS (tTest (tOp rIsN (tOp (rIx K) (tVar 0) (tVar 2)) (tC .non))) (tRet (tC (.bl false))) tNext)
  (tFor (iAny K (tOp (rIx K) (tVar 0) (tVar 2))) (gName 3) (tIfS (tTest (tOp (rNotInA K) (tC (.bl true)) (tLc (iAny K (tVar 3)) (gName 4) tYes (tOp (rInA K) (tVar 4) (tVar 1)) [4]))) (tRet (tC (.bl false))) tNext))))
  (tRet (tC (.bl true))))
/- slots of _law_goes_on: 0 moment, 1 stuck, 2 gone, 3 k, 4 task -/
def t_law_goes_on (K : PySem.W.Frag) : TS :=
  (tSeq (tAsg (tLst tNil) (gName 2))
  (tSeq (tFor (iRng1 (tCons (tCB (rLen K) (tCons (tVar 0) tNil)) tNil)) (gName 3) (tFor (iRng1 (tCons (tCB (rLen K) (tCons (tVar 0) tNil)) tNil)) (gName 4) (tIfS (tAnd (tTest (tOp (rNotInA K) (tVar 4) (tVar 2))) (tAnd (tTest (tOp (rNotInA K) (tVar 4) (tVar 1))) (tTru K (tCall (spGoes K) [] E0 (tCons (tOp (rIx K) (tVar 0) (tVar 4)) (tCons (tVar 2) tNil)))))) (tSeq (tDrop (tBM K "list" rAppend (tVar 2) (tCons (tVar 4) tNil)))
  tBreak) tNext)))
  (tRet (tOp (rEqA K) (tOp (rAddA K) (tCB (rLen K) (tCons (tVar 2) tNil)) (tCB (rLen K) (tCons (tVar 1) tNil))) (tCB (rLen K) (tCons (tVar 0) tNil))))))
def spClosed (K : PySem.W.Frag) : Sp := fun vs H Q _ => ∃ (ma la : Addr) (m : List Wy) (lot : List Int) (n : Nat), vs = [.ref ma, .ref la] ∧ Dt [] H n (.ref ma) (momD m) ∧ SqL K H la (lot.map V.int) ∧ lot.length ≤ 1000 ∧ (∀ t ∈ lot, okT m.length t = true) ∧
  ∀ H', Same H H' → Q (.bl (closedB m lot)) H'
theorem len_law_closed (K : PySem.W.Frag) {vs : List V} {H : Hp} {Q : VK} {E : XK} (h : spClosed K vs H Q E) : vs.length = 2 := by
  obtain ⟨ma, la, m, lot, n, rfl, _⟩ := h
  rfl
theorem rd_law_closed (K : PySem.W.Frag) (vs : List V) (H : Hp) (Q : VK) (E : XK) (h : spClosed K vs H Q E) : t_law_closed K { nx := fun _ H' => Q .non H', rt := Q } (start ["moment", "lot", "task", "way", "other"] vs) H := by
  obtain ⟨ma, la, m, lot, n, rfl, dm, hl, lz, ok, q⟩ := h
  unfold t_law_closed
  obtain ⟨_, xs, k0, e0, rfl, hm, _, lm, _, mi⟩ := mom_inv dm
  cases e0
  repeat kaf_pre
  refine forL hl (fun i σ' H' => Same H H' ∧ (∃ v2 v3, σ' = [some (.ref ma), some (.ref la), v2, v3, none]) ∧ ∀ t ∈ lot.take i, cloW lot m[t.toNat]? = true) ⟨Same.refl _, ⟨_, _, rfl⟩, by simp⟩ (fun i σ' H' _ h => h.1.seq hl) ?_ ?_
  · rintro i x σ' H2 hi ⟨s2, ⟨v2, v3, rfl⟩, old⟩
    obtain ⟨t, ht, rfl⟩ := at_map hi
    obtain ⟨t0, t1⟩ := okT_iff.mp (ok t (List.mem_of_getElem? ht))
    obtain ⟨k, rfl⟩ := Int.eq_ofNat_of_zero_le t0
    have kl : k < m.length := by omega
    have hw := List.getElem?_eq_getElem kl
    obtain ⟨x, hx, dx⟩ := mi k _ hw
    have hm2 := s2 _ _ hm
    have no : cloW lot m[((k : Int)).toNat]? = false → closedB m lot = false := fun c => by
      unfold closedB
      refine List.all_eq_false.mpr ⟨(k : Int), List.mem_of_getElem? ht, ?_⟩
      rw [c]; decide
    have yes : cloW lot m[((k : Int)).toNat]? = true → ∀ t ∈ lot.take (i + 1), cloW lot m[t.toNat]? = true := fun c u hu => by
      rw [take_end ht] at hu
      rcases List.mem_append.mp hu with hu | hu
      · exact old u hu
      · rw [List.mem_singleton.mp hu]; exact c
    rw [Int.toNat_natCast, hw] at no yes
    generalize hwe : m[k] = w at *
    cases w with
    | none =>
      have e := dx.non_inv
      subst e
      repeat kaf_pre
      rw [← no rfl]
      exact q _ s2
    | some ws =>
      obtain ⟨a, bs, k2, rfl, rfl, ha, _, l, z, e⟩ := ways_inv dx
      have ha2 := s2 _ _ ha
      repeat kaf_pre
      refine forL (SqL.of ha2) (fun j σ' H' => Same H2 H' ∧ (∃ v3, σ' = [some (.ref ma), some (.ref la), some (.int (k : Int)), v3, none]) ∧ ∀ y ∈ ws.take j, (y.any fun u => decide (u ∈ lot)) = true) ⟨Same.refl _, ⟨_, rfl⟩, by simp⟩ (fun i σ' H' _ h => SqL.of (h.1 _ _ ha2)) ?_ ?_
      · rintro j x σ' H3 hj ⟨s3, ⟨v3, rfl⟩, old2⟩
        obtain ⟨b, y, hy, rfl, hb, _, zy⟩ := e j x hj
        have hb3 := s3 _ _ (s2 _ _ hb)
        have hl3 := s3.seq (s2.seq hl)
        repeat kaf_pre
        refine lcLp (SqL.of hb3) (fun _ => true) (iInV lot) (by rw [List.length_map]; exact zy) (fun i x Dd acc hi hD R r => ?_) (fun j x Dd acc hj _ hD R rr => ?_) fun hA nA => ?_
        · exact r
        · obtain ⟨u, hu, rfl⟩ := at_map hj
          have s4 := same_new (o := HO.lst acc) hD
          repeat kaf_pre
          rw [in_int]
          exact rr
        · rw [map_iInV]
          repeat kaf_pre
          rw [bl_nohit]
          refine rd_niteB (fun c => ?_) (fun c => ?_)
          · repeat kaf_pre
            rw [← no (List.all_eq_false.mpr ⟨y, List.mem_of_getElem? hy, by rw [c]; decide⟩)]
            exact q _ ((s2.trans s3).trans (same_new nA))
          · repeat kaf_pre
            refine ⟨s3.trans (same_new nA), ⟨_, rfl⟩, fun y' hy' => ?_⟩
            rw [take_end hy] at hy'
            rcases List.mem_append.mp hy' with m | m
            · exact old2 y' m
            · rw [List.mem_singleton.mp m]; exact c
      · rintro σ' H3 ⟨s3, ⟨v3, rfl⟩, old2⟩
        rw [l, List.take_length] at old2
        exact ⟨s2.trans s3, ⟨_, _, rfl⟩, yes (List.all_eq_true.mpr old2)⟩
  · rintro σ' H2 ⟨s2, ⟨v2, v3, rfl⟩, old⟩
    rw [List.length_map, List.take_length] at old
    repeat kaf_pre
    have g : closedB m lot = true := List.all_eq_true.mpr old
    rw [← g]
    exact q _ s2
def spGoesOn (K : PySem.W.Frag) : Sp := fun vs H Q _ => ∃ (ma sa : Addr) (m : List Wy) (out : List Nat) (n : Nat), vs = [.ref ma, .ref sa] ∧ Dt [] H n (.ref ma) (momD m) ∧ m.length ≤ 1000 ∧ SqL K H sa (out.map iv) ∧ IsStuck m out ∧ ∀ H', Same H H' → Q (.bl true) H'
theorem len_law_goes_on (K : PySem.W.Frag) {vs : List V} {H : Hp} {Q : VK} {E : XK} (h : spGoesOn K vs H Q E) : vs.length = 2 := by
  obtain ⟨ma, sa, m, out, n, rfl, _⟩ := h
  rfl
theorem filter_both (f : Nat → Bool) (l : List Nat) : (l.filter f).length + (l.filter fun t => !f t).length = l.length := by
  induction l with
  | nil => rfl
  | cons a l ih =>
    cases e : f a with
    | true => rw [List.filter_cons_of_pos e, List.filter_cons_of_neg (by rw [e]; decide), List.length_cons, List.length_cons]; omega
    | false => rw [List.filter_cons_of_neg (by rw [e]; decide), List.filter_cons_of_pos (by rw [e]; rfl), List.length_cons, List.length_cons]; omega
theorem gone_all {m : List Wy} {out : List Nat} {hs : List Int} (S : IsStuck m out) (so : ∀ u ∈ hs, Dv m u) (nd : hs.Nodup) (c : m.length ≤ hs.length ∨ ∀ u, Dv m u → u ∈ hs) : hs.length + out.length = m.length := by
  obtain ⟨f, h1, rfl⟩ := S
  have e := filter_both f (List.range m.length)
  rw [List.length_range] at e
  have nd1 : (hs.map Int.toNat).Nodup := by
    unfold List.Nodup
    rw [List.pairwise_map]
    refine List.Pairwise.imp_of_mem ?_ nd
    intro a b ha hb ne e
    have := dv_lt (so a ha); have := dv_lt (so b hb)
    exact ne (by omega)
  have le := nodup_sub nd1 (l' := (List.range m.length).filter f) fun x hx => by
    obtain ⟨u, hu, rfl⟩ := List.mem_map.mp hx
    obtain ⟨a, b⟩ := dv_lt (so u hu)
    refine List.mem_filter.mpr ⟨List.mem_range.mpr (by omega), (h1 _ (by omega)).mpr ?_⟩
    rw [Int.toNat_of_nonneg a]
    exact so u hu
  rw [List.length_map] at le
  rcases c with c | c
  · omega
  · have ge := nodup_sub (l := (List.range m.length).filter f) (l' := hs.map Int.toNat) (List.nodup_range.filter _) fun x hx => by
      obtain ⟨a, b⟩ := List.mem_filter.mp hx
      exact List.mem_map.mpr ⟨(x : Int), c _ ((h1 x (List.mem_range.mp a)).mp b), by simp⟩
    rw [List.length_map] at ge
    omega
theorem rd_law_goes_on (K : PySem.W.Frag) (vs : List V) (H : Hp) (Q : VK) (E : XK) (h : spGoesOn K vs H Q E) : t_law_goes_on K { nx := fun _ H' => Q .non H', rt := Q } (start ["moment", "stuck", "gone", "k", "task"] vs) H := by
  obtain ⟨ma, sa, m, out, n, rfl, dm, mz, hs0, S, q⟩ := h
  obtain ⟨_, xs, k0, e0, rfl, hm, _, lm, _, mi⟩ := mom_inv dm
  cases e0
  unfold t_law_goes_on
  repeat kaf_pre
  refine ⟨size_of (by simp), fun p0 n0 => ?_⟩
  have s0 := same_new (H := H) (o := HO.lst []) n0
  repeat kaf_pre
  refine forR (n := m.length) (by rw [lm]) (by omega) (fun k σ' H' => ∃ (hs : List Int) (v3 v4 : Option V), σ' = [some (.ref ma), some (.ref sa), some (.ref p0), v3, v4] ∧ Same H H' ∧ H' p0 = some (.lst (hs.map V.int)) ∧ (∀ u ∈ hs, Dv m u) ∧ hs.Nodup ∧ (k ≤ hs.length ∨ ∀ u, Dv m u → u ∈ hs))
    ⟨[], _, _, rfl, s0, upd_same, by simp, List.nodup_nil, .inl (Nat.le_refl _)⟩ ?_ ?_
  · rintro k σ' H1 hk ⟨hs, v3, v4, rfl, s1, h1, so, nd, kl⟩
    have hm1 := s1 _ _ hm
    repeat kaf_pre
    refine forR (n := m.length) (by rw [lm]) (by omega) (fun i σ' H' => (∃ v4 : Option V, σ' = [some (.ref ma), some (.ref sa), some (.ref p0), some (.int (k : Int)), v4]) ∧ Same H H' ∧ H' p0 = some (.lst (hs.map V.int)) ∧ ∀ (t : Nat) w, t < i → m[t]? = some w → goB w (inF hs) = true → (t : Int) ∈ hs) ⟨⟨_, rfl⟩, s1, h1, fun t w z => by omega⟩ ?_ ?_
    · rintro i σ' H2 hi ⟨⟨v4, rfl⟩, s2, hp2, c⟩
      have hw := List.getElem?_eq_getElem hi
      obtain ⟨x, hx, dx⟩ := mi i _ hw
      have hm2 := s2 _ _ hm
      have hsa2 := s2.seq hs0
      have stay : (goB m[i] (inF hs) = true → (i : Int) ∈ hs) → ∀ (t : Nat) w, t < i + 1 → m[t]? = some w → goB w (inF hs) = true → (t : Int) ∈ hs := fun g t w ht hwt hg => by
        by_cases e : t = i
        · subst e
          rw [hw] at hwt
          cases hwt
          exact g hg
        · exact c t w (by omega) hwt hg
      repeat kaf_pre
      rw [in_int]
      refine rd_niteB (fun c1 => ?_) (fun c1 => ?_)
      · repeat kaf_pre
        rw [show V.int (i : Int) = iv i from rfl, in_iv]
        refine rd_niteB (fun c2 => ?_) (fun c2 => ?_)
        · repeat kaf_pre
          refine ⟨x, p0, m[i], hs, _, rfl, dx.same s2, SqL.of hp2, fun H3 s3 => ?_⟩
          have hp3 := s3 _ _ hp2
          repeat kaf_pre
          refine rd_iteB (fun c3 => ?_) (fun c3 => ?_)
          · repeat kaf_pre
            have nin : (i : Int) ∉ hs := by simpa using c1
            refine rd_append hp3 (size_lt ?_) ?_
            · have := nodup_len nd fun u hu => dv_lt (so u hu)
              rw [List.length_map]; omega
            repeat kaf_pre
            refine ⟨hs ++ [(i : Int)], _, _, rfl, same_mut (s2.trans s3) n0, by rw [List.map_append]; exact upd_same, fun u hu => ?_, ?_, ?_⟩
            · rcases List.mem_append.mp hu with hu | hu
              · exact so u hu
              · rw [List.mem_singleton.mp hu]; exact go_dv hw so c3
            · rw [List.nodup_append]
              exact ⟨nd, by simp, fun a ha b hb e => nin (by rw [List.mem_singleton.mp hb] at e; rw [← e]; exact ha)⟩
            · rcases kl with kl | kl
              · exact .inl (by rw [List.length_append, List.length_singleton]; omega)
              · exact absurd (kl _ (go_dv hw so c3)) nin
          · repeat kaf_pre
            exact ⟨⟨_, rfl⟩, s2.trans s3, hp3, stay fun g => by rw [c3] at g; cases g⟩
        · repeat kaf_pre
          refine ⟨⟨_, rfl⟩, s2, hp2, stay fun g => ?_⟩
          have := (S.mem.mp (by simpa using c2 : i ∈ out)).2
          exact absurd (go_dv hw so g) this
      · repeat kaf_pre
        exact ⟨⟨_, rfl⟩, s2, hp2, stay fun _ => by simpa using c1⟩
    · rintro σ' H2 ⟨⟨v4, rfl⟩, s2, hp2, c⟩
      exact ⟨hs, _, _, rfl, s2, hp2, so, nd, .inr fun u hu => dv_in (fun t w hw g => c t w (List.getElem?_eq_some_iff.mp hw).1 hw g) hu⟩
  · rintro σ' H1 ⟨hs, v3, v4, rfl, s1, h1, so, nd, kl⟩
    have hm1 := s1 _ _ hm
    have hsa1 := s1.seq hs0
    have e := gone_all S so nd kl
    repeat kaf_pre
    rw [List.length_map, List.length_map, lm, decide_eq_true (by omega)]
    exact q _ s1
/-! ### many draws -/
theorem st_none {st p : Addr} {H H' : Hp} {o : HO} (B : But [st] H H') (hs : H' st = some o) (f : H' p = none) : H p = none := But.none B (fun x hx => by rw [List.mem_singleton.mp hx, hs]; exact fun z => by cases z) f
theorem al_st {st : Addr} {H H' : Hp} {M : List Addr} {o : HO} (al : Al H M) (B : But [st] H H') (hs : H' st = some o) : Al H' M := al.but B fun x hx => by rw [List.mem_singleton.mp hx, hs]; exact fun z => by cases z
theorem Al.cons {H : Hp} {M : List Addr} {p : Addr} {o : HO} (al : Al H M) (h : H p = some o) : Al H (p :: M) := fun x hx => by
  rcases List.mem_cons.mp hx with e | e
  · rw [e, h]; exact fun z => by cases z
  · exact al x e
theorem Al.nil {H : Hp} : Al H [] := fun x hx => by cases hx
/-- [_law_draw(state, m) for j in range(n)] -/
theorem lc_draws {σ : L2.St} {j : Nat} {te : TE} {H : Hp} {Q : VK} {st sc : Addr} {m : Int} {ns : List Int} {a : Nat} {b c d : Int} {n : Nat} {z : Int} (hz : z = (n : Int)) (hst : H st = some (StO sc a b c d)) (hsc : H sc = some (.lst (ns.map V.int))) (m0 : 0 < m) (m1 : m < 1000000000) (hn : n ≤ 1000)
    (hte : ∀ (v : Option V) (H : Hp) (R : VK), spDraw [.ref st, .int m] H R E0 → te ((wipe σ [j]).set j v) H R)
    (q : ∀ (Dd : Addr) (acc : List Int) (a : Nat) (b c d : Int) (H' : Hp), H Dd = none → H' Dd = some (.lst (acc.map V.int)) → acc.length = n → (∀ t ∈ acc, 0 ≤ t ∧ t < m) → H' st = some (StO sc a b c d) → But [st] H H' → Q (.ref Dd) H') :
    LcR1 [.int z] (gName j) tYes te [j] σ H Q := by
  have ne := st_ne hst hsc
  refine lcR hz (by omega) fun Dd hD => ⟨fun i H' => ∃ (acc : List Int) (a : Nat) (b c d : Int), H' Dd = some (.lst (acc.map V.int)) ∧ acc.length = i ∧ (∀ t ∈ acc, 0 ≤ t ∧ t < m) ∧ H' st = some (StO sc a b c d) ∧ But [st] H H',
    ⟨[], a, b, c, d, upd_same, rfl, by simp, by rw [upd_ne (ne_of_none hst hD)]; exact hst, (But.refl _ _).new hD⟩, ?_, ?_⟩
  · rintro i H1 hi ⟨acc, a, b, c, d, hd, la, ha, hs, B⟩
    have dst : Dd ≠ st := (ne_of_none hst hD).symm
    refine ⟨wipe1 _ _ _, rd_yes (rd_ite1 (hte _ _ _ ⟨st, m, sc, ns, a, b, c, d, rfl, m0, m1, hs, But.off B _ _ ne hsc, fun r a' b' c' d' H2 r0 r1 hs2 B2 => ?_⟩))⟩
    have hd2 := But.off B2 _ _ dst hd
    refine ⟨acc.map V.int, hd2, size_lt (by rw [List.length_map]; omega), acc ++ [r], a', b', c', d', by rw [List.map_append]; exact upd_same, by rw [List.length_append, List.length_singleton, la], fun t ht => ?_, by rw [upd_ne dst.symm]; exact hs2, (B.trans B2).new hD⟩
    rcases List.mem_append.mp ht with ht | ht
    · exact ha t ht
    · rw [List.mem_singleton.mp ht]; exact ⟨r0, r1⟩
  · rintro H1 ⟨acc, a, b, c, d, hd, la, ha, hs, B⟩
    exact q Dd acc a b c d H1 hD hd la ha hs B
/- slots of _law_copied_ways: 0 ways, 1 way -/
def t_law_copied_ways (K : PySem.W.Frag) : TS :=
  (tSeq (tIfS (tTest (tOp rIsN (tVar 0) (tC .non))) (tRet (tC .non)) tNext)
  (tRet (tLc (iAny K (tVar 0)) (gName 1) tYes (tCB (rListOf K) (tCons (tVar 1) tNil)) [1])))
def spCopied (K : PySem.W.Frag) : Sp := fun vs H Q _ => ∃ (v : V) (w : Wy) (n : Nat), vs = [v] ∧ Dt [] H n v (wyD w) ∧ ∀ (x : V) (H' : Hp), (∀ M, Al H M → Dt M H' 2 x (wyD w)) → Same H H' → Q x H'
theorem len_law_copied_ways (K : PySem.W.Frag) {vs : List V} {H : Hp} {Q : VK} {E : XK} (h : spCopied K vs H Q E) : vs.length = 1 := by
  obtain ⟨v, w, n, rfl, _⟩ := h
  rfl
theorem rd_law_copied_ways (K : PySem.W.Frag) (vs : List V) (H : Hp) (Q : VK) (E : XK) (h : spCopied K vs H Q E) : t_law_copied_ways K { nx := fun _ H' => Q .non H', rt := Q } (start ["ways", "way"] vs) H := by
  obtain ⟨v, w, n, rfl, d, q⟩ := h
  unfold t_law_copied_ways
  cases w with
  | none =>
    have e := d.non_inv
    subst e
    repeat kaf_pre
    exact q _ _ (fun _ _ => .non) (Same.refl H)
  | some ws =>
    obtain ⟨a, xs, k, rfl, rfl, ha, _, l, z, e⟩ := ways_inv d
    repeat kaf_pre
    refine lcL (SqL.of ha) fun Dd hD => ⟨fun i H' => ∃ acc : List V, H' Dd = some (.lst acc) ∧ acc.length = i ∧ Same H H' ∧ ∀ M, Al H M → ∀ (j : Nat) v d, acc[j]? = some v → ((ws.take i).map fun y => PyData.list (y.map .int))[j]? = some d → Dt (Dd :: M) H' 1 v d,
      ⟨[], upd_same, rfl, same_new hD, fun M al j v d e => by simp at e⟩, fun i H' hi ⟨_, _, _, s, _⟩ => SqL.of (s _ _ ha), ?_, ?_⟩
    · rintro i x H1 hi ⟨acc, hd, la, s, pw⟩
      obtain ⟨b, y, hy, rfl, hb, _, zy⟩ := e i x hi
      have hb1 := s _ _ hb
      have il : i < xs.length := (List.getElem?_eq_some_iff.mp hi).1
      refine ⟨wipe1 _ _ _, ?_⟩
      repeat kaf_pre
      intro c nc
      have dc : Dd ≠ c := ne_of_none hd nc
      have s2 := s.trans (same_new (o := HO.lst (y.map V.int)) nc)
      refine ⟨acc, by rw [upd_ne dc]; exact hd, size_lt (by omega), acc ++ [.ref c], upd_same, by rw [List.length_append, List.length_singleton, la], same_mut s2 hD, fun M al => ?_⟩
      have B1 : But (Dd :: M) H1 (upd (upd H1 c (.lst (y.map V.int))) Dd (.lst (acc ++ [.ref c]))) := ((But.refl _ _).new nc).set List.mem_cons_self
      have al1 : Al H1 (Dd :: M) := Al.cons (al.but (But.of s (l := [])) (by simp)) hd
      rw [take_end hy, List.map_append]
      refine dts_snoc (by rw [List.length_map, List.length_take, la]; omega) (fun j v d e1 e2 => (pw M al j v d e1 e2).keep B1) ?_
      exact Dt.ints (n := 0) (by rw [upd_ne dc.symm]; exact upd_same) (al1.off nc) zy
    · rintro H1 ⟨acc, hd, la, s, pw⟩
      rw [l, List.take_length] at pw
      refine q _ _ (fun M al => ?_) s
      exact .lst hd (al.off hD) (by rw [List.length_map, la, l]) (by rw [List.length_map]; exact z) fun j v d e1 e2 => (pw M al j v d e1 e2).sub fun x hx => List.mem_cons_of_mem _ hx
/- slots of _law_drawn_ways: 0 state, 1 size, 2 ways, 3 k, 4 many, 5 j -/
def t_law_drawn_ways (K : PySem.W.Frag) : TS :=
  (tSeq (tAsg (tLst tNil) (gName 2))
  (tSeq (tFor (iRng1 (tCons (tOp (rIx K) (tLst (tCons (tC (.int 1)) (tCons (tC (.int 1)) (tCons (tC (.int 2)) (tCons (tC (.int 3)) (tCons (tC (.int 0)) (tCons (tC (.int 1)) tNil))))))) (tCall (spDraw) [] E0 (tCons (tVar 0) (tCons (tC (.int 6)) tNil)))) tNil)) (gName 3) (tSeq (tAsg (tOp (rIx K) (tLst (tCons (tC (.int 1)) (tCons (tC (.int 1)) (tCons (tC (.int 2)) (tCons (tC (.int 3)) (tCons (tC (.int 1)) (tCons (tC (.int 2)) (tCons (tC (.int 0)) (tCons (tC (.int 1)) tNil))))))))) (tCall (spDraw) [] E0 (tCons (tVar 0) (tCons (tC (.int 8)) tNil)))) (gName 4))
  (tDrop (tBM K "list" rAppend (tVar 2) (tCons (tLc (iRng1 (tCons (tVar 4) tNil)) (gName 5) tYes (tCall (spDraw) [] E0 (tCons (tVar 0) (tCons (tVar 1) tNil))) [5]) tNil)))))
  (tRet (tVar 2))))
def spWays : Sp := fun vs H Q _ => ∃ (st sc : Addr) (ns : List Int) (a : Nat) (b c d : Int) (size : Int), vs = [.ref st, .int size] ∧ 0 < size ∧ size < 100000 ∧ H st = some (StO sc a b c d) ∧ H sc = some (.lst (ns.map V.int)) ∧
  ∀ (x : V) (ws : List (List Int)) (H' : Hp) (a : Nat) (b c d : Int), (∀ y ∈ ws, ∀ t ∈ y, 0 ≤ t ∧ t < size) → (∀ M, Al H M → Dt M H' 2 x (wsD ws)) → H' st = some (StO sc a b c d) → But [st] H H' → Q x H'
theorem len_law_drawn_ways (K : PySem.W.Frag) {vs : List V} {H : Hp} {Q : VK} {E : XK} (h : spWays vs H Q E) : vs.length = 2 := by
  obtain ⟨st, sc, ns, a, b, c, d, size, rfl, _⟩ := h
  rfl
theorem rd_law_drawn_ways (K : PySem.W.Frag) (vs : List V) (H : Hp) (Q : VK) (E : XK) (h : spWays vs H Q E) : t_law_drawn_ways K { nx := fun _ H' => Q .non H', rt := Q } (start ["state", "size", "ways", "k", "many", "j"] vs) H := by
  obtain ⟨st, sc, ns, a, b, c, d, size, rfl, z0, z1, hst, hsc, q⟩ := h
  have ne := st_ne hst hsc
  unfold t_law_drawn_ways
  repeat kaf_pre
  refine ⟨size_of (by simp), fun p0 n0 => ?_⟩
  have hst0 : upd H p0 (.lst []) st = _ := same_new n0 _ _ hst
  have hsc0 : upd H p0 (.lst []) sc = _ := same_new n0 _ _ hsc
  have p0st : p0 ≠ st := (ne_of_none hst n0).symm
  repeat kaf_pre
  refine ⟨size_of (by simp), fun p1 n1 => ?_⟩
  have s1 := same_new (o := HO.lst [.int 1, .int 1, .int 2, .int 3, .int 0, .int 1]) n1
  have hst1 := s1 _ _ hst0
  have hsc1 := s1 _ _ hsc0
  have hp01 := s1 _ _ (upd_same (H := H) (a := p0) (o := .lst []))
  repeat kaf_pre
  refine ⟨st, 6, sc, ns, a, b, c, d, rfl, by omega, by omega, hst1, hsc1, fun r a b c d H2 r0 r1 hst2 B2 => ?_⟩
  have p1st : p1 ≠ st := (ne_of_none hst0 n1).symm
  have hp12 := But.off B2 _ _ p1st (upd_same (a := p1) (o := HO.lst [.int 1, .int 1, .int 2, .int 3, .int 0, .int 1]))
  obtain ⟨cn, cm, ce⟩ := lit_at [1, 1, 2, 3, 0, 1] r0 r1
  refine rd_ixL (SqL.of hp12) ce ?_
  repeat kaf_pre
  have cn3 : 0 ≤ cn ∧ cn ≤ 3 := by revert cm; simp; omega
  have BB : But [st] H H2 := ((But.of (same_new n0)).trans (But.of s1)).trans B2
  have hp02 := But.off B2 _ _ p0st hp01
  refine forR (n := cn.toNat) (by omega) (by omega) (fun k σ' H' => ∃ (ws : List (List Int)) (xs : List V) (v3 v4 : Option V) (a : Nat) (b c d : Int), σ' = [some (.ref st), some (.int size), some (.ref p0), v3, v4, none] ∧ H' p0 = some (.lst xs) ∧ xs.length = ws.length ∧ ws.length = k ∧
      (∀ y ∈ ws, ∀ t ∈ y, 0 ≤ t ∧ t < size) ∧ H' st = some (StO sc a b c d) ∧ But [st] H H' ∧ ∀ M, Al H M → ∀ (i : Nat) v d, xs[i]? = some v → (ws.map fun y => PyData.list (y.map .int))[i]? = some d → Dt (p0 :: st :: M) H' 1 v d)
    ⟨[], [], _, _, a, b, c, d, rfl, hp02, rfl, rfl, by simp, hst2, BB, fun M al i v d e => by simp at e⟩ ?_ ?_
  · rintro k σ' H3 hk ⟨ws, xs, v3, v4, a, b, c, d, rfl, h0, lx, lk, hr, hst3, B3, pw⟩
    have hsc3 := But.off B3 _ _ ne hsc
    repeat kaf_pre
    refine ⟨size_of (by simp), fun p2 n2 => ?_⟩
    have s2 := same_new (o := HO.lst [.int 1, .int 1, .int 2, .int 3, .int 1, .int 2, .int 0, .int 1]) n2
    have p2st : p2 ≠ st := (ne_of_none hst3 n2).symm
    repeat kaf_pre
    refine ⟨st, 8, sc, ns, a, b, c, d, rfl, by omega, by omega, s2 _ _ hst3, s2 _ _ hsc3, fun r a b c d H4 r0 r1 hst4 B4 => ?_⟩
    have hp24 := But.off B4 _ _ p2st (upd_same (a := p2) (o := HO.lst [.int 1, .int 1, .int 2, .int 3, .int 1, .int 2, .int 0, .int 1]))
    obtain ⟨cm, cmm, ce⟩ := lit_at [1, 1, 2, 3, 1, 2, 0, 1] r0 r1
    refine rd_ixL (SqL.of hp24) ce ?_
    have cm3 : 0 ≤ cm ∧ cm ≤ 3 := by revert cmm; simp; omega
    have B34 : But [st] H3 H4 := (But.of s2).trans B4
    repeat kaf_pre
    refine lc_draws (n := cm.toNat) (m := size) (by omega) hst4 (But.off (B3.trans B34) _ _ ne hsc) z0 (by omega) (by omega) (fun v H R h => by (repeat kaf_pre); exact h) fun Dd acc a b c d H5 nD hD la ha hst5 B5 => ?_
    have B35 := B34.trans B5
    have h05 := But.off B35 _ _ p0st h0
    have hDd : Dd ≠ p0 := (ne_of_none (But.off B34 _ _ p0st h0) nD).symm
    have nD3 := st_none B34 hst4 nD
    repeat kaf_pre
    refine rd_append h05 (size_lt (by omega)) ?_
    repeat kaf_pre
    refine ⟨ws ++ [acc], xs ++ [.ref Dd], _, _, a, b, c, d, rfl, upd_same, by rw [List.length_append, List.length_append, lx]; rfl, by rw [List.length_append, lk]; rfl, fun y hy => ?_, by rw [upd_ne p0st.symm]; exact hst5, (B3.trans B35).new n0, fun M al => ?_⟩
    · rcases List.mem_append.mp hy with hy | hy
      · exact hr y hy
      · rw [List.mem_singleton.mp hy]; exact ha
    · rw [List.map_append]
      have Bp : But (p0 :: st :: M) H3 (upd H5 p0 (.lst (xs ++ [.ref Dd]))) := (B35.sub (by simp)).set List.mem_cons_self
      refine dts_snoc (by rw [List.length_map, lx]) (fun i v d e1 e2 => (pw M al i v d e1 e2).keep Bp) ?_
      have al3 : Al H3 (p0 :: st :: M) := Al.cons (Al.cons (al_st al B3 hst3) hst3) h0
      exact Dt.ints (n := 0) (by rw [upd_ne hDd]; exact hD) (al3.off nD3) (by omega)
  · rintro σ' H3 ⟨ws, xs, v3, v4, a, b, c, d, rfl, h0, lx, lk, hr, hst3, B3, pw⟩
    repeat kaf_pre
    refine q _ ws H3 a b c d hr (fun M al => ?_) hst3 B3
    exact .lst h0 (al.off n0) (by rw [List.length_map, lx]) (by rw [List.length_map]; omega) fun i v d e1 e2 => (pw M al i v d e1 e2).sub fun x hx => List.mem_cons_of_mem _ (List.mem_cons_of_mem _ hx)
def spMoment : Sp := fun vs H Q _ => ∃ (st sc : Addr) (ns : List Int) (a : Nat) (b c d : Int) (n : Nat), vs = [.ref st, .int (n : Int)] ∧ n ≤ 1000 ∧ H st = some (StO sc a b c d) ∧ H sc = some (.lst (ns.map V.int)) ∧
  ∀ (x : Addr) (m : List Wy) (H' : Hp) (a : Nat) (b c d : Int), m.length = n → (∀ w ∈ m, InR n w) → (∀ M, Al H M → Dt M H' 3 (.ref x) (momD m)) → H' st = some (StO sc a b c d) → But [st] H H' → Q (.ref x) H'
theorem len_law_drawn_moment (K : PySem.W.Frag) {vs : List V} {H : Hp} {Q : VK} {E : XK} (h : spMoment vs H Q E) : vs.length = 2 := by
  obtain ⟨st, sc, ns, a, b, c, d, n, rfl, _⟩ := h
  rfl
/- slots of _law_drawn_moment: 0 state, 1 size, 2 moment, 3 k -/
def t_law_drawn_moment (K : PySem.W.Frag) : TS :=
  (tSeq (tAsg (tLst tNil) (gName 2))
  (tSeq (tFor (iRng1 (tCons (tVar 1) tNil)) (gName 3) (tIfS (tTest (tOp (rEqA K) (tCall (spDraw) [] E0 (tCons (tVar 0) (tCons (tC (.int 4)) tNil))) (tC (.int 3)))) (tDrop (tBM K "list" rAppend (tVar 2) (tCons (tC .non) tNil))) (tDrop (tBM K "list" rAppend (tVar 2) (tCons (tCall (spWays) [] E0 (tCons (tVar 0) (tCons (tVar 1) tNil))) tNil)))))
  (tRet (tVar 2))))
theorem rd_law_drawn_moment (K : PySem.W.Frag) (vs : List V) (H : Hp) (Q : VK) (E : XK) (h : spMoment vs H Q E) : t_law_drawn_moment K { nx := fun _ H' => Q .non H', rt := Q } (start ["state", "size", "moment", "k"] vs) H := by
  obtain ⟨st, sc, ns, a, b, c, d, n, rfl, nz, hst, hsc, q⟩ := h
  have ne := st_ne hst hsc
  unfold t_law_drawn_moment
  repeat kaf_pre
  refine ⟨size_of (by simp), fun p0 n0 => ?_⟩
  have p0st : p0 ≠ st := (ne_of_none hst n0).symm
  repeat kaf_pre
  refine forR (n := n) rfl (by omega) (fun k σ' H' => ∃ (m : List Wy) (xs : List V) (v3 : Option V) (a : Nat) (b c d : Int), σ' = [some (.ref st), some (.int (n : Int)), some (.ref p0), v3] ∧ H' p0 = some (.lst xs) ∧ xs.length = m.length ∧ m.length = k ∧
      (∀ w ∈ m, InR n w) ∧ H' st = some (StO sc a b c d) ∧ But [st] H H' ∧ ∀ M, Al H M → ∀ (i : Nat) v d, xs[i]? = some v → (m.map wyD)[i]? = some d → Dt (p0 :: st :: M) H' 2 v d)
    ⟨[], [], _, a, b, c, d, rfl, upd_same, rfl, rfl, by simp, same_new n0 _ _ hst, But.of (same_new n0), fun M al i v d e => by simp at e⟩ ?_ ?_
  · rintro k σ' H3 hk ⟨m, xs, v3, a, b, c, d, rfl, h0, lx, lk, hr, hst3, B3, pw⟩
    have hsc3 := But.off B3 _ _ ne hsc
    have put : ∀ (H5 : Hp) (x : V) (w : Wy) (a : Nat) (b c d : Int), But [st] H3 H5 → H5 st = some (StO sc a b c d) → InR n w → (∀ M, Al H3 M → Dt M H5 2 x (wyD w)) →
        ∃ (m : List Wy) (xs' : List V) (v3 : Option V) (a : Nat) (b c d : Int), ([some (.ref st), some (.int (n : Int)), some (.ref p0), some (.int (k : Int))] : L2.St) = [some (.ref st), some (.int (n : Int)), some (.ref p0), v3] ∧ upd H5 p0 (.lst (xs ++ [x])) p0 = some (.lst xs') ∧ xs'.length = m.length ∧ m.length = k + 1 ∧
        (∀ w ∈ m, InR n w) ∧ upd H5 p0 (.lst (xs ++ [x])) st = some (StO sc a b c d) ∧ But [st] H (upd H5 p0 (.lst (xs ++ [x]))) ∧ ∀ M, Al H M → ∀ (i : Nat) v d, xs'[i]? = some v → (m.map wyD)[i]? = some d → Dt (p0 :: st :: M) (upd H5 p0 (.lst (xs ++ [x]))) 2 v d := by
      intro H5 x w a b c d B35 hst5 iw dw
      refine ⟨m ++ [w], xs ++ [x], _, a, b, c, d, rfl, upd_same, by rw [List.length_append, List.length_append, lx]; rfl, by rw [List.length_append, lk]; rfl, fun y hy => ?_, by rw [upd_ne p0st.symm]; exact hst5, (B3.trans B35).new n0, fun M al => ?_⟩
      · rcases List.mem_append.mp hy with hy | hy
        · exact hr y hy
        · rw [List.mem_singleton.mp hy]; exact iw
      · rw [List.map_append]
        have Bp : But (p0 :: st :: M) H3 (upd H5 p0 (.lst (xs ++ [x]))) := (B35.sub (by simp)).set List.mem_cons_self
        have al3 : Al H3 (p0 :: st :: M) := Al.cons (Al.cons (al_st al B3 hst3) hst3) h0
        exact dts_snoc (by rw [List.length_map, lx]) (fun i v d e1 e2 => (pw M al i v d e1 e2).keep Bp) ((dw _ al3).keep ((But.refl _ _).set List.mem_cons_self))
    repeat kaf_pre
    refine ⟨st, 4, sc, ns, a, b, c, d, rfl, by omega, by omega, hst3, hsc3, fun r a b c d H4 r0 r1 hst4 B4 => ?_⟩
    have h04 := But.off B4 _ _ p0st h0
    repeat kaf_pre
    refine rd_ite (fun e => ?_) (fun e => ?_)
    · repeat kaf_pre
      refine rd_append h04 (size_lt (by omega)) ?_
      repeat kaf_pre
      exact put H4 .non none a b c d B4 hst4 (fun ws z => by cases z) fun M _ => .non
    · repeat kaf_pre
      refine ⟨st, sc, ns, a, b, c, d, (n : Int), rfl, by omega, by omega, hst4, But.off (B3.trans B4) _ _ ne hsc, fun x ws H5 a b c d hw dw hst5 B5 => ?_⟩
      repeat kaf_pre
      refine rd_append (But.off B5 _ _ p0st h04) (size_lt (by omega)) ?_
      repeat kaf_pre
      exact put H5 x (some ws) a b c d (B4.trans B5) hst5 (fun ws' z => by cases z; exact hw) fun M al => dw M (al_st al B4 hst4)
  · rintro σ' H3 ⟨m, xs, v3, a, b, c, d, rfl, h0, lx, lk, hr, hst3, B3, pw⟩
    repeat kaf_pre
    refine q _ m H3 a b c d lk hr (fun M al => ?_) hst3 B3
    exact .lst h0 (al.off n0) (by rw [List.length_map, lx]) (by rw [List.length_map]; omega) fun i v d e1 e2 => (pw M al i v d e1 e2).sub fun x hx => List.mem_cons_of_mem _ (List.mem_cons_of_mem _ hx)
/- slots of _law_lots: 0 state, 1 size, 2 lots, 3 bits, 4 task, 5 number, 6 one, 7 j, 8 k -/
def t_law_lots (K : PySem.W.Frag) : TS :=
  (tSeq (tIfS (tTest (tOp rLtI (tVar 1) (tC (.int 7)))) (tSeq (tAsg (tLst tNil) (gName 2))
  (tSeq (tAsg (tLst (tCons (tC (.int 0)) tNil)) (gName 3))
  (tSeq (tFor (iRng1 (tCons (tVar 1) tNil)) (gName 4) (tAsg (tOp (rAddA K) (tVar 3) (tLc (iAny K (tVar 3)) (gName 6) tYes (tOp (rAddA K) (tVar 6) (tOp (rIx K) (tLst (tCons (tC (.int 1)) (tCons (tC (.int 2)) (tCons (tC (.int 4)) (tCons (tC (.int 8)) (tCons (tC (.int 16)) (tCons (tC (.int 32)) tNil))))))) (tVar 4))) [6])) (gName 3)))
  (tSeq (tFor (iAny K (tVar 3)) (gName 5) (tDrop (tBM K "list" rAppend (tVar 2) (tCons (tLc (iRng1 (tCons (tVar 1) tNil)) (gName 4) (tTest (tOp (rEqA K) (tOp rModI (tCB rInt1 (tCons (tOp rDivI (tVar 5) (tOp (rIx K) (tLst (tCons (tC (.int 1)) (tCons (tC (.int 2)) (tCons (tC (.int 4)) (tCons (tC (.int 8)) (tCons (tC (.int 16)) (tCons (tC (.int 32)) tNil))))))) (tVar 4))) tNil)) (tC (.int 2))) (tC (.int 1)))) (tVar 4) [4]) tNil))))
  (tRet (tVar 2)))))) tNext)
  (tRet (tLc (iRng1 (tCons (tC (.int 40)) tNil)) (gName 7) tYes (tLc (iRng1 (tCons (tOp (rAddA K) (tC (.int 1)) (tCall (spDraw) [] E0 (tCons (tVar 0) (tCons (tVar 1) tNil)))) tNil)) (gName 8) tYes (tCall (spDraw) [] E0 (tCons (tVar 0) (tCons (tVar 1) tNil))) [8]) [7])))
def spLots (K : PySem.W.Frag) : Sp := fun vs H Q _ => ∃ (st sc : Addr) (ns : List Int) (a : Nat) (b c d : Int) (n : Nat), vs = [.ref st, .int (n : Int)] ∧ n ≤ 100 ∧ H st = some (StO sc a b c d) ∧ H sc = some (.lst (ns.map V.int)) ∧
  ∀ (x : Addr) (ws : List (List Int)) (H' : Hp) (a : Nat) (b c d : Int), (∀ y ∈ ws, y.length ≤ 100 ∧ ∀ t ∈ y, 0 ≤ t ∧ t < (n : Int)) → (∀ M, Al H M → Dt M H' 2 (.ref x) (wsD ws)) → H' st = some (StO sc a b c d) → But [st] H H' → ws.length ≤ 1000 → Q (.ref x) H'
theorem len_law_lots (K : PySem.W.Frag) {vs : List V} {H : Hp} {Q : VK} {E : XK} (h : spLots K vs H Q E) : vs.length = 2 := by
  obtain ⟨st, sc, ns, a, b, c, d, n, rfl, _⟩ := h
  rfl
def addV (c : Int) : V → V
  | .int t => .int (t + c)
  | _ => .non
theorem map_addV (c : Int) (zs : List Int) : ((zs.map V.int).filter fun _ => true).map (addV c) = (zs.map fun t => t + c).map V.int := by
  rw [List.filter_eq_self.mpr (fun _ _ => rfl), List.map_map, List.map_map]
  rfl
theorem map_iv_int (l : List Nat) : l.map iv = (l.map fun (t : Nat) => (t : Int)).map V.int := by rw [List.map_map]; rfl
theorem rd_law_lots (K : PySem.W.Frag) (vs : List V) (H : Hp) (Q : VK) (E : XK) (h : spLots K vs H Q E) : t_law_lots K { nx := fun _ H' => Q .non H', rt := Q } (start ["state", "size", "lots", "bits", "task", "number", "one", "j", "k"] vs) H := by
  obtain ⟨st, sc, ns, a, b, c, d, n, rfl, nz, hst, hsc, q⟩ := h
  have ne := st_ne hst hsc
  unfold t_law_lots
  repeat kaf_pre
  refine rd_ite (fun small => ?_) (fun big => ?_)
  · repeat kaf_pre
    refine ⟨size_of (by simp), fun p0 n0 => ?_⟩
    repeat kaf_pre
    refine ⟨size_of (by simp), fun p1 n1 => ?_⟩
    have s1 : Same H (upd (upd H p0 (.lst [])) p1 (.lst [.int 0])) := (same_new n0).trans (same_new n1)
    have p01 : p0 ≠ p1 := ne_of_none upd_same n1
    repeat kaf_pre
    refine forR (n := n) rfl (by omega) (fun k σ' H' => ∃ (v4 : Option V) (pb : Addr) (zs : List Int), σ' = [some (.ref st), some (.int (n : Int)), some (.ref p0), some (.ref pb), v4, none, none, none, none] ∧ Same (upd H p0 (.lst [])) H' ∧ H' pb = some (.lst (zs.map V.int)) ∧ zs.length ≤ 2 ^ k ∧ pb ≠ p0)
      ⟨_, p1, [0], rfl, same_new n1, upd_same, Nat.le_refl _, p01.symm⟩ ?_ ?_
    · rintro k σ' H1 hk ⟨v4, pb, zs, rfl, s, hb, lz, pbp0⟩
      have k6 : k < 6 := by omega
      have l64 : zs.length ≤ 64 := Nat.le_trans lz (Nat.pow_le_pow_right (by omega) (by omega : k ≤ 6))
      repeat kaf_pre
      refine lcLs (SqL.of hb) (fun _ => true) (addV ([1, 2, 4, 8, 16, 32].getD k 0)) (by rw [List.length_map]; omega) (fun i x H2 hi s2 R r => r _ (Same.refl _)) (fun i x H2 hi _ s2 R r => ?_) fun Dd H2 nD s2 hD => ?_
      · obtain ⟨t, ht, rfl⟩ := at_map hi
        repeat kaf_pre
        refine ⟨size_of (by simp), fun p2 n2 => ?_⟩
        repeat kaf_pre
        refine rd_ixL (SqL.of upd_same) (lit_nat [1, 2, 4, 8, 16, 32] (i := k) k6) ?_
        repeat kaf_pre
        exact r _ (same_new n2)
      · rw [map_addV] at hD
        refine rd_addL (s2 _ _ hb) hD (size_of (by simp only [List.length_map]; omega)) fun r nr => ?_
        repeat kaf_pre
        refine ⟨_, r, zs ++ zs.map (fun t => t + [1, 2, 4, 8, 16, 32].getD k 0), rfl, (s.trans s2).trans (same_new nr), by rw [List.map_append]; exact upd_same, ?_, (ne_of_none (s2 _ _ (s _ _ upd_same)) nr).symm⟩
        rw [List.length_append, List.length_map, Nat.pow_succ]
        omega
    · rintro σ' H1 ⟨v4, pb, zs, rfl, s, hb, lz, pbp0⟩
      have l64 : zs.length ≤ 64 := Nat.le_trans lz (Nat.pow_le_pow_right (by omega) (by omega : n ≤ 6))
      repeat kaf_pre
      refine forL (SqL.of hb) (fun k σ' H' => ∃ (v5 v4 : Option V) (ws : List (List Int)) (xs : List V), σ' = [some (.ref st), some (.int (n : Int)), some (.ref p0), some (.ref pb), v4, v5, none, none, none] ∧ But [p0] H1 H' ∧ H' p0 = some (.lst xs) ∧ xs.length = ws.length ∧ ws.length = k ∧
          (∀ y ∈ ws, y.length ≤ 100 ∧ ∀ t ∈ y, 0 ≤ t ∧ t < (n : Int)) ∧ ∀ M, Al H M → ∀ (i : Nat) v d, xs[i]? = some v → (ws.map fun y => PyData.list (y.map .int))[i]? = some d → Dt (p0 :: M) H' 1 v d)
        ⟨_, _, [], [], rfl, But.refl _ _, s _ _ upd_same, rfl, rfl, by simp, fun M al i v d e => by simp at e⟩ (fun i σ' H' _ h => by obtain ⟨_, _, _, _, _, B, _⟩ := h; exact SqL.of (B _ _ (by simpa using pbp0) hb)) ?_ ?_
      · rintro k x σ' H2 hk ⟨v5, v4, ws, xs, rfl, B, h0, lx, lk, hr, pw⟩
        obtain ⟨z, hz, rfl⟩ := at_map hk
        have kz := (List.getElem?_eq_some_iff.mp hz).1
        repeat kaf_pre
        refine lcRs (n := n) rfl (fun i => decide (z / [1, 2, 4, 8, 16, 32].getD i 0 % 2 = 1)) iv (by omega) (fun i H3 hi s3 R r => ?_) (fun i H3 hi _ s3 R r => ?_) fun Dd H3 nD s3 hD => ?_
        · repeat kaf_pre
          refine ⟨size_of (by simp), fun p2 n2 => ?_⟩
          repeat kaf_pre
          refine rd_ixL (SqL.of upd_same) (lit_nat [1, 2, 4, 8, 16, 32] (i := i) (by show i < 6; omega)) ?_
          have pos : 0 < ([1, 2, 4, 8, 16, 32] : List Int).getD i 0 ∧ ([1, 2, 4, 8, 16, 32] : List Int).getD i 0 < 1073741824 := by
            have : i < 6 := by omega
            match i, this with
            | 0, _ => decide
            | 1, _ => decide
            | 2, _ => decide
            | 3, _ => decide
            | 4, _ => decide
            | 5, _ => decide
          repeat kaf_pre
          exact r _ (same_new n2)
        · repeat kaf_pre
          exact r _ (Same.refl _)
        · have h03 := s3 _ _ h0
          have hDd : Dd ≠ p0 := (ne_of_none h0 nD).symm
          repeat kaf_pre
          refine rd_append h03 (size_lt (by omega)) ?_
          repeat kaf_pre
          rw [map_iv_int] at hD
          have rl : ((List.range n).filter fun i => decide (z / [1, 2, 4, 8, 16, 32].getD i 0 % 2 = 1)).length ≤ n := Nat.le_trans (List.length_filter_le _ _) (by rw [List.length_range]; exact Nat.le_refl _)
          have yr : (((List.range n).filter fun i => decide (z / [1, 2, 4, 8, 16, 32].getD i 0 % 2 = 1)).map fun (t : Nat) => (t : Int)).length ≤ 100 ∧ ∀ t ∈ (((List.range n).filter fun i => decide (z / [1, 2, 4, 8, 16, 32].getD i 0 % 2 = 1)).map fun (t : Nat) => (t : Int)), 0 ≤ t ∧ t < (n : Int) := by
            rw [List.length_map]
            refine ⟨by omega, fun t ht => ?_⟩
            obtain ⟨i, hi, rfl⟩ := List.mem_map.mp ht
            have := List.mem_range.mp (List.mem_filter.mp hi).1
            omega
          generalize (((List.range n).filter fun i => decide (z / [1, 2, 4, 8, 16, 32].getD i 0 % 2 = 1)).map fun (t : Nat) => (t : Int)) = y at hD yr
          refine ⟨_, _, ws ++ [y], xs ++ [.ref Dd], rfl, (B.thenS s3).set (by simp), upd_same, by rw [List.length_append, List.length_append, lx]; rfl, by rw [List.length_append, lk]; rfl, fun y' hy => ?_, fun M al => ?_⟩
          · rcases List.mem_append.mp hy with hy | hy
            · exact hr y' hy
            · rw [List.mem_singleton.mp hy]; exact yr
          · rw [List.map_append]
            have Bp : But (p0 :: M) H2 (upd H3 p0 (.lst (xs ++ [.ref Dd]))) := (But.of s3).set List.mem_cons_self
            refine dts_snoc (by rw [List.length_map, lx]) (fun i v d e1 e2 => (pw M al i v d e1 e2).keep Bp) ?_
            have al2 : Al H2 (p0 :: M) := Al.cons (al.but (((But.of ((same_new n0).trans s)).trans B)) fun x hx => by rw [List.mem_singleton.mp hx, h0]; exact fun z => by cases z) h0
            exact Dt.ints (n := 0) (by rw [upd_ne hDd]; exact hD) (al2.off nD) (by omega)
      · rintro σ' H2 ⟨v5, v4, ws, xs, rfl, B, h0, lx, lk, hr, pw⟩
        rw [List.length_map] at lk
        repeat kaf_pre
        have BB : Same H H2 := fun b o h => B b o (by simpa using ne_of_none h n0) (s b o (same_new n0 b o h))
        refine q _ ws H2 a b c d hr (fun M al => ?_) (BB _ _ hst) (But.of BB) (by omega)
        exact .lst h0 (al.off n0) (by rw [List.length_map, lx]) (by rw [List.length_map]; omega) fun i v d e1 e2 => (pw M al i v d e1 e2).sub fun x hx => List.mem_cons_of_mem _ hx
  · repeat kaf_pre
    refine lcR (n := 40) rfl (by omega) fun Dd hD => ⟨fun i H' => ∃ (ws : List (List Int)) (acc : List V) (a : Nat) (b c d : Int), H' Dd = some (.lst acc) ∧ acc.length = ws.length ∧ ws.length = i ∧ (∀ y ∈ ws, y.length ≤ 100 ∧ ∀ t ∈ y, 0 ≤ t ∧ t < (n : Int)) ∧
        H' st = some (StO sc a b c d) ∧ But [st] H H' ∧ ∀ M, Al H M → ∀ (i : Nat) v d, acc[i]? = some v → (ws.map fun y => PyData.list (y.map .int))[i]? = some d → Dt (Dd :: st :: M) H' 1 v d,
      ⟨[], [], a, b, c, d, upd_same, rfl, rfl, by simp, same_new hD _ _ hst, But.of (same_new hD), fun M al i v d e => by simp at e⟩, ?_, ?_⟩
    · rintro i H1 hi ⟨ws, acc, a, b, c, d, hd, lx, lk, hr, hst1, B1, pw⟩
      have dst : Dd ≠ st := (ne_of_none hst hD).symm
      refine ⟨wipe1 _ _ _, ?_⟩
      repeat kaf_pre
      refine ⟨st, (n : Int), sc, ns, a, b, c, d, rfl, by omega, by omega, hst1, But.off B1 _ _ ne hsc, fun r a b c d H2 r0 r1 hst2 B2 => ?_⟩
      repeat kaf_pre
      refine lc_draws (n := (1 + r).toNat) (m := (n : Int)) (by omega) hst2 (But.off (B1.trans B2) _ _ ne hsc) (by omega) (by omega) (by omega) (fun v H R h => by (repeat kaf_pre); exact h) fun De y a b c d H3 nE hE la ha hst3 B3 => ?_
      have B13 := B2.trans B3
      have nE1 := st_none B2 hst2 nE
      have hEd : De ≠ Dd := (ne_of_none hd nE1).symm
      refine ⟨acc, But.off B13 _ _ dst hd, size_lt (by omega), ws ++ [y], acc ++ [.ref De], a, b, c, d, upd_same, by rw [List.length_append, List.length_append, lx]; rfl, by rw [List.length_append, lk]; rfl, fun z hz => ?_, by rw [upd_ne dst.symm]; exact hst3, (B1.trans B13).new hD, fun M al => ?_⟩
      · rcases List.mem_append.mp hz with hz | hz
        · exact hr z hz
        · rw [List.mem_singleton.mp hz]; exact ⟨by omega, ha⟩
      · rw [List.map_append]
        have Bp : But (Dd :: st :: M) H1 (upd H3 Dd (.lst (acc ++ [.ref De]))) := (B13.sub (by simp)).set List.mem_cons_self
        refine dts_snoc (by rw [List.length_map, lx]) (fun i v d e1 e2 => (pw M al i v d e1 e2).keep Bp) ?_
        have al3 : Al H1 (Dd :: st :: M) := Al.cons (Al.cons (al_st al B1 hst1) hst1) hd
        exact Dt.ints (n := 0) (by rw [upd_ne hEd]; exact hE) (al3.off nE1) (by omega)
    · rintro H1 ⟨ws, acc, a, b, c, d, hd, lx, lk, hr, hst1, B1, pw⟩
      refine q _ ws H1 a b c d hr (fun M al => ?_) hst1 B1 (by omega)
      exact .lst hd (al.off hD) (by rw [List.length_map, lx]) (by rw [List.length_map]; omega) fun i v d e1 e2 => (pw M al i v d e1 e2).sub fun x hx => List.mem_cons_of_mem _ (List.mem_cons_of_mem _ hx)
/- slots of _law_missing_told: 0 moment, 1 lot, 2 told, 3 e -/
def t_law_missing_told (K : PySem.W.Frag) (Z : Cs) : TS :=
  (tSeq (tAsg (tLst tNil) (gName 2))
  (tSeq (tTryAs K (.ref Z.NoTask) 3 (fun W => (tDrop (tCallS (spStuckOf K Z) (WE W) (tCons (tVar 0) tNil)))) (fun a cls d => (tDrop (tBM K "list" rAppend (tVar 2) (tCons (tXg K a cls d "task" (tVar 3)) tNil)))) (fun _ _ _ _ => False))
  (tSeq (tTryAs K (.ref Z.NoTask) 3 (fun W => (tDrop (tCallS (spIsClosed K Z) (WE W) (tCons (tVar 0) (tCons (tVar 1) tNil))))) (fun a cls d => (tDrop (tBM K "list" rAppend (tVar 2) (tCons (tXg K a cls d "task" (tVar 3)) tNil)))) (fun _ _ _ _ => False))
  (tRet (tVar 2)))))
theorem all_inR {m : List Wy} (h : firstBad m = none) : ∀ w ∈ m, InR m.length w := by
  intro w hw
  refine inR_of fun t ht => ?_
  have := List.find?_eq_none.mp h t (List.mem_flatMap.mpr ⟨w, hw, ht⟩)
  simpa using this
theorem no_bad {m : List Wy} (h : ∀ w ∈ m, InR m.length w) : firstBad m = none := by
  refine List.find?_eq_none.mpr fun t ht => ?_
  obtain ⟨w, hw, ht⟩ := List.mem_flatMap.mp ht
  rw [okT_of (h w hw) t ht]
  decide
def lotBad (m : List Wy) (lot : List Int) : Option Int := lot.find? fun t => !okT m.length t
def toldL (m : List Wy) (lot : List Int) : List Int := match firstBad m with
  | some t => [t, t]
  | none => match lotBad m lot with
    | some t => [t]
    | none => []
def spTold (K : PySem.W.Frag) : Sp := fun vs H Q _ => ∃ (ma la : Addr) (m : List Wy) (lot : List Int) (n : Nat), vs = [.ref ma, .ref la] ∧ Dt [] H n (.ref ma) (momD m) ∧ m.length ≤ 1000 ∧ SqL K H la (lot.map V.int) ∧ lot.length ≤ 1000 ∧
  ∀ (p : Addr) (H' : Hp), H p = none → Same H H' → H' p = some (.lst ((toldL m lot).map V.int)) → Q (.ref p) H'
theorem len_law_missing_told (K : PySem.W.Frag) {vs : List V} {H : Hp} {Q : VK} {E : XK} (h : spTold K vs H Q E) : vs.length = 2 := by
  obtain ⟨ma, la, m, lot, n, rfl, _⟩ := h
  rfl
theorem rd_law_missing_told (K : PySem.W.Frag) (Z : Cs) (cf : Cf K Z) (vs : List V) (H : Hp) (Q : VK) (E : XK) (h : spTold K vs H Q E) : t_law_missing_told K Z { nx := fun _ H' => Q .non H', rt := Q } (start ["moment", "lot", "told", "e"] vs) H := by
  obtain ⟨ma, la, m, lot, n, rfl, dm, mz, hl, lz, q⟩ := h
  unfold t_law_missing_told
  repeat kaf_pre
  refine ⟨size_of (by simp), fun p0 n0 => ?_⟩
  have s0 := same_new (o := HO.lst []) n0
  repeat kaf_pre
  refine ⟨ma, m, n, rfl, dm.same s0, mz, fun good p1 H1 out _ n1 s1 h1 => ?_, fun t hb d nd => ?_⟩
  · have nb := no_bad good
    have s01 := s0.trans s1
    have h0 := s1 _ _ (upd_same (H := H) (a := p0) (o := .lst []))
    repeat kaf_pre
    refine ⟨ma, la, m, lot, n, rfl, dm.same s01, s01.seq hl, lz, fun _ ok H2 s2 => ?_, (fun t hb => by rw [nb] at hb; cases hb), fun _ t hb d nd => ?_⟩
    · repeat kaf_pre
      have e : toldL m lot = [] := by
        unfold toldL
        rw [nb, show lotBad m lot = none from List.find?_eq_none.mpr fun t ht => by rw [ok t ht]; decide]
      refine q p0 _ n0 (s01.trans s2) ?_
      rw [e]
      exact s2 _ _ h0
    · refine ⟨true, cf.x_NoTask_NoTask, fun _ a ha => ?_, fun z => by cases z⟩
      have d0 : p0 ≠ d := ne_of_none h0 nd
      repeat kaf_pre
      refine ⟨rfl, _, _, _, _, rfl, ⟨cf.xf_NoTask, cf.f_NoTask_task⟩, rfl, upd_same, rfl, ?_⟩
      repeat kaf_pre
      refine rd_append ((upd_ne d0).trans h0) (size_lt (by simp)) ?_
      repeat kaf_pre
      refine q p0 _ n0 (same_mut (s01.trans (same_new nd)) n0) ?_
      have e : toldL m lot = [t] := by
        unfold toldL
        rw [nb, show lotBad m lot = some t from hb]
      rw [e]
      exact upd_same
  · refine ⟨true, cf.x_NoTask_NoTask, fun _ a ha => ?_, fun z => by cases z⟩
    have d0 : p0 ≠ d := ne_of_none upd_same nd
    have h0 : upd (upd H p0 (.lst [])) d (.xd (ExL.errF ["task"] "no such task" [.int t])) p0 = some (.lst []) := by rw [upd_ne d0]; exact upd_same
    repeat kaf_pre
    refine ⟨rfl, _, _, _, _, rfl, ⟨cf.xf_NoTask, cf.f_NoTask_task⟩, rfl, upd_same, rfl, ?_⟩
    repeat kaf_pre
    refine rd_append h0 (size_lt (by simp)) ?_
    have s1 : Same H (upd (upd (upd H p0 (.lst [])) d (.xd (ExL.errF ["task"] "no such task" [.int t]))) p0 (.lst [.int t])) := same_mut (s0.trans (same_new nd)) n0
    repeat kaf_pre
    refine ⟨ma, la, m, lot, n, rfl, dm.same s1, s1.seq hl, lz, (fun good => by rw [no_bad good] at hb; cases hb), fun t' hb' d' nd' => ?_, (fun good => by rw [no_bad good] at hb; cases hb)⟩
    rw [hb] at hb'
    cases hb'
    refine ⟨true, cf.x_NoTask_NoTask, fun _ a' ha' => ?_, fun z => by cases z⟩
    have d1 : p0 ≠ d' := ne_of_none upd_same nd'
    repeat kaf_pre
    refine ⟨rfl, _, _, _, _, rfl, ⟨cf.xf_NoTask, cf.f_NoTask_task⟩, rfl, upd_same, rfl, ?_⟩
    repeat kaf_pre
    refine rd_append ((upd_ne d1).trans upd_same) (size_lt (by simp)) ?_
    repeat kaf_pre
    refine q p0 _ n0 (same_mut (s1.trans (same_new nd')) n0) ?_
    have e : toldL m lot = [t, t] := by
      unfold toldL
      rw [hb]
    rw [e]
    exact upd_same
/- slots of _law_spoilt_right: 0 state, 1 moment, 2 size, 3 spoilt, 4 wrong, 5 lot, 6 ways, 7 task -/
def t_law_spoilt_right (K : PySem.W.Frag) : TS :=
  (tSeq (tAsg (tCB (rLen K) (tCons (tVar 1) tNil)) (gName 2))
  (tSeq (tAsg (tLc (iAny K (tVar 1)) (gName 6) tYes (tCall (spCopied K) [] E0 (tCons (tVar 6) tNil)) [6]) (gName 3))
  (tSeq (tDrop (tBM K "list" rAppend (tVar 3) (tCons (tLst (tCons (tLst (tCons (tC (.int 0)) (tCons (tOp (rAddA K) (tVar 2) (tC (.int 1))) tNil))) (tCons (tLst (tCons (tOp rSubI (tCall (spDraw) [] E0 (tCons (tVar 0) (tCons (tC (.int 3)) tNil))) (tC (.int 4))) tNil)) tNil))) tNil)))
  (tSeq (tIfS (tNot (tTru K (tCall (spSm K 4) [] E0 (tCons (tCall (spTold K) [] E0 (tCons (tVar 3) (tCons (tLst (tCons (tOp (rAddA K) (tVar 2) (tC (.int 7))) tNil)) tNil))) (tCons (tLst (tCons (tOp (rAddA K) (tVar 2) (tC (.int 1))) (tCons (tOp (rAddA K) (tVar 2) (tC (.int 1))) tNil))) tNil))))) (tRet (tC (.bl false))) tNext)
  (tSeq (tAsg (tOp (rIx K) (tLst (tCons (tUn rNegI (tC (.int 1))) (tCons (tVar 2) tNil))) (tCall (spDraw) [] E0 (tCons (tVar 0) (tCons (tC (.int 2)) tNil)))) (gName 4))
  (tSeq (tAsg (tOp (rAddA K) (tLc (iRng1 (tCons (tVar 2) tNil)) (gName 7) tYes (tVar 7) [7]) (tLst (tCons (tVar 4) (tCons (tOp (rAddA K) (tVar 2) (tC (.int 2))) tNil)))) (gName 5))
  (tRet (tCall (spSm K 4) [] E0 (tCons (tCall (spTold K) [] E0 (tCons (tVar 1) (tCons (tVar 5) tNil))) (tCons (tLst (tCons (tVar 4) tNil)) tNil))))))))))
/-- [_law_copied_ways(ways) for ways in moment] -/
theorem lc_copied {K : PySem.W.Frag} {σ : L2.St} {j : Nat} {te : TE} {H : Hp} {Q : VK} {ma : Addr} {m : List Wy} {n : Nat} (dm : Dt [] H n (.ref ma) (momD m))
    (hte : ∀ (v : V) (H : Hp) (R : VK), spCopied K [v] H R E0 → te ((wipe σ [j]).set j (some v)) H R)
    (q : ∀ (Dd : Addr) (acc : List V) (H' : Hp), H Dd = none → Same H H' → H' Dd = some (.lst acc) → acc.length = m.length → (∀ M, Al H M → ∀ (i : Nat) v d, acc[i]? = some v → (m.map wyD)[i]? = some d → Dt (Dd :: M) H' 2 v d) → Q (.ref Dd) H') :
    LcA K (.ref ma) (gName j) tYes te [j] σ H Q := by
  obtain ⟨_, xs, k0, e0, rfl, hm, _, lm, mz, mi⟩ := mom_inv dm
  cases e0
  refine lcL (SqL.of hm) fun Dd hD => ⟨fun i H' => ∃ acc : List V, H' Dd = some (.lst acc) ∧ acc.length = i ∧ Same H H' ∧ ∀ M, Al H M → ∀ (j : Nat) v d, acc[j]? = some v → ((m.take i).map wyD)[j]? = some d → Dt (Dd :: M) H' 2 v d,
    ⟨[], upd_same, rfl, same_new hD, fun M al j v d e => by simp at e⟩, fun i H' hi ⟨_, _, _, s, _⟩ => SqL.of (s _ _ hm), ?_, ?_⟩
  · rintro i x H1 hi ⟨acc, hd, la, s, pw⟩
    have il : i < xs.length := (List.getElem?_eq_some_iff.mp hi).1
    have hw := List.getElem?_eq_getElem (l := m) (i := i) (by omega)
    obtain ⟨x', hx', dx⟩ := mi i _ hw
    rw [hi] at hx'
    cases hx'
    refine ⟨wipe1 _ _ _, rd_yes (rd_ite1 (hte _ _ _ ⟨x, _, _, rfl, dx.same s, fun x2 H2 d2 s2 => ?_⟩))⟩
    refine ⟨acc, s2 _ _ hd, size_lt (by omega), acc ++ [x2], upd_same, by rw [List.length_append, List.length_singleton, la], same_mut (s.trans s2) hD, fun M al => ?_⟩
    have al1 : Al H1 (Dd :: M) := Al.cons (al.but (But.of s (l := [])) (by simp)) hd
    have B1 : But (Dd :: M) H2 (upd H2 Dd (.lst (acc ++ [x2]))) := (But.refl _ _).set List.mem_cons_self
    rw [take_end hw, List.map_append]
    exact dts_snoc (by rw [List.length_map, List.length_take, la]; omega) (fun j v d e1 e2 => ((pw M al j v d e1 e2).same s2).keep B1) ((d2 _ al1).keep B1)
  · rintro H1 ⟨acc, hd, la, s, pw⟩
    rw [lm, List.take_length] at pw
    exact q Dd acc H1 hD s hd (by omega) pw
theorem Dt.pair {M : List Addr} {H : Hp} {n : Nat} {a : Addr} {xs : List V} {ds : List PyData} (h : H a = some (.lst xs)) (m : a ∉ M) (l : xs.length = ds.length) (z : ds.length ≤ 1000000) (e : ∀ (i : Nat) v d, xs[i]? = some v → ds[i]? = some d → Dt M H n v d) : Dt M H (n + 1) (.ref a) (.list ds) := .lst h m l z e
def spSpoilt (K : PySem.W.Frag) : Sp := fun vs H Q _ => ∃ (st sc : Addr) (ns : List Int) (a : Nat) (b c d : Int) (ma : Addr) (m : List Wy) (n : Nat), vs = [.ref st, .ref ma] ∧ H st = some (StO sc a b c d) ∧ H sc = some (.lst (ns.map V.int)) ∧ Dt [st] H n (.ref ma) (momD m) ∧ m.length ≤ 100 ∧ (∀ w ∈ m, InR m.length w) ∧
  ∀ H', Q (.bl true) H'
theorem len_law_spoilt_right (K : PySem.W.Frag) {vs : List V} {H : Hp} {Q : VK} {E : XK} (h : spSpoilt K vs H Q E) : vs.length = 2 := by
  obtain ⟨st, sc, ns, a, b, c, d, ma, m, n, rfl, _⟩ := h
  rfl
theorem spoilt_bad {m : List Wy} (good : ∀ w ∈ m, InR m.length w) (r : Int) : firstBad (m ++ [some [[0, (m.length : Int) + 1], [r]]]) = some ((m.length : Int) + 1) := by
  unfold firstBad
  rw [List.flatMap_append, show ([some [[0, (m.length : Int) + 1], [r]]] : List Wy).flatMap wyT = [0] ++ ((m.length : Int) + 1) :: [r] from rfl, ← List.append_assoc]
  refine find_at (fun u hu => ?_) ?_
  · have : okT (m ++ [some [[0, (m.length : Int) + 1], [r]]]).length u = true := by
      refine okT_iff.mpr ?_
      rw [List.length_append, List.length_singleton]
      rcases List.mem_append.mp hu with hu | hu
      · obtain ⟨w, hw, hu⟩ := List.mem_flatMap.mp hu
        have := okT_iff.mp (okT_of (good w hw) u hu)
        omega
      · rw [List.mem_singleton.mp hu]; omega
    rw [this]
    rfl
  · have : okT (m ++ [some [[0, (m.length : Int) + 1], [r]]]).length ((m.length : Int) + 1) = false := by
      unfold okT
      rw [List.length_append, List.length_singleton, decide_eq_false (by omega : ¬ ((m.length : Int) + 1 < ((m.length + 1 : Nat) : Int)))]
      simp
    rw [this]
    rfl
theorem rd_law_spoilt_right (K : PySem.W.Frag) (vs : List V) (H : Hp) (Q : VK) (E : XK) (h : spSpoilt K vs H Q E) : t_law_spoilt_right K { nx := fun _ H' => Q .non H', rt := Q } (start ["state", "moment", "size", "spoilt", "wrong", "lot", "ways", "task"] vs) H := by
  obtain ⟨st, sc, ns, a, b, c, d, ma, m, n, rfl, hst, hsc, dm, mz, good, q⟩ := h
  have ne := st_ne hst hsc
  unfold t_law_spoilt_right
  obtain ⟨_, xs, k0, e0, rfl, hm, mst, lm, _, mi⟩ := mom_inv dm
  cases e0
  have dm0 : Dt [] H (k0 + 1) (.ref ma) (momD m) := dm.sub (by simp)
  repeat kaf_pre
  rw [lm]
  refine lc_copied dm0 (fun v H R h => by (repeat kaf_pre); exact h) fun Dd acc H1 nD s1 hD la pw => ?_
  have pw1 := pw [st] fun x hx => by rw [List.mem_singleton.mp hx, hst]; exact fun z => by cases z
  have hst1 := s1 _ _ hst
  have dst : Dd ≠ st := (ne_of_none hst nD).symm
  repeat kaf_pre
  refine ⟨size_of (by simp), fun p1 n1 => ?_⟩
  have s2 := same_new (o := HO.lst [.int 0, .int ((m.length : Int) + 1)]) n1
  have hst2 := s2 _ _ hst1
  have hsc2 := s2 _ _ (s1 _ _ hsc)
  repeat kaf_pre
  refine ⟨st, 3, sc, ns, a, b, c, d, rfl, by omega, by omega, hst2, hsc2, fun r a b c d H3 r0 r1 hst3 B3 => ?_⟩
  have p1st : p1 ≠ st := (ne_of_none hst1 n1).symm
  have p1D : p1 ≠ Dd := (ne_of_none hD n1).symm
  have hp1 := But.off B3 _ _ p1st (upd_same (H := H1) (a := p1) (o := HO.lst [.int 0, .int ((m.length : Int) + 1)]))
  have hD3 := But.off B3 _ _ dst (s2 _ _ hD)
  repeat kaf_pre
  refine ⟨size_of (by simp), fun p2 n2 => ?_⟩
  have s4 := same_new (o := HO.lst [.int (r - 4)]) n2
  repeat kaf_pre
  refine ⟨size_of (by simp), fun p3 n3 => ?_⟩
  have s5 := same_new (o := HO.lst [.ref p1, .ref p2]) n3
  have s35 := s4.trans s5
  have hD5 := s35 _ _ hD3
  repeat kaf_pre
  refine rd_append hD5 (size_lt (by omega)) ?_
  obtain ⟨H6, e6⟩ : ∃ H6, H6 = upd (upd (upd H3 p2 (.lst [.int (r - 4)])) p3 (.lst [.ref p1, .ref p2])) Dd (.lst (acc ++ [.ref p3])) := ⟨_, rfl⟩
  rw [← e6]
  have p2D : p2 ≠ Dd := (ne_of_none hD3 n2).symm
  have p3D : p3 ≠ Dd := (ne_of_none (s4 _ _ hD3) n3).symm
  have B36 : But [Dd] H3 H6 := by rw [e6]; exact (But.of s35).set (by simp)
  have hst6 := But.off B36 _ _ dst.symm hst3
  have n20 : ([] : List Addr) = [] := rfl
  have h16 := But.off B36 _ _ p1D hp1
  have h26 : H6 p2 = some (.lst [.int (r - 4)]) := by rw [e6, upd_ne p2D]; exact s5 _ _ upd_same
  have h36 : H6 p3 = some (.lst [.ref p1, .ref p2]) := by rw [e6, upd_ne p3D]; exact upd_same
  have hD6 : H6 Dd = some (.lst (acc ++ [.ref p3])) := by rw [e6]; exact upd_same
  have dnew : Dt [Dd] H6 2 (.ref p3) (wyD (some [[0, (m.length : Int) + 1], [r - 4]])) := by
    refine .lst h36 (by simpa using p3D) rfl (by simp) fun i v d e1 e2 => ?_
    match i, e1, e2 with
    | 0, e1, e2 => cases e1; cases e2; exact Dt.ints (n := 0) (l := [0, (m.length : Int) + 1]) h16 (by simpa using p1D) (by simp)
    | 1, e1, e2 => cases e1; cases e2; exact Dt.ints (n := 0) (l := [r - 4]) h26 (by simpa using p2D) (by simp)
    | i + 2, e1, e2 => simp at e1
  have B16 : But [Dd, st] H1 H6 := (((But.of s2).trans B3).sub (by simp)).trans (B36.sub (by simp))
  have dm6 : Dt [] H6 3 (.ref Dd) (momD (m ++ [some [[0, (m.length : Int) + 1], [r - 4]]])) := by
    unfold momD
    rw [List.map_append]
    refine .lst hD6 (by simp) (by rw [List.length_append, List.length_append, List.length_map, la]; rfl) (by rw [List.length_append, List.length_map]; simp; omega) ?_
    exact dts_snoc (by rw [List.length_map, la]) (fun i v d e1 e2 => ((pw1 i v d e1 e2).keep B16).sub (by simp)) (dnew.sub (by simp))
  have hb := spoilt_bad good (r - 4)
  repeat kaf_pre
  refine ⟨size_of (by simp), fun p4 n4 => ?_⟩
  have s7 := same_new (o := HO.lst [.int ((m.length : Int) + 7)]) n4
  repeat kaf_pre
  refine ⟨Dd, p4, _, [(m.length : Int) + 7], 3, rfl, dm6.same s7, by rw [List.length_append]; simp; omega, SqL.of upd_same, by simp, fun pt H8 nt s8 hpt => ?_⟩
  have et : toldL (m ++ [some [[0, (m.length : Int) + 1], [r - 4]]]) [(m.length : Int) + 7] = [(m.length : Int) + 1, (m.length : Int) + 1] := by
    unfold toldL
    rw [hb]
  rw [et] at hpt
  repeat kaf_pre
  refine ⟨size_of (by simp), fun p5 n5 => ?_⟩
  have s9 := same_new (o := HO.lst [.int ((m.length : Int) + 1), .int ((m.length : Int) + 1)]) n5
  repeat kaf_pre
  refine ⟨.ref pt, .ref p5, .list ([(m.length : Int) + 1, (m.length : Int) + 1].map .int), rfl, Dt.ints (s9 _ _ hpt) (by simp) (by simp), Dt.ints upd_same (by simp) (by simp), fun H10 s10 => ?_⟩
  have s6a : Same H6 H10 := ((s7.trans s8).trans s9).trans s10
  have hst10 := s6a _ _ hst6
  have B010 : But [Dd, st] H H10 := ((But.of s1).trans B16).thenS s6a
  have ma_ne : ma ≠ Dd := (ne_of_none hm nD)
  have scD : sc ≠ Dd := ne_of_none hsc nD
  have hsc10 := B010 _ _ (by simp [scD, ne]) hsc
  have dm10 : Dt [] H10 (k0 + 1) (.ref ma) (momD m) := ((dm.more nD).keep B010).sub (by simp)
  repeat kaf_pre
  refine ⟨size_of (by simp), fun p6 n6 => ?_⟩
  have s11 := same_new (o := HO.lst [.int (-1), .int (m.length : Int)]) n6
  repeat kaf_pre
  refine ⟨st, 2, sc, ns, a, b, c, d, rfl, by omega, by omega, s11 _ _ hst10, s11 _ _ hsc10, fun r2 a b c d H11 q0 q1 hst11 B11 => ?_⟩
  have p6st : p6 ≠ st := (ne_of_none hst10 n6).symm
  obtain ⟨wr, wm, we⟩ := lit_at [-1, (m.length : Int)] q0 q1
  refine rd_ixL (SqL.of (But.off B11 _ _ p6st (upd_same (o := HO.lst [.int (-1), .int (m.length : Int)])))) we ?_
  have wb : okT m.length wr = false := by
    simp only [List.mem_cons, List.not_mem_nil, or_false] at wm
    unfold okT
    rcases wm with e | e <;> rw [e] <;> simp
  have dm11 : Dt [] H11 (k0 + 1) (.ref ma) (momD m) := by
    have B : But [Dd, st] H H11 := B010.trans (((But.of s11).trans B11).sub (by simp))
    exact ((dm.more nD).keep B).sub (by simp)
  repeat kaf_pre
  refine lcRs (n := m.length) rfl (fun _ => true) iv (by omega) (fun i H12 hi s12 R r => r _ (Same.refl _)) (fun i H12 hi _ s12 R r => ?_) fun p7 H12 n7 s12 h7 => ?_
  · repeat kaf_pre
    exact r _ (Same.refl _)
  rw [List.filter_eq_self.mpr (fun _ _ => rfl), map_iv_int] at h7
  repeat kaf_pre
  refine ⟨size_of (by simp), fun p8 n8 => ?_⟩
  have s13 := same_new (o := HO.lst [.int wr, .int ((m.length : Int) + 2)]) n8
  refine rd_addL (s13 _ _ h7) upd_same (size_of (by simp; omega)) fun p9 n9 => ?_
  have s14 := same_new (o := HO.lst (((List.range m.length).map fun (t : Nat) => (t : Int)).map V.int ++ [.int wr, .int ((m.length : Int) + 2)])) n9
  have s124 := (s12.trans s13).trans s14
  repeat kaf_pre
  refine ⟨ma, p9, m, ((List.range m.length).map fun (t : Nat) => (t : Int)) ++ [wr, (m.length : Int) + 2], _, rfl, dm11.same s124, by omega, SqL.of (by rw [List.map_append]; exact upd_same), by simp; omega, fun p10 H15 n10 s15 h10 => ?_⟩
  have et2 : toldL m (((List.range m.length).map fun (t : Nat) => (t : Int)) ++ [wr, (m.length : Int) + 2]) = [wr] := by
    unfold toldL
    rw [no_bad good, show lotBad m (((List.range m.length).map fun (t : Nat) => (t : Int)) ++ [wr, (m.length : Int) + 2]) = some wr from find_at (fun u hu => by
      obtain ⟨t, ht, rfl⟩ := List.mem_map.mp hu
      have := List.mem_range.mp ht
      rw [okT_iff.mpr ⟨by omega, by omega⟩]
      rfl) (by rw [wb]; rfl)]
  rw [et2] at h10
  repeat kaf_pre
  refine ⟨size_of (by simp), fun p11 n11 => ?_⟩
  have s16 := same_new (o := HO.lst [.int wr]) n11
  repeat kaf_pre
  exact ⟨.ref p10, .ref p11, .list ([wr].map .int), rfl, Dt.ints (s16 _ _ h10) (by simp) (by simp), Dt.ints upd_same (by simp) (by simp), fun H17 _ => q H17⟩
/- slots of law: 0 script, 1 state, 2 size, 3 moment, 4 given, 5 stuck, 6 lot, 7 closed, 8 ring, 9 k, 10 ways, 11 task -/
def t_law (K : PySem.W.Frag) (Z : Cs) : TS :=
  (tSeq (tAsg (tCall (spStart K) [] E0 (tCons (tVar 0) tNil)) (gName 1))
  (tSeq (tAsg (tCall (spDraw) [] E0 (tCons (tVar 1) (tCons (tC (.int 10)) tNil))) (gName 2))
  (tSeq (tAsg (tCall (spMoment) [] E0 (tCons (tVar 1) (tCons (tVar 2) tNil))) (gName 3))
  (tSeq (tAsg (tLc (iAny K (tVar 3)) (gName 10) tYes (tCall (spCopied K) [] E0 (tCons (tVar 10) tNil)) [10]) (gName 4))
  (tSeq (tAsg (tCallS (spStuckOf K Z) (WE (fun _ _ _ _ => False)) (tCons (tVar 4) tNil)) (gName 5))
  (tSeq (tIfS (tOr (tNot (tTru K (tCall (spSm K 4) [] E0 (tCons (tVar 5) (tCons (tCall (spLeft K) [] E0 (tCons (tVar 3) tNil)) tNil))))) (tNot (tTru K (tCall (spSm K 4) [] E0 (tCons (tCallS (spIsClosed K Z) (WE (fun _ _ _ _ => False)) (tCons (tVar 4) (tCons (tVar 5) tNil))) (tCons (tC (.bl true)) tNil)))))) (tRet (tC (.bl false))) tNext)
  (tSeq (tIfS (tOr (tNot (tTru K (tCall (spGoesOn K) [] E0 (tCons (tVar 3) (tCons (tVar 5) tNil))))) (tNot (tTru K (tCall (spSm K 4) [] E0 (tCons (tVar 4) (tCons (tVar 3) tNil)))))) (tRet (tC (.bl false))) tNext)
  (tSeq (tFor (iAny K (tOp (rAddA K) (tCall (spLots K) [] E0 (tCons (tVar 1) (tCons (tVar 2) tNil))) (tLst (tCons (tLst tNil) tNil)))) (gName 6) (tSeq (tAsg (tCall (spClosed K) [] E0 (tCons (tVar 3) (tCons (tVar 6) tNil))) (gName 7))
  (tSeq (tIfS (tNot (tTru K (tCall (spSm K 4) [] E0 (tCons (tCallS (spIsClosed K Z) (WE (fun _ _ _ _ => False)) (tCons (tVar 4) (tCons (tCB (rListOf K) (tCons (tVar 6) tNil)) tNil))) (tCons (tVar 7) tNil))))) (tRet (tC (.bl false))) tNext)
  (tIfS (tAnd (tTru K (tVar 7)) (tTest (tOp (rInA K) (tC (.bl false)) (tLc (iAny K (tVar 6)) (gName 11) tYes (tOp (rInA K) (tVar 11) (tVar 5)) [11])))) (tRet (tC (.bl false))) tNext))))
  (tSeq (tAsg (tLc (iAny K (tVar 3)) (gName 10) tYes (tCall (spCopied K) [] E0 (tCons (tVar 10) tNil)) [10]) (gName 8))
  (tSeq (tFor (iRng1 (tCons (tC (.int 3)) tNil)) (gName 9) (tDrop (tBM K "list" rAppend (tVar 8) (tCons (tLst (tCons (tLst (tCons (tOp (rAddA K) (tVar 2) (tOp rModI (tOp (rAddA K) (tVar 9) (tC (.int 1))) (tC (.int 3)))) (tCons (tVar 2) tNil))) tNil)) tNil))))
  (tSeq (tIfS (tNot (tTru K (tCall (spSm K 4) [] E0 (tCons (tCallS (spStuckOf K Z) (WE (fun _ _ _ _ => False)) (tCons (tVar 8) tNil)) (tCons (tOp (rAddA K) (tVar 5) (tLst (tCons (tVar 2) (tCons (tOp (rAddA K) (tVar 2) (tC (.int 1))) (tCons (tOp (rAddA K) (tVar 2) (tC (.int 2))) tNil))))) tNil))))) (tRet (tC (.bl false))) tNext)
  (tSeq (tDrop (tBM K "list" rAppend (tVar 5) (tCons (tUn rNegI (tC (.int 1))) tNil)))
  (tSeq (tIfS (tOr (tNot (tTru K (tCall (spSm K 4) [] E0 (tCons (tCallS (spStuckOf K Z) (WE (fun _ _ _ _ => False)) (tCons (tVar 4) tNil)) (tCons (tCall (spLeft K) [] E0 (tCons (tVar 3) tNil)) tNil))))) (tNot (tTru K (tCall (spSm K 4) [] E0 (tCons (tVar 4) (tCons (tVar 3) tNil)))))) (tRet (tC (.bl false))) tNext)
  (tRet (tCall (spSpoilt K) [] E0 (tCons (tVar 1) (tCons (tVar 3) tNil)))))))))))))))))
def cI (out : List Nat) : List Int := out.map fun (t : Nat) => (t : Int)
theorem mem_cI {out : List Nat} {t : Nat} : (t : Int) ∈ cI out ↔ t ∈ out := by
  unfold cI
  rw [List.mem_map]
  exact ⟨fun ⟨u, hu, e⟩ => by rw [← Int.ofNat_inj.mp e]; exact hu, fun h => ⟨t, h, rfl⟩⟩
theorem stuck_ok {m : List Wy} {out : List Nat} (S : IsStuck m out) : ∀ t ∈ cI out, okT m.length t = true := by
  intro t ht
  obtain ⟨k, hk, rfl⟩ := List.mem_map.mp ht
  have := (S.mem.mp hk).1
  exact okT_iff.mpr ⟨by omega, by omega⟩
theorem stuck_closed {m : List Wy} {out : List Nat} (S : IsStuck m out) (good : ∀ w ∈ m, InR m.length w) : closedB m (cI out) = true := by
  refine List.all_eq_true.mpr fun t ht => ?_
  obtain ⟨k, hk, rfl⟩ := List.mem_map.mp ht
  obtain ⟨kl, nd⟩ := S.mem.mp hk
  have hw := List.getElem?_eq_getElem kl
  rw [Int.toNat_natCast, hw]
  have hg := good _ (List.getElem_mem kl)
  generalize m[k] = w at *
  cases w with
  | none => exact absurd (.free hw) nd
  | some ws =>
    refine List.all_eq_true.mpr fun y hy => ?_
    cases e : y.any fun u => decide (u ∈ cI out) with
    | true => rfl
    | false =>
      refine absurd (.way hw hy fun u hu => ?_) nd
      obtain ⟨u0, u1⟩ := hg ws rfl y hy u hu
      obtain ⟨j, rfl⟩ := Int.eq_ofNat_of_zero_le u0
      have ne := List.any_eq_false.mp e _ hu
      simp only [decide_eq_true_eq] at ne
      by_cases d : Dv m (j : Int)
      · exact d
      · exact absurd (mem_cI.mpr (S.mem.mpr ⟨by omega, d⟩)) ne
theorem closed_no {m : List Wy} {lot : List Int} (c : closedB m lot = true) {u : Int} (h : Dv m u) : u ∉ lot := by
  induction h with
  | free a =>
    intro hu
    have := List.all_eq_true.mp c _ hu
    rw [Int.toNat_natCast, a] at this
    cases this
  | @way t ws y a b _ ih =>
    intro hu
    have := List.all_eq_true.mp c _ hu
    rw [Int.toNat_natCast, a] at this
    obtain ⟨x, hx, e⟩ := List.any_eq_true.mp (List.all_eq_true.mp this y b)
    exact ih x hx (by simpa using e)
theorem closed_in {m : List Wy} {lot : List Int} {out : List Nat} (S : IsStuck m out) (c : closedB m lot = true) (r : ∀ t ∈ lot, 0 ≤ t ∧ t < (m.length : Int)) : ∀ t ∈ lot, t ∈ cI out := by
  intro t ht
  obtain ⟨t0, t1⟩ := r t ht
  obtain ⟨k, rfl⟩ := Int.eq_ofNat_of_zero_le t0
  exact mem_cI.mpr (S.mem.mpr ⟨by omega, fun d => closed_no c d ht⟩)
def ringW (n k : Nat) : Wy := some [[(n : Int) + ((k : Int) + 1) % 3, (n : Int)]]
def ringL (n k : Nat) : List Wy := (List.range k).map (ringW n)
theorem ring_at {m : List Wy} {k t : Nat} {w : Wy} (h : (m ++ ringL m.length k)[t]? = some w) : (t < m.length ∧ m[t]? = some w) ∨ ∃ j, w = ringW m.length j := by
  by_cases c : t < m.length
  · rw [List.getElem?_append_left c] at h
    exact .inl ⟨c, h⟩
  · rw [List.getElem?_append_right (by omega)] at h
    unfold ringL at h
    rw [List.getElem?_map] at h
    cases e : (List.range k)[t - m.length]? with
    | none => rw [e] at h; cases h
    | some j => rw [e] at h; cases h; exact .inr ⟨j, rfl⟩
theorem ring_dv {m : List Wy} {k : Nat} {u : Int} : Dv (m ++ ringL m.length k) u ↔ Dv m u := by
  constructor
  · intro h
    induction h with
    | free a =>
      rcases ring_at a with ⟨_, a⟩ | ⟨j, e⟩
      · exact .free a
      · cases e
    | @way t ws y a b _ ih =>
      rcases ring_at a with ⟨_, a⟩ | ⟨j, e⟩
      · exact .way a b ih
      · unfold ringW at e
        cases e
        rw [List.mem_singleton.mp b] at ih
        have := dv_lt (ih (m.length : Int) (by simp))
        omega
  · intro h
    induction h with
    | free a => exact .free (by rw [List.getElem?_append_left (List.getElem?_eq_some_iff.mp a).1]; exact a)
    | way a b _ ih => exact .way (by rw [List.getElem?_append_left (List.getElem?_eq_some_iff.mp a).1]; exact a) b ih
theorem ring_len (n k : Nat) : (ringL n k).length = k := by unfold ringL; simp
theorem ring_good {m : List Wy} (good : ∀ w ∈ m, InR m.length w) : ∀ w ∈ m ++ ringL m.length 3, InR (m ++ ringL m.length 3).length w := by
  intro w hw ws e y hy t ht
  rw [List.length_append, ring_len]
  rcases List.mem_append.mp hw with hw | hw
  · have := good w hw ws e y hy t ht
    omega
  · obtain ⟨j, hj, rfl⟩ := List.mem_map.mp hw
    cases e
    rw [List.mem_singleton.mp hy] at ht
    simp only [List.mem_cons, List.not_mem_nil, or_false] at ht
    rcases ht with rfl | rfl <;> omega
theorem ring_stuck {m : List Wy} {out o3 : List Nat} (S : IsStuck m out) (S3 : IsStuck (m ++ ringL m.length 3) o3) : o3 = out ++ [m.length, m.length + 1, m.length + 2] := by
  refine S3.unique ?_
  obtain ⟨f, h1, rfl⟩ := S
  refine ⟨fun t => decide (t < m.length) && f t, fun t ht => ?_, ?_⟩
  · rw [ring_dv]
    dsimp only
    by_cases c : t < m.length
    · rw [decide_eq_true c, Bool.true_and]; exact h1 t c
    · rw [decide_eq_false c, Bool.false_and]
      exact ⟨(fun z => by cases z), fun d => by have := dv_lt d; omega⟩
  · rw [List.length_append, ring_len, List.range_succ, List.range_succ, List.range_succ, List.append_assoc, List.append_assoc, List.filter_append]
    congr 1
    · refine List.filter_congr fun t ht => ?_
      dsimp only
      rw [decide_eq_true (List.mem_range.mp ht), Bool.true_and]
    · rw [List.filter_eq_self.mpr]
      · rfl
      · intro t ht
        simp only [List.mem_append, List.mem_singleton] at ht
        dsimp only
        rw [decide_eq_false (by omega : ¬ t < m.length), Bool.false_and]
        rfl
theorem dt_list {M : List Addr} {H : Hp} {a : Addr} {out : List Nat} (h : H a = some (.lst (out.map iv))) (m : a ∉ M) (z : out.length ≤ 1000000) (n : Nat) : Dt M H (n + 1) (.ref a) (.list ((cI out).map .int)) :=
  Dt.ints (by rw [h, map_iv_int]; rfl) m (by unfold cI; rw [List.length_map]; exact z)
theorem stuck_len {m : List Wy} {out : List Nat} (S : IsStuck m out) : out.length ≤ m.length := by
  obtain ⟨f, _, rfl⟩ := S
  exact Nat.le_trans (List.length_filter_le _ _) (by rw [List.length_range]; exact Nat.le_refl _)
def spLaw (K : PySem.W.Frag) : Sp := fun vs H Q _ => ∃ (a : Addr) (ns : List Int), vs = [.ref a] ∧ SqL K H a (ns.map V.int) ∧ ns.length ≤ 63 ∧ ∀ H', Q (.bl true) H'
theorem len_law (K : PySem.W.Frag) {vs : List V} {H : Hp} {Q : VK} {E : XK} (h : spLaw K vs H Q E) : vs.length = 1 := by
  obtain ⟨a, ns, rfl, _⟩ := h
  rfl
theorem rd_law (K : PySem.W.Frag) (Z : Cs) (cf : Cf K Z) (vs : List V) (H : Hp) (Q : VK) (E : XK) (h : spLaw K vs H Q E) : t_law K Z { nx := fun _ H' => Q .non H', rt := Q } (start ["script", "state", "size", "moment", "given", "stuck", "lot", "closed", "ring", "k", "ways", "task"] vs) H := by
  obtain ⟨a0, ns, rfl, hs0, _, q⟩ := h
  unfold t_law
  repeat kaf_pre
  refine ⟨a0, ns, rfl, hs0, fun st sc H1 nst nsc hst hsc s1 => ?_⟩
  have ne := st_ne hst hsc
  repeat kaf_pre
  refine ⟨st, 10, sc, ns, 0, 0, 0, 0, rfl, by omega, by omega, hst, hsc, fun r a b c d H2 r0 r1 hst2 B2 => ?_⟩
  obtain ⟨n, rfl⟩ := Int.eq_ofNat_of_zero_le r0
  have hsc2 := But.off B2 _ _ ne hsc
  repeat kaf_pre
  refine ⟨st, sc, ns, a, b, c, d, n, rfl, by omega, hst2, hsc2, fun ma m H3 a b c d lm good dmA hst3 B3 => ?_⟩
  subst lm
  have hsc3 := But.off B3 _ _ ne hsc2
  have dm3 := dmA [st] fun x hx => by rw [List.mem_singleton.mp hx, hst2]; exact fun z => by cases z
  repeat kaf_pre
  refine lc_copied (dm3.sub (by simp)) (fun v H R h => by (repeat kaf_pre); exact h) fun ga acc H4 nga s4 hga lga pwg => ?_
  have hst4 := s4 _ _ hst3
  have dm4 : Dt [ga, st] H4 3 (.ref ma) (momD m) := (dm3.more nga).same s4
  have dg4 : Dt [st] H4 3 (.ref ga) (momD m) := by
    refine .lst hga (by simpa using (ne_of_none hst3 nga).symm) (by rw [List.length_map]; exact lga) (by rw [List.length_map]; omega) fun i v d e1 e2 => ?_
    exact (pwg [st] (fun x hx => by rw [List.mem_singleton.mp hx, hst3]; exact fun z => by cases z) i v d e1 e2).sub fun x hx => List.mem_cons_of_mem _ hx
  have nb := no_bad good
  have e63 : m.length ≤ 100 := by omega
  repeat kaf_pre
  refine ⟨ga, m, 3, rfl, dg4.sub (by simp), by omega, fun _ sa H5 out S nsa s5 hsa => ?_, fun t hb => by rw [nb] at hb; cases hb⟩
  have lo := stuck_len S
  have dm5 : Dt [sa, st] H5 3 (.ref ma) (momD m) := ((dm4.sub (M' := [st]) (by simp)).more nsa).same s5
  have dg5 : Dt [sa, st] H5 3 (.ref ga) (momD m) := (dg4.more nsa).same s5
  have hst5 := s5 _ _ hst4
  have sast : sa ≠ st := (ne_of_none hst4 nsa).symm
  have hsc5 := s5 _ _ (s4 _ _ hsc3)
  have scsa : sc ≠ sa := ne_of_none (s4 _ _ hsc3) nsa
  repeat kaf_pre
  refine ⟨ma, m, 3, rfl, dm5.sub (by simp), by omega, fun p6 H6 out6 S6 n6 s6 h6 => ?_⟩
  have e6 := S6.unique S
  subst e6
  repeat kaf_pre
  refine ⟨.ref sa, .ref p6, _, rfl, dt_list (s6 _ _ hsa) (by simp) (by omega) 2, dt_list h6 (by simp) (by omega) 2, fun H7 s7 => ?_⟩
  have s57 := s6.trans s7
  repeat kaf_pre
  refine ⟨ga, sa, m, cI out6, 3, rfl, (dg5.same s57).sub (by simp), SqL.of (by rw [s57 _ _ hsa, map_iv_int]; rfl), by unfold cI; rw [List.length_map]; omega, fun _ _ H8 s8 => ?_, (fun t hb => by rw [nb] at hb; cases hb), fun _ t hb => ?_⟩
  case refine_2 =>
    have := List.find?_some hb
    rw [stuck_ok S t (List.mem_of_find?_eq_some hb)] at this
    cases this
  rw [stuck_closed S good]
  repeat kaf_pre
  refine ⟨_, _, .bool true, rfl, .bl, .bl, fun H9 s9 => ?_⟩
  have s59 := (s57.trans s8).trans s9
  repeat kaf_pre
  refine ⟨ma, sa, m, out6, 3, rfl, (dm5.same s59).sub (by simp), by omega, SqL.of (s59 _ _ hsa), S, fun H10 s10 => ?_⟩
  have s510 := s59.trans s10
  repeat kaf_pre
  refine ⟨.ref ga, .ref ma, _, rfl, (dg5.same s510).sub (by simp), (dm5.same s510).sub (by simp), fun H11 s11 => ?_⟩
  have s511 := s510.trans s11
  have hst11 := s511 _ _ hst5
  have hsc11 := s511 _ _ hsc5
  have dm11 := dm5.same s511
  have dg11 := dg5.same s511
  have hsa11 := s511 _ _ hsa
  repeat kaf_pre
  refine ⟨st, sc, ns, a, b, c, d, m.length, rfl, by omega, hst11, hsc11, fun la ws H12 a b c d wr dwA hst12 B12 wl => ?_⟩
  have dw12 := dwA [st] fun x hx => by rw [List.mem_singleton.mp hx, hst11]; exact fun z => by cases z
  obtain ⟨la', xs, k0, e0, e1, hla, _, lxs, _, lpw⟩ := Dt.list_inv dw12
  cases e0
  cases e1
  rw [List.length_map] at lxs
  have dm12 : Dt [sa, st] H12 3 (.ref ma) (momD m) := dm11.keep (B12.sub (by simp))
  have dg12 : Dt [sa, st] H12 3 (.ref ga) (momD m) := dg11.keep (B12.sub (by simp))
  have hsa12 := But.off B12 _ _ sast hsa11
  have hsc12 := But.off B12 _ _ ne hsc11
  repeat kaf_pre
  refine ⟨size_of (by simp), fun pe nE => ?_⟩
  have sE := same_new (o := HO.lst []) nE
  repeat kaf_pre
  refine ⟨size_of (by simp), fun pf nF => ?_⟩
  have sF := same_new (o := HO.lst [.ref pe]) nF
  refine rd_addL ((sE.trans sF) _ _ hla) upd_same (size_of (by simp; omega)) fun pl nL => ?_
  have sL := same_new (o := HO.lst (xs ++ [.ref pe])) nL
  have s1213 := (sE.trans sF).trans sL
  obtain ⟨H13, e13⟩ : ∃ H13, H13 = upd (upd (upd H12 pe (.lst [])) pf (.lst [.ref pe])) pl (.lst (xs ++ [.ref pe])) := ⟨_, rfl⟩
  have hl13 : H13 pl = some (.lst (xs ++ [.ref pe])) := by rw [e13]; exact upd_same
  have he13 : H13 pe = some (.lst []) := by rw [e13]; exact (sF.trans sL) _ _ upd_same
  rw [← e13] at s1213
  rw [← e13]
  have dm13 := dm12.same s1213
  have dg13 := dg12.same s1213
  have hsa13 := s1213 _ _ hsa12
  have hst13 := s1213 _ _ hst12
  have hsc13 := s1213 _ _ hsc12
  -- the lots
  have item : ∀ (i : Nat) x, (xs ++ [V.ref pe])[i]? = some x → ∃ (p : Addr) (y : List Int), x = .ref p ∧ H13 p = some (.lst (y.map V.int)) ∧ y.length ≤ 100 ∧ ∀ t ∈ y, 0 ≤ t ∧ t < (m.length : Int) := by
    intro i x hx
    by_cases hi : i < xs.length
    · rw [List.getElem?_append_left hi] at hx
      have hw := List.getElem?_eq_getElem (l := ws) (i := i) (by omega)
      have dd := lpw i x _ hx (map_at hw)
      obtain ⟨p, rfl, hp, _⟩ := dd.ints_inv
      have := wr _ (List.getElem_mem (by omega : i < ws.length))
      exact ⟨p, _, rfl, s1213 _ _ hp, this.1, this.2⟩
    · rw [List.getElem?_append_right (by omega)] at hx
      cases hj : i - xs.length with
      | zero =>
        rw [hj] at hx
        cases hx
        exact ⟨pe, [], rfl, he13, by simp, by simp⟩
      | succ j => rw [hj] at hx; simp at hx
  refine forL (SqL.of hl13) (fun i σ' H' => Same H13 H' ∧ ∃ v6 v7, σ' = [some (.ref a0), some (.ref st), some (.int (m.length : Int)), some (.ref ma), some (.ref ga), some (.ref sa), v6, v7, none, none, none, none]) ⟨Same.refl _, _, _, rfl⟩ (fun i σ' H' _ h => SqL.of (h.1 _ _ hl13)) ?_ ?_
  · rintro i x σ' H14 hi ⟨s14, v6, v7, rfl⟩
    obtain ⟨p, y, rfl, hp, yz, yr⟩ := item i x hi
    have hp14 := s14 _ _ hp
    have yok : ∀ t ∈ y, okT m.length t = true := fun t ht => okT_iff.mpr (yr t ht)
    repeat kaf_pre
    refine ⟨ma, p, m, y, 3, rfl, (dm13.same s14).sub (by simp), SqL.of hp14, by omega, yok, fun H15 s15 => ?_⟩
    have hp15 := s15 _ _ hp14
    have s1315 := s14.trans s15
    repeat kaf_pre
    intro pc nc
    have sc1 := same_new (o := HO.lst (y.map V.int)) nc
    repeat kaf_pre
    refine ⟨ga, pc, m, y, 3, rfl, (dg13.same (s1315.trans sc1)).sub (by simp), SqL.of upd_same, by omega, fun _ _ H16 s16 => ?_, (fun t hb => by rw [nb] at hb; cases hb), fun _ t hb => ?_⟩
    case refine_2 =>
      have := List.find?_some hb
      rw [yok t (List.mem_of_find?_eq_some hb)] at this
      cases this
    repeat kaf_pre
    refine ⟨_, _, .bool (closedB m y), rfl, .bl, .bl, fun H17 s17 => ?_⟩
    have s1317 := ((s1315.trans sc1).trans s16).trans s17
    have hp17 := s1317 _ _ hp
    have hsa17 := s1317 _ _ hsa13
    repeat kaf_pre
    refine rd_iteB (fun cl => ?_) (fun cl => ?_)
    · repeat kaf_pre
      refine lcLp (SqL.of hp17) (fun _ => true) (iInV (cI out6)) (by rw [List.length_map]; omega) (fun i x Dd acc hi hD R r => ?_) (fun j x Dd acc hj _ hD R rr => ?_) fun hA nA => ?_
      · exact r
      · obtain ⟨u, hu, rfl⟩ := at_map hj
        have s18 := same_new (o := HO.lst acc) hD
        have hsa18 : upd H17 Dd (.lst acc) sa = some (.lst ((cI out6).map V.int)) := by rw [s18 _ _ hsa17, map_iv_int]; rfl
        repeat kaf_pre
        rw [in_int]
        exact rr
      · rw [map_iInV]
        repeat kaf_pre
        have e : (y.map fun u => decide (u ∈ cI out6)) = List.replicate y.length true := by
          rw [List.eq_replicate_iff]
          refine ⟨by simp, fun b hb => ?_⟩
          obtain ⟨u, hu, rfl⟩ := List.mem_map.mp hb
          exact decide_eq_true (closed_in S cl yr u hu)
        rw [in_bl, e, decide_eq_false (by simp)]
        repeat kaf_pre
        exact ⟨s1317.trans (same_new nA), _, _, rfl⟩
    · repeat kaf_pre
      exact ⟨s1317, _, _, rfl⟩
  rintro σ' H14 ⟨s14, v6, v7, rfl⟩
  have dm14 := dm13.same s14
  have dg14 := dg13.same s14
  have hsa14 := s14 _ _ hsa13
  have hst14 := s14 _ _ hst13
  have hsc14 := s14 _ _ hsc13
  repeat kaf_pre
  refine lc_copied (dm14.sub (by simp)) (fun v H R h => by (repeat kaf_pre); exact h) fun ra acc2 H15 nra s15 hra lra pwr => ?_
  have dm15 : Dt [ra, sa, st] H15 3 (.ref ma) (momD m) := (dm14.more nra).same s15
  have dg15 : Dt [ra, sa, st] H15 3 (.ref ga) (momD m) := (dg14.more nra).same s15
  have hsa15 := s15 _ _ hsa14
  have hst15 := s15 _ _ hst14
  have hsc15 := s15 _ _ hsc14
  have rast : ra ≠ st := (ne_of_none hst14 nra).symm
  have rasa : ra ≠ sa := (ne_of_none hsa14 nra).symm
  have rasc : ra ≠ sc := (ne_of_none hsc14 nra).symm
  have pwr0 := pwr [] Al.nil
  repeat kaf_pre
  refine forR (n := 3) rfl (by omega) (fun k σ' H' => ∃ (v9 : Option V) (xs : List V), σ' = [some (.ref a0), some (.ref st), some (.int (m.length : Int)), some (.ref ma), some (.ref ga), some (.ref sa), v6, v7, some (.ref ra), v9, none, none] ∧ But [ra] H15 H' ∧ H' ra = some (.lst xs) ∧ xs.length = m.length + k ∧
      ∀ (i : Nat) v d, xs[i]? = some v → ((m ++ ringL m.length k).map wyD)[i]? = some d → Dt [ra] H' 2 v d)
    ⟨_, acc2, rfl, But.refl _ _, hra, lra, by unfold ringL; simpa using pwr0⟩ ?_ ?_
  · rintro k σ' H16 hk ⟨v9, xs, rfl, B16, hr16, lx, pw⟩
    repeat kaf_pre
    refine ⟨size_of (by simp), fun p1 n1 => ?_⟩
    have t1 := same_new (o := HO.lst [.int ((m.length : Int) + ((k : Int) + 1) % 3), .int (m.length : Int)]) n1
    repeat kaf_pre
    refine ⟨size_of (by simp), fun p2 n2 => ?_⟩
    have t2 := same_new (o := HO.lst [.ref p1]) n2
    have t12 := t1.trans t2
    repeat kaf_pre
    refine rd_append (t12 _ _ hr16) (size_lt (by omega)) ?_
    repeat kaf_pre
    have p1r : p1 ≠ ra := (ne_of_none hr16 n1).symm
    have p2r : p2 ≠ ra := (ne_of_none (t1 _ _ hr16) n2).symm
    refine ⟨_, xs ++ [.ref p2], rfl, (B16.thenS t12).set (by simp), upd_same, by rw [List.length_append, List.length_singleton, lx]; omega, ?_⟩
    have B1 : But [ra] H16 (upd (upd (upd H16 p1 (.lst [.int ((m.length : Int) + ((k : Int) + 1) % 3), .int (m.length : Int)])) p2 (.lst [.ref p1])) ra (.lst (xs ++ [.ref p2]))) := (But.of t12).set (by simp)
    rw [show ringL m.length (k + 1) = ringL m.length k ++ [ringW m.length k] from by unfold ringL; rw [List.range_succ, List.map_append]; rfl, ← List.append_assoc, List.map_append]
    refine dts_snoc (by rw [List.length_map, List.length_append, ring_len, lx]) (fun i v d e1 e2 => (pw i v d e1 e2).keep B1) ?_
    refine .lst (by rw [upd_ne p2r]; exact upd_same) (by simpa using p2r) rfl (by simp) fun i v d e1 e2 => ?_
    cases i with
    | zero =>
      cases e1
      cases e2
      exact Dt.ints (n := 0) (l := [(m.length : Int) + ((k : Int) + 1) % 3, (m.length : Int)]) (by rw [upd_ne p1r]; exact t2 _ _ upd_same) (by simpa using p1r) (by simp)
    | succ i => simp at e1
  rintro σ' H16 ⟨v9, xs2, rfl, B16, hr16, lx2, pw2⟩
  have dr16 : Dt [] H16 3 (.ref ra) (momD (m ++ ringL m.length 3)) := by
    refine .lst hr16 (by simp) (by rw [List.length_map, List.length_append, ring_len, lx2]) (by rw [List.length_map, List.length_append, ring_len]; omega) fun i v d e1 e2 => (pw2 i v d e1 e2).sub (by simp)
  have dm16 : Dt [sa, st] H16 3 (.ref ma) (momD m) := (dm15.keep (B16.sub (by simp))).sub (by simp)
  have dg16 : Dt [sa, st] H16 3 (.ref ga) (momD m) := (dg15.keep (B16.sub (by simp))).sub (by simp)
  have hsa16 := But.off B16 _ _ rasa.symm hsa15
  have hst16 := But.off B16 _ _ rast.symm hst15
  have hsc16 := But.off B16 _ _ rasc.symm hsc15
  have good3 := ring_good good
  have nb3 := no_bad good3
  repeat kaf_pre
  refine ⟨ra, _, 3, rfl, dr16, by rw [List.length_append, ring_len]; omega, fun _ pq H17 o3 S3 npq s17 hpq => ?_, fun t hb => by rw [nb3] at hb; cases hb⟩
  have eo := ring_stuck S S3
  subst eo
  repeat kaf_pre
  refine ⟨size_of (by simp), fun p3 n3 => ?_⟩
  have s18 := same_new (o := HO.lst [.int (m.length : Int), .int ((m.length : Int) + 1), .int ((m.length : Int) + 2)]) n3
  refine rd_addL (s18 _ _ (s17 _ _ hsa16)) upd_same (size_of (by simp; omega)) fun p4 n4 => ?_
  have s19 := same_new (o := HO.lst (out6.map iv ++ [.int (m.length : Int), .int ((m.length : Int) + 1), .int ((m.length : Int) + 2)])) n4
  repeat kaf_pre
  refine ⟨.ref pq, .ref p4, _, rfl, dt_list ((s18.trans s19) _ _ hpq) (by simp) (by simp; omega) 2, dt_list (by rw [List.map_append]; exact upd_same) (by simp) (by simp; omega) 2, fun H20 s20 => ?_⟩
  have s1620 := ((s17.trans s18).trans s19).trans s20
  have hsa20 := s1620 _ _ hsa16
  repeat kaf_pre
  refine rd_append hsa20 (size_lt (by simp; omega)) ?_
  have B21 : But [sa, st] H16 (upd H20 sa (.lst (out6.map iv ++ [.int (-1)]))) := (But.of s1620).set (by simp)
  have dm21 := dm16.keep B21
  have dg21 := dg16.keep B21
  have hst21 : upd H20 sa (.lst (out6.map iv ++ [.int (-1)])) st = _ := (upd_ne sast.symm).trans (s1620 _ _ hst16)
  have hsc21 : upd H20 sa (.lst (out6.map iv ++ [.int (-1)])) sc = _ := (upd_ne scsa).trans (s1620 _ _ hsc16)
  repeat kaf_pre
  refine ⟨ga, m, 3, rfl, dg21.sub (by simp), by omega, fun _ p5 H22 o5 S5 n5 s22 h5 => ?_, fun t hb => by rw [nb] at hb; cases hb⟩
  have e5 := S5.unique S
  subst e5
  repeat kaf_pre
  refine ⟨ma, m, 3, rfl, (dm21.same s22).sub (by simp), by omega, fun p7 H23 o7 S7 n7 s23 h7 => ?_⟩
  have e7 := S7.unique S
  subst e7
  repeat kaf_pre
  refine ⟨.ref p5, .ref p7, _, rfl, dt_list (s23 _ _ h5) (by simp) (by omega) 2, dt_list h7 (by simp) (by omega) 2, fun H24 s24 => ?_⟩
  have s2124 := (s22.trans s23).trans s24
  repeat kaf_pre
  refine ⟨.ref ga, .ref ma, _, rfl, (dg21.same s2124).sub (by simp), (dm21.same s2124).sub (by simp), fun H25 s25 => ?_⟩
  have s2125 := s2124.trans s25
  repeat kaf_pre
  exact ⟨st, sc, ns, a, b, c, d, ma, m, 3, rfl, s2125 _ _ hst21, s2125 _ _ hsc21, (dm21.same s2125).sub (by simp), by omega, good, q⟩
def topS (i : Nat) : Stmt := PySem.Challenge.pw_promisesowned_k39_whole_greatest_closed.main.body.getD i (.Pass ⟨0, 0, 0, 0⟩)
abbrev S_law_start : Stmt := topS 10
theorem sc_law_start : FnScope ["script"] ["script"] (defScope S_law_start) := ⟨rfl, rfl, rfl, by decide +kernel, rfl, by decide +kernel, by decide +kernel⟩
abbrev S_law_draw : Stmt := topS 11
theorem sc_law_draw : FnScope ["state", "many", "value", "mixed"] ["state", "many"] (defScope S_law_draw) := ⟨rfl, rfl, rfl, by decide +kernel, rfl, by decide +kernel, by decide +kernel⟩
abbrev S_law_drawn_ways : Stmt := topS 16
theorem sc_law_drawn_ways : FnScope ["state", "size", "ways", "k", "many", "j"] ["state", "size"] (defScope S_law_drawn_ways) := ⟨rfl, rfl, rfl, by decide +kernel, rfl, by decide +kernel, by decide +kernel⟩
abbrev S_law_drawn_moment : Stmt := topS 18
theorem sc_law_drawn_moment : FnScope ["state", "size", "moment", "k"] ["state", "size"] (defScope S_law_drawn_moment) := ⟨rfl, rfl, rfl, by decide +kernel, rfl, by decide +kernel, by decide +kernel⟩
abbrev S_demand_tasks : Stmt := topS 6
theorem sc_demand_tasks : FnScope ["moment", "ways", "way", "task"] ["moment"] (defScope S_demand_tasks) := ⟨rfl, rfl, rfl, by decide +kernel, rfl, by decide +kernel, by decide +kernel⟩
abbrev S_can_go : Stmt := topS 4
theorem sc_can_go : FnScope ["ways", "hopeful", "way", "task"] ["ways", "hopeful"] (defScope S_can_go) := ⟨rfl, rfl, rfl, by decide +kernel, rfl, by decide +kernel, by decide +kernel⟩
abbrev S_hopeless : Stmt := topS 5
theorem sc_hopeless : FnScope ["moment", "hopeful", "lot", "bright", "task", "grows"] ["moment", "hopeful", "lot"] (defScope S_hopeless) := ⟨rfl, rfl, rfl, by decide +kernel, rfl, by decide +kernel, by decide +kernel⟩
abbrev S_stuck_of : Stmt := topS 7
theorem sc_stuck_of : FnScope ["moment", "_"] ["moment"] (defScope S_stuck_of) := ⟨rfl, rfl, rfl, by decide +kernel, rfl, by decide +kernel, by decide +kernel⟩
abbrev S_law_is_number : Stmt := topS 12
theorem sc_law_is_number : FnScope ["actual"] ["actual"] (defScope S_law_is_number) := ⟨rfl, rfl, rfl, by decide +kernel, rfl, by decide +kernel, by decide +kernel⟩
abbrev S_law_same : Stmt := topS 13
theorem sc_law_same : FnScope ["actual", "expected", "k"] ["actual", "expected"] (defScope S_law_same) := ⟨rfl, rfl, rfl, by decide +kernel, rfl, by decide +kernel, by decide +kernel⟩
abbrev S_law_copied_ways : Stmt := topS 17
theorem sc_law_copied_ways : FnScope ["ways", "way"] ["ways"] (defScope S_law_copied_ways) := ⟨rfl, rfl, rfl, by decide +kernel, rfl, by decide +kernel, by decide +kernel⟩
abbrev S_is_closed : Stmt := topS 8
theorem sc_is_closed : FnScope ["moment", "lot", "task", "way", "other"] ["moment", "lot"] (defScope S_is_closed) := ⟨rfl, rfl, rfl, by decide +kernel, rfl, by decide +kernel, by decide +kernel⟩
abbrev S_law_missing_told : Stmt := topS 22
theorem sc_law_missing_told : FnScope ["moment", "lot", "told", "e"] ["moment", "lot"] (defScope S_law_missing_told) := ⟨rfl, rfl, rfl, by decide +kernel, rfl, by decide +kernel, by decide +kernel⟩
abbrev S_law_spoilt_right : Stmt := topS 23
theorem sc_law_spoilt_right : FnScope ["state", "moment", "size", "spoilt", "wrong", "lot", "ways", "task"] ["state", "moment"] (defScope S_law_spoilt_right) := ⟨rfl, rfl, rfl, by decide +kernel, rfl, by decide +kernel, by decide +kernel⟩
abbrev S_law_lots : Stmt := topS 20
theorem sc_law_lots : FnScope ["state", "size", "lots", "bits", "task", "number", "one", "j", "k"] ["state", "size"] (defScope S_law_lots) := ⟨rfl, rfl, rfl, by decide +kernel, rfl, by decide +kernel, by decide +kernel⟩
abbrev S_law_closed : Stmt := topS 19
theorem sc_law_closed : FnScope ["moment", "lot", "task", "way", "other"] ["moment", "lot"] (defScope S_law_closed) := ⟨rfl, rfl, rfl, by decide +kernel, rfl, by decide +kernel, by decide +kernel⟩
abbrev S_law_goes : Stmt := topS 14
theorem sc_law_goes : FnScope ["ways", "hopeful", "way", "task"] ["ways", "hopeful"] (defScope S_law_goes) := ⟨rfl, rfl, rfl, by decide +kernel, rfl, by decide +kernel, by decide +kernel⟩
abbrev S_law_goes_on : Stmt := topS 21
theorem sc_law_goes_on : FnScope ["moment", "stuck", "gone", "k", "task"] ["moment", "stuck"] (defScope S_law_goes_on) := ⟨rfl, rfl, rfl, by decide +kernel, rfl, by decide +kernel, by decide +kernel⟩
abbrev S_law_left : Stmt := topS 15
theorem sc_law_left : FnScope ["moment", "hopeful", "k", "many", "task"] ["moment"] (defScope S_law_left) := ⟨rfl, rfl, rfl, by decide +kernel, rfl, by decide +kernel, by decide +kernel⟩
abbrev S_law : Stmt := topS 24
theorem sc_law : FnScope ["script", "state", "size", "moment", "given", "stuck", "lot", "closed", "ring", "k", "ways", "task"] ["script"] (defScope S_law) := ⟨rfl, rfl, rfl, by decide +kernel, rfl, by decide +kernel, by decide +kernel⟩
abbrev M_ForkError : Stmt := inClass (topS 1) 0
theorem fm_ForkError : ExL.Frm (defBody M_ForkError) [.par "reason"] [("reason", .par "reason")] := ⟨_, _, _, _, _, [(.par _, 0, _)], [⟨_, .par _, 0, _, _, _, _⟩], rfl, rfl, rfl, rfl⟩
abbrev M_NoTask : Stmt := inClass (topS 2) 0
theorem fm_NoTask : ExL.Frm (defBody M_NoTask) [.lit "no such task"] ((["task"] : List Str).map fun p => (p, .par p)) := ⟨_, _, _, _, _, [(.lit _, _, _)], [⟨_, .par _, 0, _, _, _, _⟩], rfl, rfl, rfl, rfl⟩
structure Txt (P : Program) (w : World) (K : PySem.W.Frag) (mg : Str → Option Value) (Z : Cs) : Prop where
  b_all : mg "all" = none
  b_any : mg "any" = none
  b_bool : mg "bool" = none
  b_int : mg "int" = none
  b_isinstance : mg "isinstance" = none
  b_len : mg "len" = none
  b_list : mg "list" = none
  b_range : mg "range" = none
  b_str : mg "str" = none
  b_tuple : mg "tuple" = none
  g_ForkError : mg "ForkError" = some (.ref Z.ForkError)
  g_NoTask : mg "NoTask" = some (.ref Z.NoTask)
  e_NoTask : Err P w K mg "NoTask" Z.NoTask 2 1 (ExL.errF ["task"] "no such task")
  cf : Cf K Z
section
variable {P : Program} {w : World} {K : PySem.W.Frag} {mg : Str → Option Value} {base : Heap} {Z : Cs}
theorem ok_law_start {f : Addr} {fd : FuncData} (F : Fun K "_law_start" "_law_start" S_law_start f fd) (T : Txt P w K mg Z)  : FnOk P w K mg base CX0 1 f fd ["script"] (spStart K) := by
  refine F.ok sc_law_start (fun vs H Q E h => len_law_start K h) (fun cdv A outer s H vs Q E hr h => ⟨t_law_start K, ?_, rd_law_start K vs H Q E h⟩)
  exact (pss_one (ps_ret (pe_lst (pa_cons (pe_callTy call_listA (by rfl) T.b_list (by decide +kernel) (pa_cons (pv 0) pa_nil)) (pa_cons pe_int (pa_cons pe_int (pa_cons pe_int (pa_cons pe_int pa_nil))))))))
theorem ok_law_draw {f : Addr} {fd : FuncData} (F : Fun K "_law_draw" "_law_draw" S_law_draw f fd) (T : Txt P w K mg Z)  : FnOk P w K mg base CX0 1 f fd ["state", "many"] (spDraw) := by
  refine F.ok sc_law_draw (fun vs H Q E h => len_law_draw K h) (fun cdv A outer s H vs Q E hr h => ⟨t_law_draw K, ?_, rd_law_draw K vs H Q E h⟩)
  exact (pss_consC (ps_if (pt_cmpR (op_eqA hr.units) (pe_ix ix_seq (pv 0) pe_int (fun _ _ => rfl)) pe_int (nomark _)) (pss_cons (ps_if (pt_cmpR op_geA (pe_ix ix_seq (pv 0) pe_int (fun _ _ => rfl)) (pe_callB call_lenA (by rfl) T.b_len (by decide +kernel) (pa_cons (pe_ix ix_seq (pv 0) pe_int (fun _ _ => rfl)) pa_nil)) (nomark _)) (pss_one (ps_ret pe_int)) pss_nil)
  (pss_cons (ps_asg (pe_ix ix_seq (pe_ix ix_seq (pv 0) pe_int (fun _ _ => rfl)) (pe_ix ix_seq (pv 0) pe_int (fun _ _ => rfl)) (fun _ _ => rfl)) (pg_sub (pv 0) pe_int set_list))
  (pss_cons (ps_asg (pe_op op_addA (pe_ix ix_seq (pv 0) pe_int (fun _ _ => rfl)) pe_int) (pg_sub (pv 0) pe_int set_list))
  (pss_cons (ps_asg pe_int (pg_sub (pv 0) pe_int set_list))
  (pss_cons (ps_asg pe_int (pg_sub (pv 0) pe_int set_list))
  (pss_one (ps_if (pt_cmpR op_geA (pe_ix ix_seq (pv 0) pe_int (fun _ _ => rfl)) (pe_op op_powA pe_int pe_int) (nomark _)) (pss_cons (ps_asg pe_int (pg_sub (pv 0) pe_int set_list))
  (pss_one (ps_asg pe_int (pg_sub (pv 0) pe_int set_list)))) pss_nil))))))) pss_nil)
  (pss_cons (ps_asg (pe_op op_subA (pe_ix ix_seq (pv 0) pe_int (fun _ _ => rfl)) pe_int) (pg_sub (pv 0) pe_int set_list))
  (pss_cons (ps_if (pt_cmpR (op_eqA hr.units) (pe_ix ix_seq (pv 0) pe_int (fun _ _ => rfl)) pe_int (nomark _)) (pss_cons (ps_set (i := 2) sc_law_draw.nd rfl (Or.inl rfl) (pe_op op_modA (pe_callTy call_intA (by rfl) T.b_int (by decide +kernel) (pa_cons (pe_ix ix_seq (pv 0) pe_int (fun _ _ => rfl)) pa_nil)) (pv 1)))
  (pss_cons (ps_asg (pe_op op_divA (pe_callTy call_intA (by rfl) T.b_int (by decide +kernel) (pa_cons (pe_ix ix_seq (pv 0) pe_int (fun _ _ => rfl)) pa_nil)) (pv 1)) (pg_sub (pv 0) pe_int set_list))
  (pss_consC (ps_if (pt_cmpR (op_eqA hr.units) (pe_ix ix_seq (pv 0) pe_int (fun _ _ => rfl)) pe_int (nomark _)) (pss_one (ps_asg pe_int (pg_sub (pv 0) pe_int set_list))) pss_nil)
  (pss_one (ps_ret (pv 2)))))) pss_nil)
  (pss_cons (ps_set (i := 3) sc_law_draw.nd rfl (Or.inl rfl) (pe_op op_modA (pe_callTy call_intA (by rfl) T.b_int (by decide +kernel) (pa_cons (pe_op op_addA (pe_op op_addA (pe_op op_mulA (pe_ix ix_seq (pv 0) pe_int (fun _ _ => rfl)) pe_int) (pe_op op_mulA (pe_ix ix_seq (pv 0) pe_int (fun _ _ => rfl)) pe_int)) pe_int) pa_nil)) pe_int))
  (pss_cons (ps_set (i := 3) sc_law_draw.nd rfl (Or.inl rfl) (pe_op op_modA (pe_callTy call_intA (by rfl) T.b_int (by decide +kernel) (pa_cons (pe_op op_addA (pe_op op_addA (pe_op op_mulA (pv 3) pe_int) (pe_op op_divA (pv 3) pe_int)) pe_int) pa_nil)) pe_int))
  (pss_one (ps_ret (pe_op op_modA (pe_callTy call_intA (by rfl) T.b_int (by decide +kernel) (pa_cons (pv 3) pa_nil)) (pv 1)))))))))
theorem ok_law_drawn_ways {f : Addr} {fd : FuncData} (F : Fun K "_law_drawn_ways" "_law_drawn_ways" S_law_drawn_ways f fd) (T : Txt P w K mg Z) (G_law_draw : Cal P w K mg base CX0 "_law_draw" 1 ["state", "many"] (spDraw)) : FnOk P w K mg base CX0 2 f fd ["state", "size"] (spWays) := by
  refine F.ok sc_law_drawn_ways (fun vs H Q E h => len_law_drawn_ways K h) (fun cdv A outer s H vs Q E hr h => ⟨t_law_drawn_ways K, ?_, rd_law_drawn_ways K vs H Q E h⟩)
  exact (pss_cons (ps_set (i := 2) sc_law_drawn_ways.nd rfl (Or.inl rfl) (pe_lst pa_nil))
  (pss_cons (ps_for PassesOwn.never rfl (pi_range1 (by rfl) T.b_range (pa_cons (pe_ix ix_seq (pe_lst (pa_cons pe_int (pa_cons pe_int (pa_cons pe_int (pa_cons pe_int (pa_cons pe_int (pa_cons pe_int pa_nil))))))) (pe_cal G_law_draw (hr.mono (by decide)) pass0 (pa_cons (pv 0) (pa_cons pe_int pa_nil))) (fun _ _ => rfl)) pa_nil)) (pg_name (i := 3) sc_law_drawn_ways.nd rfl (Or.inl rfl)) (pss_cons (ps_set (i := 4) sc_law_drawn_ways.nd rfl (Or.inl rfl) (pe_ix ix_seq (pe_lst (pa_cons pe_int (pa_cons pe_int (pa_cons pe_int (pa_cons pe_int (pa_cons pe_int (pa_cons pe_int (pa_cons pe_int (pa_cons pe_int pa_nil))))))))) (pe_cal G_law_draw (hr.mono (by decide)) pass0 (pa_cons (pv 0) (pa_cons pe_int pa_nil))) (fun _ _ => rfl)))
  (pss_one (ps_expr (pe_bm PySem.F.plainAttrs_list PySem.F.slot_list_append PySem.F.type_list_append mt_append (pv 2) (pa_cons (pe_lc (own := [("j", 5)]) (g := gName 5) (tt := tYes) (te := (tCall (spDraw) [] E0 (tCons (tVar 0) (tCons (tVar 1) tNil)))) rfl sc_law_drawn_ways.nd (pi_range1 (by rfl) T.b_range (pa_cons (pv 4) pa_nil)) (blkOk_by (N := ["state", "size", "ways", "k", "many", "j"]) (sc := defScope S_law_drawn_ways) (by decide +kernel)) (fun _ _ _ _ _ => pg_name (i := 5) sc_law_drawn_ways.nd rfl (Or.inl rfl)) (fun _ _ _ _ _ => pts_nil) (fun _ _ _ _ _ => (pe_cal G_law_draw (hr.mono (by decide)) pass0 (pa_cons (pv 0) (pa_cons (pv 1) pa_nil))))) pa_nil))))))
  (pss_one (ps_ret (pv 2)))))
theorem ok_law_drawn_moment {f : Addr} {fd : FuncData} (F : Fun K "_law_drawn_moment" "_law_drawn_moment" S_law_drawn_moment f fd) (T : Txt P w K mg Z) (G_law_draw : Cal P w K mg base CX0 "_law_draw" 1 ["state", "many"] (spDraw)) (G_law_drawn_ways : Cal P w K mg base CX0 "_law_drawn_ways" 2 ["state", "size"] (spWays)) : FnOk P w K mg base CX0 3 f fd ["state", "size"] (spMoment) := by
  refine F.ok sc_law_drawn_moment (fun vs H Q E h => len_law_drawn_moment K h) (fun cdv A outer s H vs Q E hr h => ⟨t_law_drawn_moment K, ?_, rd_law_drawn_moment K vs H Q E h⟩)
  exact (pss_cons (ps_set (i := 2) sc_law_drawn_moment.nd rfl (Or.inl rfl) (pe_lst pa_nil))
  (pss_cons (ps_for PassesOwn.never rfl (pi_range1 (by rfl) T.b_range (pa_cons (pv 1) pa_nil)) (pg_name (i := 3) sc_law_drawn_moment.nd rfl (Or.inl rfl)) (pss_one (ps_if (pt_cmpR (op_eqA hr.units) (pe_cal G_law_draw (hr.mono (by decide)) pass0 (pa_cons (pv 0) (pa_cons pe_int pa_nil))) pe_int (nomark _)) (pss_one (ps_expr (pe_bm PySem.F.plainAttrs_list PySem.F.slot_list_append PySem.F.type_list_append mt_append (pv 2) (pa_cons pe_non pa_nil)))) (pss_one (ps_expr (pe_bm PySem.F.plainAttrs_list PySem.F.slot_list_append PySem.F.type_list_append mt_append (pv 2) (pa_cons (pe_cal G_law_drawn_ways (hr.mono (by decide)) pass0 (pa_cons (pv 0) (pa_cons (pv 1) pa_nil))) pa_nil)))))))
  (pss_one (ps_ret (pv 2)))))
theorem ok_demand_tasks {f : Addr} {fd : FuncData} (F : Fun K "demand_tasks" "demand_tasks" S_demand_tasks f fd) (T : Txt P w K mg Z)  : FnOk P w K mg base (L2.CX P w) 1 f fd ["moment"] (spDemand K Z) := by
  refine F.okX sc_demand_tasks (fun vs H Q E h => len_demand_tasks K h) (fun cdv A outer s H vs Q E hr h => ⟨t_demand_tasks K Z E, ?_, rd_demand_tasks K Z T.cf vs H Q E h⟩)
  exact (pss_one (ps_for (passes_of rfl) rfl (pi_any (pv 0)) (pg_name (i := 1) sc_demand_tasks.nd rfl (Or.inl rfl)) (pss_one (ps_if (pt_cmpR op_notNA (pv 1) pe_non (nomark _)) (pss_one (ps_for (passes_of rfl) rfl (pi_any (pv 1)) (pg_name (i := 2) sc_demand_tasks.nd rfl (Or.inl rfl)) (pss_one (ps_for (passes_of rfl) rfl (pi_any (pv 2)) (pg_name (i := 3) sc_demand_tasks.nd rfl (Or.inl rfl)) (pss_one (ps_if (pt_not (pt_chain op_leA op_ltA pe_int (pv 3) (pe_callB call_lenA (by rfl) T.b_len (by decide +kernel) (pa_cons (pv 0) pa_nil)))) (pss_one (ps_raiseE rfl T.e_NoTask (Room.er hr (by decide)) (by decide) (takes_of rfl rfl rfl rfl) (pa_cons (pv 3) pa_nil))) pss_nil)))))) pss_nil))))
theorem ok_can_go {f : Addr} {fd : FuncData} (F : Fun K "can_go" "can_go" S_can_go f fd) (T : Txt P w K mg Z)  : FnOk P w K mg base CX0 1 f fd ["ways", "hopeful"] (spCanGo K) := by
  refine F.ok sc_can_go (fun vs H Q E h => len_can_go K h) (fun cdv A outer s H vs Q E hr h => ⟨t_can_go K, ?_, rd_can_go K vs H Q E h⟩)
  exact (pss_cons (ps_if (pt_cmpR op_isNA (pv 0) pe_non (nomark _)) (pss_one (ps_ret pe_bl)) pss_nil)
  (pss_cons (ps_for PassesOwn.never rfl (pi_any (pv 0)) (pg_name (i := 2) sc_can_go.nd rfl (Or.inl rfl)) (pss_one (ps_if (pt_tru (pe_callB (cr_all rfl) (by rfl) T.b_all (by decide +kernel) (pa_cons (pe_lc (own := [("task", 3)]) (g := gName 3) (tt := tYes) (te := (tOp (rIx K) (tVar 1) (tVar 3))) rfl sc_can_go.nd (pi_any (pv 2)) (blkOk_by (N := ["ways", "hopeful", "way", "task"]) (sc := defScope S_can_go) (by decide +kernel)) (fun _ _ _ _ _ => pg_name (i := 3) sc_can_go.nd rfl (Or.inl rfl)) (fun _ _ _ _ _ => pts_nil) (fun _ _ _ _ _ => (pe_ix ix_seq (pv 1) (pv 3) (fun _ _ => rfl)))) pa_nil))) (pss_one (ps_ret pe_bl)) pss_nil)))
  (pss_one (ps_ret pe_bl))))
theorem ok_hopeless {f : Addr} {fd : FuncData} (F : Fun K "hopeless" "hopeless" S_hopeless f fd) (T : Txt P w K mg Z) (G_can_go : Cal P w K mg base CX0 "can_go" 1 ["ways", "hopeful"] (spCanGo K)) : FnOk P w K mg base CX0 2 f fd ["moment", "hopeful", "lot"] (spHopeless K) := by
  refine F.ok sc_hopeless (fun vs H Q E h => len_hopeless K h) (fun cdv A outer s H vs Q E hr h => ⟨t_hopeless K, ?_, rd_hopeless K vs H Q E h⟩)
  exact (pss_cons (ps_set (i := 3) sc_hopeless.nd rfl (Or.inr rfl) (pe_callTy call_listA (by rfl) T.b_list (by decide +kernel) (pa_cons (pv 1) pa_nil)))
  (pss_cons (ps_for PassesOwn.never rfl (pi_any (pv 2)) (pg_name (i := 4) sc_hopeless.nd rfl (Or.inl rfl)) (pss_one (ps_asg pe_bl (pg_sub (pv 3) (pv 4) set_list))))
  (pss_cons (ps_set (i := 5) sc_hopeless.nd rfl (Or.inl rfl) pe_bl)
  (pss_cons (ps_while PassesOwn.never (pt_tru (pv 5)) (pss_cons (ps_set (i := 5) sc_hopeless.nd rfl (Or.inl rfl) pe_bl)
  (pss_one (ps_for PassesOwn.never rfl (pi_any (pv 2)) (pg_name (i := 4) sc_hopeless.nd rfl (Or.inl rfl)) (pss_one (ps_if (PW.pt (pw_and (pt_not (pt_tru (pe_ix ix_seq (pv 3) (pv 4) (fun _ _ => rfl)))) (pw_and1 (pt_tru (pe_cal G_can_go (hr.mono (by decide)) pass0 (pa_cons (pe_ix ix_seq (pv 0) (pv 4) (fun _ _ => rfl)) (pa_cons (pv 3) pa_nil))))))) (pss_cons (ps_asg pe_bl (pg_sub (pv 3) (pv 4) set_list))
  (pss_one (ps_set (i := 5) sc_hopeless.nd rfl (Or.inl rfl) pe_bl))) pss_nil))))))
  (pss_one (ps_ret (pe_lc (own := [("task", 4)]) (g := gName 4) (tt := (tNot (tTru K (tOp (rIx K) (tVar 3) (tVar 4))))) (te := (tVar 4)) rfl sc_hopeless.nd (pi_any (pv 2)) (blkOk_by (N := ["moment", "hopeful", "lot", "bright", "task", "grows"]) (sc := defScope S_hopeless) (by decide +kernel)) (fun _ _ _ _ _ => pg_name (i := 4) sc_hopeless.nd rfl (Or.inl rfl)) (fun _ _ _ _ _ => (pts_one (pt_not (pt_tru (pe_ix ix_seq (pv 3) (pv 4) (fun _ _ => rfl)))))) (fun _ _ _ _ _ => (pv 4)))))))))
theorem ok_stuck_of {f : Addr} {fd : FuncData} (F : Fun K "stuck_of" "stuck_of" S_stuck_of f fd) (T : Txt P w K mg Z) (G_demand_tasks : Cal P w K mg base (L2.CX P w) "demand_tasks" 1 ["moment"] (spDemand K Z)) (G_hopeless : Cal P w K mg base CX0 "hopeless" 2 ["moment", "hopeful", "lot"] (spHopeless K)) : FnOk P w K mg base (L2.CX P w) 3 f fd ["moment"] (spStuckOf K Z) := by
  refine F.okX sc_stuck_of (fun vs H Q E h => len_stuck_of K h) (fun cdv A outer s H vs Q E hr h => ⟨t_stuck_of K Z E, ?_, rd_stuck_of K Z T.cf vs H Q E h⟩)
  exact (pss_cons (ps_expr (pe_calS G_demand_tasks (hr.mono (by decide)) (fun σ => passAt (takes_of rfl rfl rfl rfl) σ) (pa_cons (pv 0) pa_nil)))
  (pss_one (ps_ret (pe_cal G_hopeless (hr.mono (by decide)) pass0 (pa_cons (pv 0) (pa_cons (pe_lc (own := [("_", 1)]) (g := gName 1) (tt := tYes) (te := (tC (.bl true))) rfl sc_stuck_of.nd (pi_any (pv 0)) (blkOk_by (N := ["moment", "_"]) (sc := defScope S_stuck_of) (by decide +kernel)) (fun _ _ _ _ _ => pg_name (i := 1) sc_stuck_of.nd rfl (Or.inl rfl)) (fun _ _ _ _ _ => pts_nil) (fun _ _ _ _ _ => pe_bl)) (pa_cons (pe_listRg rfl (by rfl) T.b_list (prg_1 (by rfl) T.b_range (pe_callB call_lenA (by rfl) T.b_len (by decide +kernel) (pa_cons (pv 0) pa_nil)))) pa_nil)))))))
theorem ok_law_is_number {f : Addr} {fd : FuncData} (F : Fun K "_law_is_number" "_law_is_number" S_law_is_number f fd) (T : Txt P w K mg Z)  : FnOk P w K mg base CX0 1 f fd ["actual"] (spIsNum) := by
  refine F.ok sc_law_is_number (fun vs H Q E h => len_law_is_number K h) (fun cdv A outer s H vs Q E hr h => ⟨t_law_is_number K, ?_, rd_law_is_number K vs H Q E h⟩)
  exact (pss_one (ps_ret (pe_and (pe_callB call_isA (by rfl) T.b_isinstance (by decide +kernel) (pa_cons (pv 0) (pa_cons (pe_bltn (v := .ty "int") (by rfl) T.b_int (by decide +kernel) rfl) pa_nil))) (pe_one (pe_not (pe_callB call_isA (by rfl) T.b_isinstance (by decide +kernel) (pa_cons (pv 0) (pa_cons (pe_bltn (v := .ty "bool") (by rfl) T.b_bool (by decide +kernel) rfl) pa_nil))))))))
theorem ok_law_same {f : Addr} {fd : FuncData} (F : Fun K "_law_same" "_law_same" S_law_same f fd) (T : Txt P w K mg Z) (gm : mg "_law_same" = some (.ref f)) (B : Binds K fd ["actual", "expected"] []) (G_law_is_number : Cal P w K mg base CX0 "_law_is_number" 1 ["actual"] (spIsNum)) : ∀ d : Nat, FnOk P w K mg base CX0 (d + 2) f fd ["actual", "expected"] (spSm K d)
  | 0 => ⟨fun vs H Q E h => h.elim, fun A outer s H args us vs Q E _ _ _ _ h => h.elim⟩
  | d + 1 => by
    have G_self : Cal P w K mg base CX0 "_law_same" (d + 2) ["actual", "expected"] (spSm K d) := ⟨_, _, ok_law_same F T gm B G_law_is_number d, gm, F.kp, B⟩
    refine F.ok sc_law_same (fun vs H Q E h => len_law_same K h) (fun cdv A outer s H vs Q E hr h => ⟨t_law_same K (spSm K d), ?_, rd_law_same K d vs H Q E h⟩)
    exact (pss_cons (ps_if (PW.pt (pw_or (pt_tru (pe_callB call_isA (by rfl) T.b_isinstance (by decide +kernel) (pa_cons (pv 1) (pa_cons (pe_bltn (v := .ty "list") (by rfl) T.b_list (by decide +kernel) rfl) pa_nil)))) (pw_or1 (pt_tru (pe_callB call_isA (by rfl) T.b_isinstance (by decide +kernel) (pa_cons (pv 1) (pa_cons (pe_bltn (v := .ty "tuple") (by rfl) T.b_tuple (by decide +kernel) rfl) pa_nil))))))) (pss_cons (ps_if (PW.pt (pw_or (pt_cmpR (op_neA hr.units) (pe_callB call_isA (by rfl) T.b_isinstance (by decide +kernel) (pa_cons (pv 0) (pa_cons (pe_bltn (v := .ty "list") (by rfl) T.b_list (by decide +kernel) rfl) pa_nil))) (pe_callB call_isA (by rfl) T.b_isinstance (by decide +kernel) (pa_cons (pv 1) (pa_cons (pe_bltn (v := .ty "list") (by rfl) T.b_list (by decide +kernel) rfl) pa_nil))) (nomark _)) (pw_or1 (pt_cmpR (op_neA hr.units) (pe_callB call_isA (by rfl) T.b_isinstance (by decide +kernel) (pa_cons (pv 0) (pa_cons (pe_bltn (v := .ty "tuple") (by rfl) T.b_tuple (by decide +kernel) rfl) pa_nil))) (pe_callB call_isA (by rfl) T.b_isinstance (by decide +kernel) (pa_cons (pv 1) (pa_cons (pe_bltn (v := .ty "tuple") (by rfl) T.b_tuple (by decide +kernel) rfl) pa_nil))) (nomark _))))) (pss_one (ps_ret pe_bl)) pss_nil)
  (pss_cons (ps_if (pt_cmpR (op_neA hr.units) (pe_callB call_lenA (by rfl) T.b_len (by decide +kernel) (pa_cons (pv 0) pa_nil)) (pe_callB call_lenA (by rfl) T.b_len (by decide +kernel) (pa_cons (pv 1) pa_nil)) (nomark _)) (pss_one (ps_ret pe_bl)) pss_nil)
  (pss_one (ps_ret (pe_cmpR op_notInA pe_bl (pe_lc (own := [("k", 2)]) (g := gName 2) (tt := tYes) (te := (tCall (spSm K d) [] E0 (tCons (tOp (rIx K) (tVar 0) (tVar 2)) (tCons (tOp (rIx K) (tVar 1) (tVar 2)) tNil)))) rfl sc_law_same.nd (pi_range1 (by rfl) T.b_range (pa_cons (pe_callB call_lenA (by rfl) T.b_len (by decide +kernel) (pa_cons (pv 1) pa_nil)) pa_nil)) (blkOk_by (N := ["actual", "expected", "k"]) (sc := defScope S_law_same) (by decide +kernel)) (fun _ _ _ _ _ => pg_name (i := 2) sc_law_same.nd rfl (Or.inl rfl)) (fun _ _ _ _ _ => pts_nil) (fun _ _ _ _ _ => (pe_cal G_self (hr.mono (by omega)) pass0 (pa_cons (pe_ix ix_seq (pv 0) (pv 2) (fun _ _ => rfl)) (pa_cons (pe_ix ix_seq (pv 1) (pv 2) (fun _ _ => rfl)) pa_nil))))) rfl))))) pss_nil)
  (pss_cons (ps_if (PW.pt (pw_or (pt_cmpR op_isNA (pv 1) pe_non (nomark _)) (pw_or1 (pt_tru (pe_callB call_isA (by rfl) T.b_isinstance (by decide +kernel) (pa_cons (pv 1) (pa_cons (pe_bltn (v := .ty "bool") (by rfl) T.b_bool (by decide +kernel) rfl) pa_nil))))))) (pss_one (ps_ret (pe_and (pe_or (pe_cmpR op_isNA (pv 0) pe_non (nomark _)) (pe_one (pe_callB call_isA (by rfl) T.b_isinstance (by decide +kernel) (pa_cons (pv 0) (pa_cons (pe_bltn (v := .ty "bool") (by rfl) T.b_bool (by decide +kernel) rfl) pa_nil))))) (pe_one (pe_cmpR (op_eqA hr.units) (pv 0) (pv 1) (nomark _)))))) pss_nil)
  (pss_cons (ps_if (pt_tru (pe_callB call_isA (by rfl) T.b_isinstance (by decide +kernel) (pa_cons (pv 1) (pa_cons (pe_bltn (v := .ty "str") (by rfl) T.b_str (by decide +kernel) rfl) pa_nil)))) (pss_one (ps_ret (pe_and (pe_callB call_isA (by rfl) T.b_isinstance (by decide +kernel) (pa_cons (pv 0) (pa_cons (pe_bltn (v := .ty "str") (by rfl) T.b_str (by decide +kernel) rfl) pa_nil))) (pe_one (pe_cmpR (op_eqA hr.units) (pv 0) (pv 1) (nomark _)))))) pss_nil)
  (pss_one (ps_ret (pe_and (pe_cal G_law_is_number (hr.mono (by omega)) pass0 (pa_cons (pv 0) pa_nil)) (pe_one (pe_cmpR (op_eqA hr.units) (pv 0) (pv 1) (nomark _)))))))))
theorem ok_law_copied_ways {f : Addr} {fd : FuncData} (F : Fun K "_law_copied_ways" "_law_copied_ways" S_law_copied_ways f fd) (T : Txt P w K mg Z)  : FnOk P w K mg base CX0 1 f fd ["ways"] (spCopied K) := by
  refine F.ok sc_law_copied_ways (fun vs H Q E h => len_law_copied_ways K h) (fun cdv A outer s H vs Q E hr h => ⟨t_law_copied_ways K, ?_, rd_law_copied_ways K vs H Q E h⟩)
  exact (pss_cons (ps_if (pt_cmpR op_isNA (pv 0) pe_non (nomark _)) (pss_one (ps_ret pe_non)) pss_nil)
  (pss_one (ps_ret (pe_lc (own := [("way", 1)]) (g := gName 1) (tt := tYes) (te := (tCB (rListOf K) (tCons (tVar 1) tNil))) rfl sc_law_copied_ways.nd (pi_any (pv 0)) (blkOk_by (N := ["ways", "way"]) (sc := defScope S_law_copied_ways) (by decide +kernel)) (fun _ _ _ _ _ => pg_name (i := 1) sc_law_copied_ways.nd rfl (Or.inl rfl)) (fun _ _ _ _ _ => pts_nil) (fun _ _ _ _ _ => (pe_callTy call_listA (by rfl) T.b_list (by decide +kernel) (pa_cons (pv 1) pa_nil)))))))
theorem ok_is_closed {f : Addr} {fd : FuncData} (F : Fun K "is_closed" "is_closed" S_is_closed f fd) (T : Txt P w K mg Z) (G_demand_tasks : Cal P w K mg base (L2.CX P w) "demand_tasks" 1 ["moment"] (spDemand K Z)) : FnOk P w K mg base (L2.CX P w) 2 f fd ["moment", "lot"] (spIsClosed K Z) := by
  refine F.okX sc_is_closed (fun vs H Q E h => len_is_closed K h) (fun cdv A outer s H vs Q E hr h => ⟨t_is_closed K Z E, ?_, rd_is_closed K Z T.cf vs H Q E h⟩)
  exact (pss_cons (ps_expr (pe_calS G_demand_tasks (hr.mono (by decide)) (fun σ => passAt (takes_of rfl rfl rfl rfl) σ) (pa_cons (pv 0) pa_nil)))
  (pss_cons (ps_for (passes_of rfl) rfl (pi_any (pv 1)) (pg_name (i := 2) sc_is_closed.nd rfl (Or.inl rfl)) (pss_one (ps_if (pt_not (pt_chain op_leA op_ltA pe_int (pv 2) (pe_callB call_lenA (by rfl) T.b_len (by decide +kernel) (pa_cons (pv 0) pa_nil)))) (pss_one (ps_raiseE rfl T.e_NoTask (Room.er hr (by decide)) (by decide) (takes_of rfl rfl rfl rfl) (pa_cons (pv 2) pa_nil))) pss_nil)))
  (pss_cons (ps_for (passes_of rfl) rfl (pi_any (pv 1)) (pg_name (i := 2) sc_is_closed.nd rfl (Or.inl rfl)) (pss_cons (ps_if (pt_cmpR op_isNA (pe_ix ix_seq (pv 0) (pv 2) (fun _ _ => rfl)) pe_non (nomark _)) (pss_one (ps_ret pe_bl)) pss_nil)
  (pss_one (ps_for (passes_of rfl) rfl (pi_any (pe_ix ix_seq (pv 0) (pv 2) (fun _ _ => rfl))) (pg_name (i := 3) sc_is_closed.nd rfl (Or.inl rfl)) (pss_one (ps_if (pt_not (pt_tru (pe_callB (cr_any rfl) (by rfl) T.b_any (by decide +kernel) (pa_cons (pe_lc (own := [("other", 4)]) (g := gName 4) (tt := tYes) (te := (tOp (rInA K) (tVar 4) (tVar 1))) rfl sc_is_closed.nd (pi_any (pv 3)) (blkOk_by (N := ["moment", "lot", "task", "way", "other"]) (sc := defScope S_is_closed) (by decide +kernel)) (fun _ _ _ _ _ => pg_name (i := 4) sc_is_closed.nd rfl (Or.inl rfl)) (fun _ _ _ _ _ => pts_nil) (fun _ _ _ _ _ => (pe_cmpR op_inA (pv 4) (pv 1) rfl))) pa_nil)))) (pss_one (ps_ret pe_bl)) pss_nil))))))
  (pss_one (ps_ret pe_bl)))))
theorem ok_law_missing_told {f : Addr} {fd : FuncData} (F : Fun K "_law_missing_told" "_law_missing_told" S_law_missing_told f fd) (T : Txt P w K mg Z) (G_stuck_of : Cal P w K mg base (L2.CX P w) "stuck_of" 3 ["moment"] (spStuckOf K Z)) (G_is_closed : Cal P w K mg base (L2.CX P w) "is_closed" 2 ["moment", "lot"] (spIsClosed K Z)) : FnOk P w K mg base CX0 4 f fd ["moment", "lot"] (spTold K) := by
  refine F.ok sc_law_missing_told (fun vs H Q E h => len_law_missing_told K h) (fun cdv A outer s H vs Q E hr h => ⟨t_law_missing_told K Z, ?_, rd_law_missing_told K Z T.cf vs H Q E h⟩)
  exact (pss_cons (ps_set (i := 2) sc_law_missing_told.nd rfl (Or.inl rfl) (pe_lst pa_nil))
  (pss_cons (ps_try_as (i := 3) (tb := (fun W => (tDrop (tCallS (spStuckOf K Z) (WE W) (tCons (tVar 0) tNil))))) (ts := (fun a cls d => (tDrop (tBM K "list" rAppend (tVar 2) (tCons (tXg K a cls d "task" (tVar 3)) tNil))))) (Wout := (fun _ _ _ _ => False)) rfl rfl sc_law_missing_told.nd rfl rfl ⟨rfl, by decide, Or.inl T.g_NoTask⟩ takes0 (fun W pn xe tk po => (pss_one (ps_expr (pe_calS G_stuck_of (hr.mono (by decide)) (fun σ => passAt tk σ) (pa_cons (pv 0) pa_nil))))) (fun a oe cls d pn hz hf => (pss_one (ps_expr (pe_bm PySem.F.plainAttrs_list PySem.F.slot_list_append PySem.F.type_list_append mt_append (pv 2) (pa_cons (pe_xg hz hf (pv 3)) pa_nil))))))
  (pss_cons (ps_try_as (i := 3) (tb := (fun W => (tDrop (tCallS (spIsClosed K Z) (WE W) (tCons (tVar 0) (tCons (tVar 1) tNil)))))) (ts := (fun a cls d => (tDrop (tBM K "list" rAppend (tVar 2) (tCons (tXg K a cls d "task" (tVar 3)) tNil))))) (Wout := (fun _ _ _ _ => False)) rfl rfl sc_law_missing_told.nd rfl rfl ⟨rfl, by decide, Or.inl T.g_NoTask⟩ takes0 (fun W pn xe tk po => (pss_one (ps_expr (pe_calS G_is_closed (hr.mono (by decide)) (fun σ => passAt tk σ) (pa_cons (pv 0) (pa_cons (pv 1) pa_nil)))))) (fun a oe cls d pn hz hf => (pss_one (ps_expr (pe_bm PySem.F.plainAttrs_list PySem.F.slot_list_append PySem.F.type_list_append mt_append (pv 2) (pa_cons (pe_xg hz hf (pv 3)) pa_nil))))))
  (pss_one (ps_ret (pv 2))))))
theorem ok_law_spoilt_right {f : Addr} {fd : FuncData} (F : Fun K "_law_spoilt_right" "_law_spoilt_right" S_law_spoilt_right f fd) (T : Txt P w K mg Z) (G_law_same : Cal P w K mg base CX0 "_law_same" 6 ["actual", "expected"] (spSm K 4)) (G_law_copied_ways : Cal P w K mg base CX0 "_law_copied_ways" 1 ["ways"] (spCopied K)) (G_law_draw : Cal P w K mg base CX0 "_law_draw" 1 ["state", "many"] (spDraw)) (G_law_missing_told : Cal P w K mg base CX0 "_law_missing_told" 4 ["moment", "lot"] (spTold K)) : FnOk P w K mg base CX0 7 f fd ["state", "moment"] (spSpoilt K) := by
  refine F.ok sc_law_spoilt_right (fun vs H Q E h => len_law_spoilt_right K h) (fun cdv A outer s H vs Q E hr h => ⟨t_law_spoilt_right K, ?_, rd_law_spoilt_right K vs H Q E h⟩)
  exact (pss_cons (ps_set (i := 2) sc_law_spoilt_right.nd rfl (Or.inl rfl) (pe_callB call_lenA (by rfl) T.b_len (by decide +kernel) (pa_cons (pv 1) pa_nil)))
  (pss_cons (ps_setLc (i := 3) (own := [("ways", 6)]) (g := gName 6) (tt := tYes) (te := (tCall (spCopied K) [] E0 (tCons (tVar 6) tNil))) rfl sc_law_spoilt_right.nd rfl rfl (sw_true rfl rfl rfl (by decide +kernel)) (pi_any (pv 1)) (blkOk_by (N := ["state", "moment", "size", "spoilt", "wrong", "lot", "ways", "task"]) (sc := defScope S_law_spoilt_right) (by decide +kernel)) (fun _ _ _ _ _ => pg_name (i := 6) sc_law_spoilt_right.nd rfl (Or.inl rfl)) (fun _ _ _ _ _ => pts_nil) (fun _ _ _ _ _ => (pe_cal G_law_copied_ways (hr.mono (by decide)) pass0 (pa_cons (pv 6) pa_nil))))
  (pss_cons (ps_expr (pe_bm PySem.F.plainAttrs_list PySem.F.slot_list_append PySem.F.type_list_append mt_append (pv 3) (pa_cons (pe_lst (pa_cons (pe_lst (pa_cons pe_int (pa_cons (pe_op op_addA (pv 2) pe_int) pa_nil))) (pa_cons (pe_lst (pa_cons (pe_op op_subA (pe_cal G_law_draw (hr.mono (by decide)) pass0 (pa_cons (pv 0) (pa_cons pe_int pa_nil))) pe_int) pa_nil)) pa_nil))) pa_nil)))
  (pss_cons (ps_if (pt_not (pt_tru (pe_cal G_law_same (hr.mono (by decide)) pass0 (pa_cons (pe_cal G_law_missing_told (hr.mono (by decide)) pass0 (pa_cons (pv 3) (pa_cons (pe_lst (pa_cons (pe_op op_addA (pv 2) pe_int) pa_nil)) pa_nil))) (pa_cons (pe_lst (pa_cons (pe_op op_addA (pv 2) pe_int) (pa_cons (pe_op op_addA (pv 2) pe_int) pa_nil))) pa_nil))))) (pss_one (ps_ret pe_bl)) pss_nil)
  (pss_cons (ps_set (i := 4) sc_law_spoilt_right.nd rfl (Or.inl rfl) (pe_ix ix_seq (pe_lst (pa_cons (pe_un un_negA pe_int) (pa_cons (pv 2) pa_nil))) (pe_cal G_law_draw (hr.mono (by decide)) pass0 (pa_cons (pv 0) (pa_cons pe_int pa_nil))) (fun _ _ => rfl)))
  (pss_cons (ps_set (i := 5) sc_law_spoilt_right.nd rfl (Or.inl rfl) (pe_op op_addA (pe_lc (own := [("task", 7)]) (g := gName 7) (tt := tYes) (te := (tVar 7)) rfl sc_law_spoilt_right.nd (pi_range1 (by rfl) T.b_range (pa_cons (pv 2) pa_nil)) (blkOk_by (N := ["state", "moment", "size", "spoilt", "wrong", "lot", "ways", "task"]) (sc := defScope S_law_spoilt_right) (by decide +kernel)) (fun _ _ _ _ _ => pg_name (i := 7) sc_law_spoilt_right.nd rfl (Or.inl rfl)) (fun _ _ _ _ _ => pts_nil) (fun _ _ _ _ _ => (pv 7))) (pe_lst (pa_cons (pv 4) (pa_cons (pe_op op_addA (pv 2) pe_int) pa_nil)))))
  (pss_one (ps_ret (pe_cal G_law_same (hr.mono (by decide)) pass0 (pa_cons (pe_cal G_law_missing_told (hr.mono (by decide)) pass0 (pa_cons (pv 1) (pa_cons (pv 5) pa_nil))) (pa_cons (pe_lst (pa_cons (pv 4) pa_nil)) pa_nil)))))))))))
theorem ok_law_lots {f : Addr} {fd : FuncData} (F : Fun K "_law_lots" "_law_lots" S_law_lots f fd) (T : Txt P w K mg Z) (G_law_draw : Cal P w K mg base CX0 "_law_draw" 1 ["state", "many"] (spDraw)) : FnOk P w K mg base CX0 2 f fd ["state", "size"] (spLots K) := by
  refine F.ok sc_law_lots (fun vs H Q E h => len_law_lots K h) (fun cdv A outer s H vs Q E hr h => ⟨t_law_lots K, ?_, rd_law_lots K vs H Q E h⟩)
  exact (pss_cons (ps_if (pt_cmpR op_ltA (pv 1) pe_int (nomark _)) (pss_cons (ps_set (i := 2) sc_law_lots.nd rfl (Or.inl rfl) (pe_lst pa_nil))
  (pss_cons (ps_set (i := 3) sc_law_lots.nd rfl (Or.inl rfl) (pe_lst (pa_cons pe_int pa_nil)))
  (pss_cons (ps_for PassesOwn.never rfl (pi_range1 (by rfl) T.b_range (pa_cons (pv 1) pa_nil)) (pg_name (i := 4) sc_law_lots.nd rfl (Or.inr rfl)) (pss_one (ps_set (i := 3) sc_law_lots.nd rfl (Or.inl rfl) (pe_op op_addA (pv 3) (pe_lc (own := [("one", 6)]) (g := gName 6) (tt := tYes) (te := (tOp (rAddA K) (tVar 6) (tOp (rIx K) (tLst (tCons (tC (.int 1)) (tCons (tC (.int 2)) (tCons (tC (.int 4)) (tCons (tC (.int 8)) (tCons (tC (.int 16)) (tCons (tC (.int 32)) tNil))))))) (tVar 4)))) rfl sc_law_lots.nd (pi_any (pv 3)) (blkOk_by (N := ["state", "size", "lots", "bits", "task", "number", "one", "j", "k"]) (sc := defScope S_law_lots) (by decide +kernel)) (fun _ _ _ _ _ => pg_name (i := 6) sc_law_lots.nd rfl (Or.inl rfl)) (fun _ _ _ _ _ => pts_nil) (fun _ _ _ _ _ => (pe_op op_addA (pv 6) (pe_ix ix_seq (pe_lst (pa_cons pe_int (pa_cons pe_int (pa_cons pe_int (pa_cons pe_int (pa_cons pe_int (pa_cons pe_int pa_nil))))))) (pv 4) (fun _ _ => rfl)))))))))
  (pss_cons (ps_for PassesOwn.never rfl (pi_any (pv 3)) (pg_name (i := 5) sc_law_lots.nd rfl (Or.inr rfl)) (pss_one (ps_expr (pe_bm PySem.F.plainAttrs_list PySem.F.slot_list_append PySem.F.type_list_append mt_append (pv 2) (pa_cons (pe_lc (own := [("task", 4)]) (g := gName 4) (tt := (tTest (tOp (rEqA K) (tOp rModI (tCB rInt1 (tCons (tOp rDivI (tVar 5) (tOp (rIx K) (tLst (tCons (tC (.int 1)) (tCons (tC (.int 2)) (tCons (tC (.int 4)) (tCons (tC (.int 8)) (tCons (tC (.int 16)) (tCons (tC (.int 32)) tNil))))))) (tVar 4))) tNil)) (tC (.int 2))) (tC (.int 1))))) (te := (tVar 4)) rfl sc_law_lots.nd (pi_range1 (by rfl) T.b_range (pa_cons (pv 1) pa_nil)) (blkOk_by (N := ["state", "size", "lots", "bits", "task", "number", "one", "j", "k"]) (sc := defScope S_law_lots) (by decide +kernel)) (fun _ _ _ _ _ => pg_name (i := 4) sc_law_lots.nd rfl (Or.inl rfl)) (fun _ _ _ _ _ => (pts_one (pt_cmpR (op_eqA hr.units) (pe_op op_modA (pe_callTy call_intA (by rfl) T.b_int (by decide +kernel) (pa_cons (pe_op op_divA (pv 5) (pe_ix ix_seq (pe_lst (pa_cons pe_int (pa_cons pe_int (pa_cons pe_int (pa_cons pe_int (pa_cons pe_int (pa_cons pe_int pa_nil))))))) (pv 4) (fun _ _ => rfl))) pa_nil)) pe_int) pe_int (nomark _)))) (fun _ _ _ _ _ => (pv 4))) pa_nil)))))
  (pss_one (ps_ret (pv 2))))))) pss_nil)
  (pss_one (ps_ret (pe_lc (own := [("j", 7)]) (g := gName 7) (tt := tYes) (te := (tLc (iRng1 (tCons (tOp (rAddA K) (tC (.int 1)) (tCall (spDraw) [] E0 (tCons (tVar 0) (tCons (tVar 1) tNil)))) tNil)) (gName 8) tYes (tCall (spDraw) [] E0 (tCons (tVar 0) (tCons (tVar 1) tNil))) [8])) rfl sc_law_lots.nd (pi_range1 (by rfl) T.b_range (pa_cons pe_int pa_nil)) (blkOk_by (N := ["state", "size", "lots", "bits", "task", "number", "one", "j", "k"]) (sc := defScope S_law_lots) (by decide +kernel)) (fun _ _ _ _ _ => pg_name (i := 7) sc_law_lots.nd rfl (Or.inl rfl)) (fun _ _ _ _ _ => pts_nil) (fun _ _ _ _ _ => (pe_lc (own := [("k", 8)]) (g := gName 8) (tt := tYes) (te := (tCall (spDraw) [] E0 (tCons (tVar 0) (tCons (tVar 1) tNil)))) rfl sc_law_lots.nd (pi_range1 (by rfl) T.b_range (pa_cons (pe_op op_addA pe_int (pe_cal G_law_draw (hr.mono (by decide)) pass0 (pa_cons (pv 0) (pa_cons (pv 1) pa_nil)))) pa_nil)) (by refine blkOk_by ?_; kernel_rfl) (fun _ _ _ _ _ => pg_name (i := 8) sc_law_lots.nd rfl (Or.inl rfl)) (fun _ _ _ _ _ => pts_nil) (fun _ _ _ _ _ => (pe_cal G_law_draw (hr.mono (by decide)) pass0 (pa_cons (pv 0) (pa_cons (pv 1) pa_nil))))))))))
theorem ok_law_closed {f : Addr} {fd : FuncData} (F : Fun K "_law_closed" "_law_closed" S_law_closed f fd) (T : Txt P w K mg Z)  : FnOk P w K mg base CX0 1 f fd ["moment", "lot"] (spClosed K) := by
  refine F.ok sc_law_closed (fun vs H Q E h => len_law_closed K h) (fun cdv A outer s H vs Q E hr h => ⟨t_law_closed K, ?_, rd_law_closed K vs H Q E h⟩)
  exact (pss_cons (ps_for PassesOwn.never rfl (pi_any (pv 1)) (pg_name (i := 2) sc_law_closed.nd rfl (Or.inl rfl)) (pss_cons (ps_if (pt_cmpR op_isNA (pe_ix ix_seq (pv 0) (pv 2) (fun _ _ => rfl)) pe_non (nomark _)) (pss_one (ps_ret pe_bl)) pss_nil)
  (pss_one (ps_for PassesOwn.never rfl (pi_any (pe_ix ix_seq (pv 0) (pv 2) (fun _ _ => rfl))) (pg_name (i := 3) sc_law_closed.nd rfl (Or.inl rfl)) (pss_one (ps_if (pt_cmpR op_notInA pe_bl (pe_lc (own := [("other", 4)]) (g := gName 4) (tt := tYes) (te := (tOp (rInA K) (tVar 4) (tVar 1))) rfl sc_law_closed.nd (pi_any (pv 3)) (blkOk_by (N := ["moment", "lot", "task", "way", "other"]) (sc := defScope S_law_closed) (by decide +kernel)) (fun _ _ _ _ _ => pg_name (i := 4) sc_law_closed.nd rfl (Or.inl rfl)) (fun _ _ _ _ _ => pts_nil) (fun _ _ _ _ _ => (pe_cmpR op_inA (pv 4) (pv 1) rfl))) rfl) (pss_one (ps_ret pe_bl)) pss_nil))))))
  (pss_one (ps_ret pe_bl)))
theorem ok_law_goes {f : Addr} {fd : FuncData} (F : Fun K "_law_goes" "_law_goes" S_law_goes f fd) (T : Txt P w K mg Z)  : FnOk P w K mg base CX0 1 f fd ["ways", "hopeful"] (spGoes K) := by
  refine F.ok sc_law_goes (fun vs H Q E h => len_law_goes K h) (fun cdv A outer s H vs Q E hr h => ⟨t_law_goes K, ?_, rd_law_goes K vs H Q E h⟩)
  exact (pss_cons (ps_if (pt_cmpR op_isNA (pv 0) pe_non (nomark _)) (pss_one (ps_ret pe_bl)) pss_nil)
  (pss_cons (ps_for PassesOwn.never rfl (pi_any (pv 0)) (pg_name (i := 2) sc_law_goes.nd rfl (Or.inl rfl)) (pss_one (ps_if (pt_cmpR op_notInA pe_bl (pe_lc (own := [("task", 3)]) (g := gName 3) (tt := tYes) (te := (tOp (rInA K) (tVar 3) (tVar 1))) rfl sc_law_goes.nd (pi_any (pv 2)) (blkOk_by (N := ["ways", "hopeful", "way", "task"]) (sc := defScope S_law_goes) (by decide +kernel)) (fun _ _ _ _ _ => pg_name (i := 3) sc_law_goes.nd rfl (Or.inl rfl)) (fun _ _ _ _ _ => pts_nil) (fun _ _ _ _ _ => (pe_cmpR op_inA (pv 3) (pv 1) rfl))) rfl) (pss_one (ps_ret pe_bl)) pss_nil)))
  (pss_one (ps_ret pe_bl))))
theorem ok_law_goes_on {f : Addr} {fd : FuncData} (F : Fun K "_law_goes_on" "_law_goes_on" S_law_goes_on f fd) (T : Txt P w K mg Z) (G_law_goes : Cal P w K mg base CX0 "_law_goes" 1 ["ways", "hopeful"] (spGoes K)) : FnOk P w K mg base CX0 2 f fd ["moment", "stuck"] (spGoesOn K) := by
  refine F.ok sc_law_goes_on (fun vs H Q E h => len_law_goes_on K h) (fun cdv A outer s H vs Q E hr h => ⟨t_law_goes_on K, ?_, rd_law_goes_on K vs H Q E h⟩)
  exact (pss_cons (ps_set (i := 2) sc_law_goes_on.nd rfl (Or.inl rfl) (pe_lst pa_nil))
  (pss_cons (ps_for PassesOwn.never rfl (pi_range1 (by rfl) T.b_range (pa_cons (pe_callB call_lenA (by rfl) T.b_len (by decide +kernel) (pa_cons (pv 0) pa_nil)) pa_nil)) (pg_name (i := 3) sc_law_goes_on.nd rfl (Or.inl rfl)) (pss_one (ps_for PassesOwn.never rfl (pi_range1 (by rfl) T.b_range (pa_cons (pe_callB call_lenA (by rfl) T.b_len (by decide +kernel) (pa_cons (pv 0) pa_nil)) pa_nil)) (pg_name (i := 4) sc_law_goes_on.nd rfl (Or.inl rfl)) (pss_one (ps_if (PW.pt (pw_and (pt_cmpR op_notInA (pv 4) (pv 2) rfl) (pw_and (pt_cmpR op_notInA (pv 4) (pv 1) rfl) (pw_and1 (pt_tru (pe_cal G_law_goes (hr.mono (by decide)) pass0 (pa_cons (pe_ix ix_seq (pv 0) (pv 4) (fun _ _ => rfl)) (pa_cons (pv 2) pa_nil)))))))) (pss_cons (ps_expr (pe_bm PySem.F.plainAttrs_list PySem.F.slot_list_append PySem.F.type_list_append mt_append (pv 2) (pa_cons (pv 4) pa_nil)))
  (pss_one ps_break)) pss_nil)))))
  (pss_one (ps_ret (pe_cmpR (op_eqA hr.units) (pe_op op_addA (pe_callB call_lenA (by rfl) T.b_len (by decide +kernel) (pa_cons (pv 2) pa_nil)) (pe_callB call_lenA (by rfl) T.b_len (by decide +kernel) (pa_cons (pv 1) pa_nil))) (pe_callB call_lenA (by rfl) T.b_len (by decide +kernel) (pa_cons (pv 0) pa_nil)) (nomark _))))))
theorem ok_law_left {f : Addr} {fd : FuncData} (F : Fun K "_law_left" "_law_left" S_law_left f fd) (T : Txt P w K mg Z) (G_law_goes : Cal P w K mg base CX0 "_law_goes" 1 ["ways", "hopeful"] (spGoes K)) : FnOk P w K mg base CX0 2 f fd ["moment"] (spLeft K) := by
  refine F.ok sc_law_left (fun vs H Q E h => len_law_left K h) (fun cdv A outer s H vs Q E hr h => ⟨t_law_left K, ?_, rd_law_left K vs H Q E h⟩)
  exact (pss_cons (ps_set (i := 1) sc_law_left.nd rfl (Or.inr rfl) (pe_lst pa_nil))
  (pss_consC (ps_for PassesOwn.never rfl (pi_range1 (by rfl) T.b_range (pa_cons (pe_op op_addA (pe_callB call_lenA (by rfl) T.b_len (by decide +kernel) (pa_cons (pv 0) pa_nil)) pe_int) pa_nil)) (pg_name (i := 2) sc_law_left.nd rfl (Or.inl rfl)) (pss_cons (ps_set (i := 3) sc_law_left.nd rfl (Or.inl rfl) (pe_callB call_lenA (by rfl) T.b_len (by decide +kernel) (pa_cons (pv 1) pa_nil)))
  (pss_cons (ps_for PassesOwn.never rfl (pi_range1 (by rfl) T.b_range (pa_cons (pe_callB call_lenA (by rfl) T.b_len (by decide +kernel) (pa_cons (pv 0) pa_nil)) pa_nil)) (pg_name (i := 4) sc_law_left.nd rfl (Or.inl rfl)) (pss_one (ps_if (PW.pt (pw_and (pt_cmpR op_notInA (pv 4) (pv 1) rfl) (pw_and1 (pt_tru (pe_cal G_law_goes (hr.mono (by decide)) pass0 (pa_cons (pe_ix ix_seq (pv 0) (pv 4) (fun _ _ => rfl)) (pa_cons (pv 1) pa_nil))))))) (pss_one (ps_expr (pe_bm PySem.F.plainAttrs_list PySem.F.slot_list_append PySem.F.type_list_append mt_append (pv 1) (pa_cons (pv 4) pa_nil)))) pss_nil)))
  (pss_one (ps_if (pt_cmpR (op_eqA hr.units) (pe_callB call_lenA (by rfl) T.b_len (by decide +kernel) (pa_cons (pv 1) pa_nil)) (pv 3) (nomark _)) (pss_one ps_break) pss_nil)))))
  (pss_one (ps_ret (pe_lc (own := [("task", 4)]) (g := gName 4) (tt := (tTest (tOp (rNotInA K) (tVar 4) (tVar 1)))) (te := (tVar 4)) rfl sc_law_left.nd (pi_range1 (by rfl) T.b_range (pa_cons (pe_callB call_lenA (by rfl) T.b_len (by decide +kernel) (pa_cons (pv 0) pa_nil)) pa_nil)) (blkOk_by (N := ["moment", "hopeful", "k", "many", "task"]) (sc := defScope S_law_left) (by decide +kernel)) (fun _ _ _ _ _ => pg_name (i := 4) sc_law_left.nd rfl (Or.inl rfl)) (fun _ _ _ _ _ => (pts_one (pt_cmpR op_notInA (pv 4) (pv 1) rfl))) (fun _ _ _ _ _ => (pv 4)))))))
theorem ok_law {f : Addr} {fd : FuncData} (F : Fun K "law" "law" S_law f fd) (T : Txt P w K mg Z) (G_law_start : Cal P w K mg base CX0 "_law_start" 1 ["script"] (spStart K)) (G_law_draw : Cal P w K mg base CX0 "_law_draw" 1 ["state", "many"] (spDraw)) (G_law_drawn_moment : Cal P w K mg base CX0 "_law_drawn_moment" 3 ["state", "size"] (spMoment)) (G_stuck_of : Cal P w K mg base (L2.CX P w) "stuck_of" 3 ["moment"] (spStuckOf K Z)) (G_law_spoilt_right : Cal P w K mg base CX0 "_law_spoilt_right" 7 ["state", "moment"] (spSpoilt K)) (G_law_copied_ways : Cal P w K mg base CX0 "_law_copied_ways" 1 ["ways"] (spCopied K)) (G_law_lots : Cal P w K mg base CX0 "_law_lots" 2 ["state", "size"] (spLots K)) (G_law_closed : Cal P w K mg base CX0 "_law_closed" 1 ["moment", "lot"] (spClosed K)) (G_law_same : Cal P w K mg base CX0 "_law_same" 6 ["actual", "expected"] (spSm K 4)) (G_law_goes_on : Cal P w K mg base CX0 "_law_goes_on" 2 ["moment", "stuck"] (spGoesOn K)) (G_law_left : Cal P w K mg base CX0 "_law_left" 2 ["moment"] (spLeft K)) (G_is_closed : Cal P w K mg base (L2.CX P w) "is_closed" 2 ["moment", "lot"] (spIsClosed K Z)) : FnOk P w K mg base CX0 8 f fd ["script"] (spLaw K) := by
  refine F.ok sc_law (fun vs H Q E h => len_law K h) (fun cdv A outer s H vs Q E hr h => ⟨t_law K Z, ?_, rd_law K Z T.cf vs H Q E h⟩)
  exact (pss_cons (ps_set (i := 1) sc_law.nd rfl (Or.inl rfl) (pe_cal G_law_start (hr.mono (by decide)) pass0 (pa_cons (pv 0) pa_nil)))
  (pss_cons (ps_set (i := 2) sc_law.nd rfl (Or.inl rfl) (pe_cal G_law_draw (hr.mono (by decide)) pass0 (pa_cons (pv 1) (pa_cons pe_int pa_nil))))
  (pss_cons (ps_set (i := 3) sc_law.nd rfl (Or.inl rfl) (pe_cal G_law_drawn_moment (hr.mono (by decide)) pass0 (pa_cons (pv 1) (pa_cons (pv 2) pa_nil))))
  (pss_cons (ps_setLc (i := 4) (own := [("ways", 10)]) (g := gName 10) (tt := tYes) (te := (tCall (spCopied K) [] E0 (tCons (tVar 10) tNil))) rfl sc_law.nd rfl rfl (sw_true rfl rfl rfl (by decide +kernel)) (pi_any (pv 3)) (blkOk_by (N := ["script", "state", "size", "moment", "given", "stuck", "lot", "closed", "ring", "k", "ways", "task"]) (sc := defScope S_law) (by decide +kernel)) (fun _ _ _ _ _ => pg_name (i := 10) sc_law.nd rfl (Or.inl rfl)) (fun _ _ _ _ _ => pts_nil) (fun _ _ _ _ _ => (pe_cal G_law_copied_ways (hr.mono (by decide)) pass0 (pa_cons (pv 10) pa_nil))))
  (pss_cons (ps_set (i := 5) sc_law.nd rfl (Or.inr rfl) (pe_calS G_stuck_of (hr.mono (by decide)) (fun σ => passAt takes0 σ) (pa_cons (pv 4) pa_nil)))
  (pss_cons (ps_if (PW.pt (pw_or (pt_not (pt_tru (pe_cal G_law_same (hr.mono (by decide)) pass0 (pa_cons (pv 5) (pa_cons (pe_cal G_law_left (hr.mono (by decide)) pass0 (pa_cons (pv 3) pa_nil)) pa_nil))))) (pw_or1 (pt_not (pt_tru (pe_cal G_law_same (hr.mono (by decide)) pass0 (pa_cons (pe_calS G_is_closed (hr.mono (by decide)) (fun σ => passAt takes0 σ) (pa_cons (pv 4) (pa_cons (pv 5) pa_nil))) (pa_cons pe_bl pa_nil)))))))) (pss_one (ps_ret pe_bl)) pss_nil)
  (pss_cons (ps_if (PW.pt (pw_or (pt_not (pt_tru (pe_cal G_law_goes_on (hr.mono (by decide)) pass0 (pa_cons (pv 3) (pa_cons (pv 5) pa_nil))))) (pw_or1 (pt_not (pt_tru (pe_cal G_law_same (hr.mono (by decide)) pass0 (pa_cons (pv 4) (pa_cons (pv 3) pa_nil)))))))) (pss_one (ps_ret pe_bl)) pss_nil)
  (pss_cons (ps_for PassesOwn.never rfl (pi_any (pe_op op_addA (pe_cal G_law_lots (hr.mono (by decide)) pass0 (pa_cons (pv 1) (pa_cons (pv 2) pa_nil))) (pe_lst (pa_cons (pe_lst pa_nil) pa_nil)))) (pg_name (i := 6) sc_law.nd rfl (Or.inl rfl)) (pss_cons (ps_set (i := 7) sc_law.nd rfl (Or.inl rfl) (pe_cal G_law_closed (hr.mono (by decide)) pass0 (pa_cons (pv 3) (pa_cons (pv 6) pa_nil))))
  (pss_cons (ps_if (pt_not (pt_tru (pe_cal G_law_same (hr.mono (by decide)) pass0 (pa_cons (pe_calS G_is_closed (hr.mono (by decide)) (fun σ => passAt takes0 σ) (pa_cons (pv 4) (pa_cons (pe_callTy call_listA (by rfl) T.b_list (by decide +kernel) (pa_cons (pv 6) pa_nil)) pa_nil))) (pa_cons (pv 7) pa_nil))))) (pss_one (ps_ret pe_bl)) pss_nil)
  (pss_one (ps_if (PW.pt (pw_and (pt_tru (pv 7)) (pw_and1 (pt_cmpR op_inA pe_bl (pe_lc (own := [("task", 11)]) (g := gName 11) (tt := tYes) (te := (tOp (rInA K) (tVar 11) (tVar 5))) rfl sc_law.nd (pi_any (pv 6)) (blkOk_by (N := ["script", "state", "size", "moment", "given", "stuck", "lot", "closed", "ring", "k", "ways", "task"]) (sc := defScope S_law) (by decide +kernel)) (fun _ _ _ _ _ => pg_name (i := 11) sc_law.nd rfl (Or.inl rfl)) (fun _ _ _ _ _ => pts_nil) (fun _ _ _ _ _ => (pe_cmpR op_inA (pv 11) (pv 5) rfl))) rfl)))) (pss_one (ps_ret pe_bl)) pss_nil)))))
  (pss_cons (ps_setLc (i := 8) (own := [("ways", 10)]) (g := gName 10) (tt := tYes) (te := (tCall (spCopied K) [] E0 (tCons (tVar 10) tNil))) rfl sc_law.nd rfl rfl (sw_true rfl rfl rfl (by decide +kernel)) (pi_any (pv 3)) (blkOk_by (N := ["script", "state", "size", "moment", "given", "stuck", "lot", "closed", "ring", "k", "ways", "task"]) (sc := defScope S_law) (by decide +kernel)) (fun _ _ _ _ _ => pg_name (i := 10) sc_law.nd rfl (Or.inl rfl)) (fun _ _ _ _ _ => pts_nil) (fun _ _ _ _ _ => (pe_cal G_law_copied_ways (hr.mono (by decide)) pass0 (pa_cons (pv 10) pa_nil))))
  (pss_cons (ps_for PassesOwn.never rfl (pi_range1 (by rfl) T.b_range (pa_cons pe_int pa_nil)) (pg_name (i := 9) sc_law.nd rfl (Or.inl rfl)) (pss_one (ps_expr (pe_bm PySem.F.plainAttrs_list PySem.F.slot_list_append PySem.F.type_list_append mt_append (pv 8) (pa_cons (pe_lst (pa_cons (pe_lst (pa_cons (pe_op op_addA (pv 2) (pe_op op_modA (pe_op op_addA (pv 9) pe_int) pe_int)) (pa_cons (pv 2) pa_nil))) pa_nil)) pa_nil)))))
  (pss_cons (ps_if (pt_not (pt_tru (pe_cal G_law_same (hr.mono (by decide)) pass0 (pa_cons (pe_calS G_stuck_of (hr.mono (by decide)) (fun σ => passAt takes0 σ) (pa_cons (pv 8) pa_nil)) (pa_cons (pe_op op_addA (pv 5) (pe_lst (pa_cons (pv 2) (pa_cons (pe_op op_addA (pv 2) pe_int) (pa_cons (pe_op op_addA (pv 2) pe_int) pa_nil))))) pa_nil))))) (pss_one (ps_ret pe_bl)) pss_nil)
  (pss_cons (ps_expr (pe_bm PySem.F.plainAttrs_list PySem.F.slot_list_append PySem.F.type_list_append mt_append (pv 5) (pa_cons (pe_un un_negA pe_int) pa_nil)))
  (pss_cons (ps_if (PW.pt (pw_or (pt_not (pt_tru (pe_cal G_law_same (hr.mono (by decide)) pass0 (pa_cons (pe_calS G_stuck_of (hr.mono (by decide)) (fun σ => passAt takes0 σ) (pa_cons (pv 4) pa_nil)) (pa_cons (pe_cal G_law_left (hr.mono (by decide)) pass0 (pa_cons (pv 3) pa_nil)) pa_nil))))) (pw_or1 (pt_not (pt_tru (pe_cal G_law_same (hr.mono (by decide)) pass0 (pa_cons (pv 4) (pa_cons (pv 3) pa_nil)))))))) (pss_one (ps_ret pe_bl)) pss_nil)
  (pss_one (ps_ret (pe_cal G_law_spoilt_right (hr.mono (by decide)) pass0 (pa_cons (pv 1) (pa_cons (pv 3) pa_nil))))))))))))))))))
end
theorem all_mk {l : PySem.W.OpenLaw} {w : World} {K : PySem.W.Frag} {h : Heap} {mg : Str → Option Value} {fa f0 f1 f2 f3 f4 f5 f6 f7 f8 f9 f10 f11 f12 f13 f14 f15 f16 f17 f18 f19 : Addr} (X : K.In h) (G : h.Ns mainGlobals mg) (hfa : mg "law" = some (.ref fa))
    {od0 an0 od1 an1 od2 an2 od3 an3 od4 an4 od5 an5 od6 an6 od7 an7 od8 an8 od9 an9 od10 an10 od11 an11 od12 an12 od13 an13 od14 an14 od15 an15 od16 an16 od17 an17 od18 an18 od19 an19 : Option Addr} {sl0 sl1 sl2 sl3 sl4 sl5 sl6 sl7 sl8 sl9 sl10 sl11 sl12 sl13 sl14 sl15 sl16 sl17 sl18 sl19 : Array (Option Value)} {oc0 kV0 dc0 pm0 cd0 ct0 oc1 kV1 dc1 pm1 cd1 ct1 oc2 kV2 dc2 pm2 cd2 ct2 oc3 kV3 dc3 pm3 cd3 ct3 oc4 kV4 dc4 pm4 cd4 ct4 oc5 kV5 dc5 pm5 cd5 ct5 oc6 kV6 dc6 pm6 cd6 ct6 oc7 kV7 dc7 pm7 cd7 ct7 oc8 kV8 dc8 pm8 cd8 ct8 oc9 kV9 dc9 pm9 cd9 ct9 oc10 kV10 dc10 pm10 cd10 ct10 oc11 kV11 dc11 pm11 cd11 ct11 oc12 kV12 dc12 pm12 cd12 ct12 oc13 kV13 dc13 pm13 cd13 ct13 oc14 kV14 dc14 pm14 cd14 ct14 oc15 kV15 dc15 pm15 cd15 ct15 oc16 kV16 dc16 pm16 cd16 ct16 oc17 kV17 dc17 pm17 cd17 ct17 oc18 kV18 dc18 pm18 cd18 ct18 oc19 kV19 dc19 pm19 cd19 ct19 : Value}
    {Cz0 gz0 Nz0 ccz0 cdz0 Cz1 gz1 Nz1 ccz1 cdz1 : Addr} {odz0 anz0 ddz0 cddz0 cldz0 odz1 anz1 ddz1 cddz1 cldz1 : Option Addr} {slz0 ccsz0 cslz0 slz1 ccsz1 cslz1 : Array (Option Value)} {kVz0 dcz0 pmz0 ctz0 cclz0 clz0 kVz1 dcz1 pmz1 ctz1 cclz1 clz1 : Value} {nmz0 qz0 filez0 nmz1 qz1 filez1 : Str} {tfz0 tfz1 : Tok} {bsz0 subz0 bsz1 subz1 : List Value} {snz0 snz1 : List Str} {abz0 abz1 : Bool} {colz0 colz1 : Option Bool} {m0z0 m1z0 m2z0 m3z0 m5z0 m0z1 m1z1 m2z1 m3z1 m5z1 : Option Value} {vsz0 vsz1 : Array Value}
    (a0 : PySem.W.nsIn K mainGlobals "_law_start" = some (some (.ref f0))) (l0 : K.lookup f0 = some ⟨oc0, od0, .func (PySem.W.fnOf "_law_start" "_law_start" (defArgs S_law_start) (defBody S_law_start) (defScope S_law_start) .none kV0 dc0 pm0 an0 cd0 ct0), sl0⟩) (c0 : PySem.W.codeIn K cd0 "_law_start" = true) (k0 : PySem.W.keepIn K (.ref f0) = true)
    (a1 : PySem.W.nsIn K mainGlobals "_law_draw" = some (some (.ref f1))) (l1 : K.lookup f1 = some ⟨oc1, od1, .func (PySem.W.fnOf "_law_draw" "_law_draw" (defArgs S_law_draw) (defBody S_law_draw) (defScope S_law_draw) .none kV1 dc1 pm1 an1 cd1 ct1), sl1⟩) (c1 : PySem.W.codeIn K cd1 "_law_draw" = true) (k1 : PySem.W.keepIn K (.ref f1) = true)
    (a2 : PySem.W.nsIn K mainGlobals "_law_drawn_ways" = some (some (.ref f2))) (l2 : K.lookup f2 = some ⟨oc2, od2, .func (PySem.W.fnOf "_law_drawn_ways" "_law_drawn_ways" (defArgs S_law_drawn_ways) (defBody S_law_drawn_ways) (defScope S_law_drawn_ways) .none kV2 dc2 pm2 an2 cd2 ct2), sl2⟩) (c2 : PySem.W.codeIn K cd2 "_law_drawn_ways" = true) (k2 : PySem.W.keepIn K (.ref f2) = true)
    (a3 : PySem.W.nsIn K mainGlobals "_law_drawn_moment" = some (some (.ref f3))) (l3 : K.lookup f3 = some ⟨oc3, od3, .func (PySem.W.fnOf "_law_drawn_moment" "_law_drawn_moment" (defArgs S_law_drawn_moment) (defBody S_law_drawn_moment) (defScope S_law_drawn_moment) .none kV3 dc3 pm3 an3 cd3 ct3), sl3⟩) (c3 : PySem.W.codeIn K cd3 "_law_drawn_moment" = true) (k3 : PySem.W.keepIn K (.ref f3) = true)
    (a4 : PySem.W.nsIn K mainGlobals "demand_tasks" = some (some (.ref f4))) (l4 : K.lookup f4 = some ⟨oc4, od4, .func (PySem.W.fnOf "demand_tasks" "demand_tasks" (defArgs S_demand_tasks) (defBody S_demand_tasks) (defScope S_demand_tasks) .none kV4 dc4 pm4 an4 cd4 ct4), sl4⟩) (c4 : PySem.W.codeIn K cd4 "demand_tasks" = true) (k4 : PySem.W.keepIn K (.ref f4) = true)
    (a5 : PySem.W.nsIn K mainGlobals "can_go" = some (some (.ref f5))) (l5 : K.lookup f5 = some ⟨oc5, od5, .func (PySem.W.fnOf "can_go" "can_go" (defArgs S_can_go) (defBody S_can_go) (defScope S_can_go) .none kV5 dc5 pm5 an5 cd5 ct5), sl5⟩) (c5 : PySem.W.codeIn K cd5 "can_go" = true) (k5 : PySem.W.keepIn K (.ref f5) = true)
    (a6 : PySem.W.nsIn K mainGlobals "hopeless" = some (some (.ref f6))) (l6 : K.lookup f6 = some ⟨oc6, od6, .func (PySem.W.fnOf "hopeless" "hopeless" (defArgs S_hopeless) (defBody S_hopeless) (defScope S_hopeless) .none kV6 dc6 pm6 an6 cd6 ct6), sl6⟩) (c6 : PySem.W.codeIn K cd6 "hopeless" = true) (k6 : PySem.W.keepIn K (.ref f6) = true)
    (a7 : PySem.W.nsIn K mainGlobals "stuck_of" = some (some (.ref f7))) (l7 : K.lookup f7 = some ⟨oc7, od7, .func (PySem.W.fnOf "stuck_of" "stuck_of" (defArgs S_stuck_of) (defBody S_stuck_of) (defScope S_stuck_of) .none kV7 dc7 pm7 an7 cd7 ct7), sl7⟩) (c7 : PySem.W.codeIn K cd7 "stuck_of" = true) (k7 : PySem.W.keepIn K (.ref f7) = true)
    (a8 : PySem.W.nsIn K mainGlobals "_law_is_number" = some (some (.ref f8))) (l8 : K.lookup f8 = some ⟨oc8, od8, .func (PySem.W.fnOf "_law_is_number" "_law_is_number" (defArgs S_law_is_number) (defBody S_law_is_number) (defScope S_law_is_number) .none kV8 dc8 pm8 an8 cd8 ct8), sl8⟩) (c8 : PySem.W.codeIn K cd8 "_law_is_number" = true) (k8 : PySem.W.keepIn K (.ref f8) = true)
    (a9 : PySem.W.nsIn K mainGlobals "_law_same" = some (some (.ref f9))) (l9 : K.lookup f9 = some ⟨oc9, od9, .func (PySem.W.fnOf "_law_same" "_law_same" (defArgs S_law_same) (defBody S_law_same) (defScope S_law_same) .none kV9 dc9 pm9 an9 cd9 ct9), sl9⟩) (c9 : PySem.W.codeIn K cd9 "_law_same" = true) (k9 : PySem.W.keepIn K (.ref f9) = true)
    (a10 : PySem.W.nsIn K mainGlobals "_law_copied_ways" = some (some (.ref f10))) (l10 : K.lookup f10 = some ⟨oc10, od10, .func (PySem.W.fnOf "_law_copied_ways" "_law_copied_ways" (defArgs S_law_copied_ways) (defBody S_law_copied_ways) (defScope S_law_copied_ways) .none kV10 dc10 pm10 an10 cd10 ct10), sl10⟩) (c10 : PySem.W.codeIn K cd10 "_law_copied_ways" = true) (k10 : PySem.W.keepIn K (.ref f10) = true)
    (a11 : PySem.W.nsIn K mainGlobals "is_closed" = some (some (.ref f11))) (l11 : K.lookup f11 = some ⟨oc11, od11, .func (PySem.W.fnOf "is_closed" "is_closed" (defArgs S_is_closed) (defBody S_is_closed) (defScope S_is_closed) .none kV11 dc11 pm11 an11 cd11 ct11), sl11⟩) (c11 : PySem.W.codeIn K cd11 "is_closed" = true) (k11 : PySem.W.keepIn K (.ref f11) = true)
    (a12 : PySem.W.nsIn K mainGlobals "_law_missing_told" = some (some (.ref f12))) (l12 : K.lookup f12 = some ⟨oc12, od12, .func (PySem.W.fnOf "_law_missing_told" "_law_missing_told" (defArgs S_law_missing_told) (defBody S_law_missing_told) (defScope S_law_missing_told) .none kV12 dc12 pm12 an12 cd12 ct12), sl12⟩) (c12 : PySem.W.codeIn K cd12 "_law_missing_told" = true) (k12 : PySem.W.keepIn K (.ref f12) = true)
    (a13 : PySem.W.nsIn K mainGlobals "_law_spoilt_right" = some (some (.ref f13))) (l13 : K.lookup f13 = some ⟨oc13, od13, .func (PySem.W.fnOf "_law_spoilt_right" "_law_spoilt_right" (defArgs S_law_spoilt_right) (defBody S_law_spoilt_right) (defScope S_law_spoilt_right) .none kV13 dc13 pm13 an13 cd13 ct13), sl13⟩) (c13 : PySem.W.codeIn K cd13 "_law_spoilt_right" = true) (k13 : PySem.W.keepIn K (.ref f13) = true)
    (a14 : PySem.W.nsIn K mainGlobals "_law_lots" = some (some (.ref f14))) (l14 : K.lookup f14 = some ⟨oc14, od14, .func (PySem.W.fnOf "_law_lots" "_law_lots" (defArgs S_law_lots) (defBody S_law_lots) (defScope S_law_lots) .none kV14 dc14 pm14 an14 cd14 ct14), sl14⟩) (c14 : PySem.W.codeIn K cd14 "_law_lots" = true) (k14 : PySem.W.keepIn K (.ref f14) = true)
    (a15 : PySem.W.nsIn K mainGlobals "_law_closed" = some (some (.ref f15))) (l15 : K.lookup f15 = some ⟨oc15, od15, .func (PySem.W.fnOf "_law_closed" "_law_closed" (defArgs S_law_closed) (defBody S_law_closed) (defScope S_law_closed) .none kV15 dc15 pm15 an15 cd15 ct15), sl15⟩) (c15 : PySem.W.codeIn K cd15 "_law_closed" = true) (k15 : PySem.W.keepIn K (.ref f15) = true)
    (a16 : PySem.W.nsIn K mainGlobals "_law_goes" = some (some (.ref f16))) (l16 : K.lookup f16 = some ⟨oc16, od16, .func (PySem.W.fnOf "_law_goes" "_law_goes" (defArgs S_law_goes) (defBody S_law_goes) (defScope S_law_goes) .none kV16 dc16 pm16 an16 cd16 ct16), sl16⟩) (c16 : PySem.W.codeIn K cd16 "_law_goes" = true) (k16 : PySem.W.keepIn K (.ref f16) = true)
    (a17 : PySem.W.nsIn K mainGlobals "_law_goes_on" = some (some (.ref f17))) (l17 : K.lookup f17 = some ⟨oc17, od17, .func (PySem.W.fnOf "_law_goes_on" "_law_goes_on" (defArgs S_law_goes_on) (defBody S_law_goes_on) (defScope S_law_goes_on) .none kV17 dc17 pm17 an17 cd17 ct17), sl17⟩) (c17 : PySem.W.codeIn K cd17 "_law_goes_on" = true) (k17 : PySem.W.keepIn K (.ref f17) = true)
    (a18 : PySem.W.nsIn K mainGlobals "_law_left" = some (some (.ref f18))) (l18 : K.lookup f18 = some ⟨oc18, od18, .func (PySem.W.fnOf "_law_left" "_law_left" (defArgs S_law_left) (defBody S_law_left) (defScope S_law_left) .none kV18 dc18 pm18 an18 cd18 ct18), sl18⟩) (c18 : PySem.W.codeIn K cd18 "_law_left" = true) (k18 : PySem.W.keepIn K (.ref f18) = true)
    (a19 : PySem.W.nsIn K mainGlobals "law" = some (some (.ref f19))) (l19 : K.lookup f19 = some ⟨oc19, od19, .func (PySem.W.fnOf "law" "law" (defArgs S_law) (defBody S_law) (defScope S_law) .none kV19 dc19 pm19 an19 cd19 ct19), sl19⟩) (c19 : PySem.W.codeIn K cd19 "law" = true) (k19 : PySem.W.keepIn K (.ref f19) = true)
    (z_all : PySem.W.nsIn K mainGlobals "all" = some none)
    (z_any : PySem.W.nsIn K mainGlobals "any" = some none)
    (z_bool : PySem.W.nsIn K mainGlobals "bool" = some none)
    (z_int : PySem.W.nsIn K mainGlobals "int" = some none)
    (z_isinstance : PySem.W.nsIn K mainGlobals "isinstance" = some none)
    (z_len : PySem.W.nsIn K mainGlobals "len" = some none)
    (z_list : PySem.W.nsIn K mainGlobals "list" = some none)
    (z_range : PySem.W.nsIn K mainGlobals "range" = some none)
    (z_str : PySem.W.nsIn K mainGlobals "str" = some none)
    (z_tuple : PySem.W.nsIn K mainGlobals "tuple" = some none)
    (az0 : PySem.W.nsIn K mainGlobals "ForkError" = some (some (.ref Cz0)))
    (xz0 : K.lookup Cz0 = some (PySem.excClassObj nmz0 qz0 Cz0 Nz0 bsz0 [.type "ValueError", .type "Exception", .type "BaseException", .type "object"] true snz0 subz0 abz0 colz0 ddz0 m0z0 m1z0 m2z0 m3z0 m5z0 "ValueError.__new__"))
    (ez0 : ExL.ecB K Cz0 ["reason"] = true)
    (iz0 : PySem.W.findIn K (.ref Cz0) "__init__" = some (some (.ref gz0)))
    (tgz0 : PySem.W.typeIn K (.ref gz0) = some (.type "function"))
    (lgz0 : K.lookup gz0 = some ⟨.type "function", odz0, .func (PySem.W.fnX "__init__" "ForkError.__init__" (defArgs M_ForkError) (defBody M_ForkError) (defScope M_ForkError) [("__class__", ccz0)] .none kVz0 dcz0 pmz0 anz0 (.ref cdz0) ctz0), slz0⟩)
    (cgz0 : PySem.W.codeIn K (.ref cdz0) "ForkError.__init__" = true)
    (lcz0 : K.lookup cdz0 = some ⟨cclz0, cddz0, .fields vsz0, ccsz0⟩)
    (hvz0 : vsz0[2]? = some (.str filez0 tfz0))
    (hfz0 : (l.prog.main.file == filez0) = true)
    (cez0 : K.lookup ccz0 = some ⟨clz0, cldz0, .cell (some (.ref Cz0)), cslz0⟩)
    (az1 : PySem.W.nsIn K mainGlobals "NoTask" = some (some (.ref Cz1)))
    (xz1 : K.lookup Cz1 = some (PySem.excClassObj nmz1 qz1 Cz1 Nz1 bsz1 [.ref Cz0, .type "ValueError", .type "Exception", .type "BaseException", .type "object"] true snz1 subz1 abz1 colz1 ddz1 m0z1 m1z1 m2z1 m3z1 m5z1 "ValueError.__new__"))
    (ez1 : ExL.ecB K Cz1 ["reason", "task"] = true)
    (iz1 : PySem.W.findIn K (.ref Cz1) "__init__" = some (some (.ref gz1)))
    (tgz1 : PySem.W.typeIn K (.ref gz1) = some (.type "function"))
    (lgz1 : K.lookup gz1 = some ⟨.type "function", odz1, .func (PySem.W.fnX "__init__" "NoTask.__init__" (defArgs M_NoTask) (defBody M_NoTask) (defScope M_NoTask) [("__class__", ccz1)] .none kVz1 dcz1 pmz1 anz1 (.ref cdz1) ctz1), slz1⟩)
    (cgz1 : PySem.W.codeIn K (.ref cdz1) "NoTask.__init__" = true)
    (lcz1 : K.lookup cdz1 = some ⟨cclz1, cddz1, .fields vsz1, ccsz1⟩)
    (hvz1 : vsz1[2]? = some (.str filez1 tfz1))
    (hfz1 : (l.prog.main.file == filez1) = true)
    (cez1 : K.lookup ccz1 = some ⟨clz1, cldz1, .cell (some (.ref Cz1)), cslz1⟩)
    (spz1 : PySem.W.ks_superIn K Cz1 Cz1 "__init__" = some (some (.ref gz0)))
    (s0z1 : PySem.W.ks_superIn K Cz1 Cz0 "__init__" = some (some (.builtin "ValueError.__init__")))
    (mrz1 : PySem.W.mroIn K Cz1 (.ref Cz0) = some true)
    (q_NoTask_NoTask : PySem.W.subIn K (.ref Cz1) (.ref Cz1) = some true)
    (zsup : PySem.W.nsIn K mainGlobals "super" = some none)
    (zopq : PySem.W.nsIn K cStatics "thirdparty.any" = some none)
    (ztop : (l.prog.main.scope.names.lookup ("super" : Str)).isSome = false) :
    ∃ fd : FuncData, (∀ (s : Shared) (v : Value), BindsTo s fd ⟨[v], []⟩ [("script", v)]) ∧ ∀ base : Heap, K.In base → base.Ns mainGlobals mg → FnOk l.prog w K mg base CX0 8 fa fd ["script"] (spLaw K) := by
  have e := hfa.symm.trans (PySem.W.mg_of X G a19)
  cases e
  have ebz0 := ExL.ecB_ok ez0
  have ecz0 : ExL.Ec K Cz0 := ExL.ec_mk ebz0 xz0 rfl
  have idz0 := ExL.idef_mk (ps := ["reason"]) lgz0 cgz0 lcz0 hvz0 hfz0 cez0 (ExL.ec_cls ecz0) ztop rfl ⟨_, rfl, rfl⟩ (fun s x us hl => match us, hl with | [_], _ => .of_eq (by first | rfl | with_unfolding_all rfl)) (by decide +kernel)
  have ebz1 := ExL.ecB_ok ez1
  have ecz1 : ExL.Ec K Cz1 := ExL.ec_mk ebz1 xz1 rfl
  have idz1 := ExL.idef_mk (ps := ["task"]) lgz1 cgz1 lcz1 hvz1 hfz1 cez1 (ExL.ec_cls ecz1) ztop rfl ⟨_, rfl, rfl⟩ (fun s x us hl => match us, hl with | [_], _ => .of_eq (by first | rfl | with_unfolding_all rfl)) (by decide +kernel)
  have erz1 : Err l.prog w K mg "NoTask" Cz1 2 1 (ExL.errF ["task"] "no such task") := err_mk (PySem.W.mg_of X G az1) ecz1 ebz1 idz0 fm_ForkError mrz1 s0z1 idz1 fm_NoTask spz1 iz1 tgz1 zsup zopq (by decide)
  have CF : Cf K ⟨Cz0, Cz1⟩ := ⟨(PySem.W.exm_ref ebz1.xf.exC ebz1.xf.hdC ebz1.tyC q_NoTask_NoTask), ebz1.xf, (ebz1.no _ (by decide)), (ebz1.no _ (by decide))⟩
  have T : Txt l.prog w K mg ⟨Cz0, Cz1⟩ := ⟨PySem.W.mg_none_of X G z_all, PySem.W.mg_none_of X G z_any, PySem.W.mg_none_of X G z_bool, PySem.W.mg_none_of X G z_int, PySem.W.mg_none_of X G z_isinstance, PySem.W.mg_none_of X G z_len, PySem.W.mg_none_of X G z_list, PySem.W.mg_none_of X G z_range, PySem.W.mg_none_of X G z_str, PySem.W.mg_none_of X G z_tuple, PySem.W.mg_of X G az0, PySem.W.mg_of X G az1, erz1, CF⟩
  obtain ⟨Z, hZ⟩ : ∃ Z : Cs, Z = ⟨Cz0, Cz1⟩ := ⟨_, rfl⟩
  rw [← hZ] at T
  have F_law_start := fun_mk (st := S_law_start) l0 c0 k0
  have B_law_start := F_law_start.binds (ps := ["script"]) fun _ _ _ _ _ _ us hl => match us, hl with | [_], _ => rfl
  have F_law_draw := fun_mk (st := S_law_draw) l1 c1 k1
  have B_law_draw := F_law_draw.binds (ps := ["state", "many"]) fun _ _ _ _ _ _ us hl => match us, hl with | [_, _], _ => rfl
  have F_law_drawn_ways := fun_mk (st := S_law_drawn_ways) l2 c2 k2
  have B_law_drawn_ways := F_law_drawn_ways.binds (ps := ["state", "size"]) fun _ _ _ _ _ _ us hl => match us, hl with | [_, _], _ => rfl
  have F_law_drawn_moment := fun_mk (st := S_law_drawn_moment) l3 c3 k3
  have B_law_drawn_moment := F_law_drawn_moment.binds (ps := ["state", "size"]) fun _ _ _ _ _ _ us hl => match us, hl with | [_, _], _ => rfl
  have F_demand_tasks := fun_mk (st := S_demand_tasks) l4 c4 k4
  have B_demand_tasks := F_demand_tasks.binds (ps := ["moment"]) fun _ _ _ _ _ _ us hl => match us, hl with | [_], _ => rfl
  have F_can_go := fun_mk (st := S_can_go) l5 c5 k5
  have B_can_go := F_can_go.binds (ps := ["ways", "hopeful"]) fun _ _ _ _ _ _ us hl => match us, hl with | [_, _], _ => rfl
  have F_hopeless := fun_mk (st := S_hopeless) l6 c6 k6
  have B_hopeless := F_hopeless.binds (ps := ["moment", "hopeful", "lot"]) fun _ _ _ _ _ _ us hl => match us, hl with | [_, _, _], _ => rfl
  have F_stuck_of := fun_mk (st := S_stuck_of) l7 c7 k7
  have B_stuck_of := F_stuck_of.binds (ps := ["moment"]) fun _ _ _ _ _ _ us hl => match us, hl with | [_], _ => rfl
  have F_law_is_number := fun_mk (st := S_law_is_number) l8 c8 k8
  have B_law_is_number := F_law_is_number.binds (ps := ["actual"]) fun _ _ _ _ _ _ us hl => match us, hl with | [_], _ => rfl
  have F_law_same := fun_mk (st := S_law_same) l9 c9 k9
  have B_law_same := F_law_same.binds (ps := ["actual", "expected"]) fun _ _ _ _ _ _ us hl => match us, hl with | [_, _], _ => rfl
  have F_law_copied_ways := fun_mk (st := S_law_copied_ways) l10 c10 k10
  have B_law_copied_ways := F_law_copied_ways.binds (ps := ["ways"]) fun _ _ _ _ _ _ us hl => match us, hl with | [_], _ => rfl
  have F_is_closed := fun_mk (st := S_is_closed) l11 c11 k11
  have B_is_closed := F_is_closed.binds (ps := ["moment", "lot"]) fun _ _ _ _ _ _ us hl => match us, hl with | [_, _], _ => rfl
  have F_law_missing_told := fun_mk (st := S_law_missing_told) l12 c12 k12
  have B_law_missing_told := F_law_missing_told.binds (ps := ["moment", "lot"]) fun _ _ _ _ _ _ us hl => match us, hl with | [_, _], _ => rfl
  have F_law_spoilt_right := fun_mk (st := S_law_spoilt_right) l13 c13 k13
  have B_law_spoilt_right := F_law_spoilt_right.binds (ps := ["state", "moment"]) fun _ _ _ _ _ _ us hl => match us, hl with | [_, _], _ => rfl
  have F_law_lots := fun_mk (st := S_law_lots) l14 c14 k14
  have B_law_lots := F_law_lots.binds (ps := ["state", "size"]) fun _ _ _ _ _ _ us hl => match us, hl with | [_, _], _ => rfl
  have F_law_closed := fun_mk (st := S_law_closed) l15 c15 k15
  have B_law_closed := F_law_closed.binds (ps := ["moment", "lot"]) fun _ _ _ _ _ _ us hl => match us, hl with | [_, _], _ => rfl
  have F_law_goes := fun_mk (st := S_law_goes) l16 c16 k16
  have B_law_goes := F_law_goes.binds (ps := ["ways", "hopeful"]) fun _ _ _ _ _ _ us hl => match us, hl with | [_, _], _ => rfl
  have F_law_goes_on := fun_mk (st := S_law_goes_on) l17 c17 k17
  have B_law_goes_on := F_law_goes_on.binds (ps := ["moment", "stuck"]) fun _ _ _ _ _ _ us hl => match us, hl with | [_, _], _ => rfl
  have F_law_left := fun_mk (st := S_law_left) l18 c18 k18
  have B_law_left := F_law_left.binds (ps := ["moment"]) fun _ _ _ _ _ _ us hl => match us, hl with | [_], _ => rfl
  have F_law := fun_mk (st := S_law) l19 c19 k19
  have B_law := F_law.binds (ps := ["script"]) fun _ _ _ _ _ _ us hl => match us, hl with | [_], _ => rfl
  refine ⟨PySem.W.fnOf "law" "law" (defArgs S_law) (defBody S_law) (defScope S_law) .none kV19 dc19 pm19 an19 cd19 ct19, fun s v => .of_eq rfl, fun base _ _ => ?_⟩
  have G_law_start : Cal l.prog w K mg base CX0 "_law_start" 1 ["script"] (spStart K) := ⟨_, _, ok_law_start F_law_start T , PySem.W.mg_of X G a0, F_law_start.kp, B_law_start⟩
  have G_law_draw : Cal l.prog w K mg base CX0 "_law_draw" 1 ["state", "many"] (spDraw) := ⟨_, _, ok_law_draw F_law_draw T , PySem.W.mg_of X G a1, F_law_draw.kp, B_law_draw⟩
  have G_law_drawn_ways : Cal l.prog w K mg base CX0 "_law_drawn_ways" 2 ["state", "size"] (spWays) := ⟨_, _, ok_law_drawn_ways F_law_drawn_ways T G_law_draw, PySem.W.mg_of X G a2, F_law_drawn_ways.kp, B_law_drawn_ways⟩
  have G_law_drawn_moment : Cal l.prog w K mg base CX0 "_law_drawn_moment" 3 ["state", "size"] (spMoment) := ⟨_, _, ok_law_drawn_moment F_law_drawn_moment T G_law_draw G_law_drawn_ways, PySem.W.mg_of X G a3, F_law_drawn_moment.kp, B_law_drawn_moment⟩
  have G_demand_tasks : Cal l.prog w K mg base (L2.CX l.prog w) "demand_tasks" 1 ["moment"] (spDemand K Z) := ⟨_, _, ok_demand_tasks F_demand_tasks T , PySem.W.mg_of X G a4, F_demand_tasks.kp, B_demand_tasks⟩
  have G_can_go : Cal l.prog w K mg base CX0 "can_go" 1 ["ways", "hopeful"] (spCanGo K) := ⟨_, _, ok_can_go F_can_go T , PySem.W.mg_of X G a5, F_can_go.kp, B_can_go⟩
  have G_hopeless : Cal l.prog w K mg base CX0 "hopeless" 2 ["moment", "hopeful", "lot"] (spHopeless K) := ⟨_, _, ok_hopeless F_hopeless T G_can_go, PySem.W.mg_of X G a6, F_hopeless.kp, B_hopeless⟩
  have G_stuck_of : Cal l.prog w K mg base (L2.CX l.prog w) "stuck_of" 3 ["moment"] (spStuckOf K Z) := ⟨_, _, ok_stuck_of F_stuck_of T G_demand_tasks G_hopeless, PySem.W.mg_of X G a7, F_stuck_of.kp, B_stuck_of⟩
  have G_law_is_number : Cal l.prog w K mg base CX0 "_law_is_number" 1 ["actual"] (spIsNum) := ⟨_, _, ok_law_is_number F_law_is_number T , PySem.W.mg_of X G a8, F_law_is_number.kp, B_law_is_number⟩
  have G_law_same : Cal l.prog w K mg base CX0 "_law_same" 6 ["actual", "expected"] (spSm K 4) := ⟨_, _, ok_law_same F_law_same T (PySem.W.mg_of X G a9) B_law_same G_law_is_number 4, PySem.W.mg_of X G a9, F_law_same.kp, B_law_same⟩
  have G_law_copied_ways : Cal l.prog w K mg base CX0 "_law_copied_ways" 1 ["ways"] (spCopied K) := ⟨_, _, ok_law_copied_ways F_law_copied_ways T , PySem.W.mg_of X G a10, F_law_copied_ways.kp, B_law_copied_ways⟩
  have G_is_closed : Cal l.prog w K mg base (L2.CX l.prog w) "is_closed" 2 ["moment", "lot"] (spIsClosed K Z) := ⟨_, _, ok_is_closed F_is_closed T G_demand_tasks, PySem.W.mg_of X G a11, F_is_closed.kp, B_is_closed⟩
  have G_law_missing_told : Cal l.prog w K mg base CX0 "_law_missing_told" 4 ["moment", "lot"] (spTold K) := ⟨_, _, ok_law_missing_told F_law_missing_told T G_stuck_of G_is_closed, PySem.W.mg_of X G a12, F_law_missing_told.kp, B_law_missing_told⟩
  have G_law_spoilt_right : Cal l.prog w K mg base CX0 "_law_spoilt_right" 7 ["state", "moment"] (spSpoilt K) := ⟨_, _, ok_law_spoilt_right F_law_spoilt_right T G_law_same G_law_copied_ways G_law_draw G_law_missing_told, PySem.W.mg_of X G a13, F_law_spoilt_right.kp, B_law_spoilt_right⟩
  have G_law_lots : Cal l.prog w K mg base CX0 "_law_lots" 2 ["state", "size"] (spLots K) := ⟨_, _, ok_law_lots F_law_lots T G_law_draw, PySem.W.mg_of X G a14, F_law_lots.kp, B_law_lots⟩
  have G_law_closed : Cal l.prog w K mg base CX0 "_law_closed" 1 ["moment", "lot"] (spClosed K) := ⟨_, _, ok_law_closed F_law_closed T , PySem.W.mg_of X G a15, F_law_closed.kp, B_law_closed⟩
  have G_law_goes : Cal l.prog w K mg base CX0 "_law_goes" 1 ["ways", "hopeful"] (spGoes K) := ⟨_, _, ok_law_goes F_law_goes T , PySem.W.mg_of X G a16, F_law_goes.kp, B_law_goes⟩
  have G_law_goes_on : Cal l.prog w K mg base CX0 "_law_goes_on" 2 ["moment", "stuck"] (spGoesOn K) := ⟨_, _, ok_law_goes_on F_law_goes_on T G_law_goes, PySem.W.mg_of X G a17, F_law_goes_on.kp, B_law_goes_on⟩
  have G_law_left : Cal l.prog w K mg base CX0 "_law_left" 2 ["moment"] (spLeft K) := ⟨_, _, ok_law_left F_law_left T G_law_goes, PySem.W.mg_of X G a18, F_law_left.kp, B_law_left⟩
  exact ok_law F_law T G_law_start G_law_draw G_law_drawn_moment G_stuck_of G_law_spoilt_right G_law_copied_ways G_law_lots G_law_closed G_law_same G_law_goes_on G_law_left G_is_closed
theorem walk {l : PySem.W.OpenLaw} {q : Program} {loose : List Str} {XP : (Str → Option Value) → Heap → Prop} {YP : World → Heap → Prop} {d : DefRec} {K : Params → PySem.W.Frag} (hn : l.most = some 63) (hdf : d.params.defaults = [])
    (hY : ∀ (w : World) (h : Heap), YP w h → (K w.params).In h)
    (F : ∀ (w : World) (mg : Str → Option Value) (fa : Addr) (h : Heap), (K w.params).In h → h.Ns mainGlobals mg → mg d.name = some (.ref fa) →
      ∃ fd : FuncData, (∀ (s : Shared) (u : Value), BindsTo s fd ⟨[u], []⟩ [("script", u)]) ∧ ∀ base : Heap, (K w.params).In base → base.Ns mainGlobals mg → FnOk l.prog w (K w.params) mg base CX0 8 fa fd ["script"] (spLaw (K w.params))) :
    PySem.W.WalkO q loose XP YP l.row.toRowW d [] (fun f vs => PySem.call f vs) :=
  L2.walk_of (n := 63) (k := 8) (x := "script") (CX := fun _ => CX0) (sp := fun w => spLaw (K w.params)) hn (by decide) hdf ⟨rfl, by decide, by decide⟩ hY F (fun _ _ a ns hl _ hS => ⟨a, ns, rfl, hS, hl, fun _ => rfl⟩) fun _ _ _ _ _ z => z
end K39
open PySem PySem.W PyProof.Rows
set_option maxRecDepth 100000 in
set_option maxHeartbeats 0 in
theorem PySem.Challenge.cw_promisesowned_k39_whole_greatest_closed_holds : PySem.Challenge.rw_promisesowned_k39_whole_greatest_closed.Holds := by
  w_on; o_law; k_head; (case hw => w_witness2)
  k_fill
  refine K39.walk (l := PySem.Challenge.rw_promisesowned_k39_whole_greatest_closed) rfl rfl (fun w h Y => PySem.W.kIn_of Y) ?F
  case F =>
    intro w mg fa h KX G hmg
    refine' K39.all_mk KX G hmg ?a0 ?l0 ?c0 ?k0 ?a1 ?l1 ?c1 ?k1 ?a2 ?l2 ?c2 ?k2 ?a3 ?l3 ?c3 ?k3 ?a4 ?l4 ?c4 ?k4 ?a5 ?l5 ?c5 ?k5 ?a6 ?l6 ?c6 ?k6 ?a7 ?l7 ?c7 ?k7 ?a8 ?l8 ?c8 ?k8 ?a9 ?l9 ?c9 ?k9 ?a10 ?l10 ?c10 ?k10 ?a11 ?l11 ?c11 ?k11 ?a12 ?l12 ?c12 ?k12 ?a13 ?l13 ?c13 ?k13 ?a14 ?l14 ?c14 ?k14 ?a15 ?l15 ?c15 ?k15 ?a16 ?l16 ?c16 ?k16 ?a17 ?l17 ?c17 ?k17 ?a18 ?l18 ?c18 ?k18 ?a19 ?l19 ?c19 ?k19 ?z_all ?z_any ?z_bool ?z_int ?z_isinstance ?z_len ?z_list ?z_range ?z_str ?z_tuple ?az0 ?xz0 ?ez0 ?iz0 ?tgz0 ?lgz0 ?cgz0 ?lcz0 ?hvz0 ?hfz0 ?cez0 ?az1 ?xz1 ?ez1 ?iz1 ?tgz1 ?lgz1 ?cgz1 ?lcz1 ?hvz1 ?hfz1 ?cez1 ?spz1 ?s0z1 ?mrz1 ?q_NoTask_NoTask ?zsup ?zopq ?ztop
    (case a0 => k_is)
    (case l0 => k_is)
    (case c0 => k_is)
    (case k0 => k_is)
    (case a1 => k_is)
    (case l1 => k_is)
    (case c1 => k_is)
    (case k1 => k_is)
    (case a2 => k_is)
    (case l2 => k_is)
    (case c2 => k_is)
    (case k2 => k_is)
    (case a3 => k_is)
    (case l3 => k_is)
    (case c3 => k_is)
    (case k3 => k_is)
    (case a4 => k_is)
    (case l4 => k_is)
    (case c4 => k_is)
    (case k4 => k_is)
    (case a5 => k_is)
    (case l5 => k_is)
    (case c5 => k_is)
    (case k5 => k_is)
    (case a6 => k_is)
    (case l6 => k_is)
    (case c6 => k_is)
    (case k6 => k_is)
    (case a7 => k_is)
    (case l7 => k_is)
    (case c7 => k_is)
    (case k7 => k_is)
    (case a8 => k_is)
    (case l8 => k_is)
    (case c8 => k_is)
    (case k8 => k_is)
    (case a9 => k_is)
    (case l9 => k_is)
    (case c9 => k_is)
    (case k9 => k_is)
    (case a10 => k_is)
    (case l10 => k_is)
    (case c10 => k_is)
    (case k10 => k_is)
    (case a11 => k_is)
    (case l11 => k_is)
    (case c11 => k_is)
    (case k11 => k_is)
    (case a12 => k_is)
    (case l12 => k_is)
    (case c12 => k_is)
    (case k12 => k_is)
    (case a13 => k_is)
    (case l13 => k_is)
    (case c13 => k_is)
    (case k13 => k_is)
    (case a14 => k_is)
    (case l14 => k_is)
    (case c14 => k_is)
    (case k14 => k_is)
    (case a15 => k_is)
    (case l15 => k_is)
    (case c15 => k_is)
    (case k15 => k_is)
    (case a16 => k_is)
    (case l16 => k_is)
    (case c16 => k_is)
    (case k16 => k_is)
    (case a17 => k_is)
    (case l17 => k_is)
    (case c17 => k_is)
    (case k17 => k_is)
    (case a18 => k_is)
    (case l18 => k_is)
    (case c18 => k_is)
    (case k18 => k_is)
    (case a19 => k_is)
    (case l19 => k_is)
    (case c19 => k_is)
    (case k19 => k_is)
    (case z_all => k_is)
    (case z_any => k_is)
    (case z_bool => k_is)
    (case z_int => k_is)
    (case z_isinstance => k_is)
    (case z_len => k_is)
    (case z_list => k_is)
    (case z_range => k_is)
    (case z_str => k_is)
    (case z_tuple => k_is)
    (case az0 => k_is)
    (case xz0 => k_is)
    (case ez0 => kernel_rfl)
    (case iz0 => k_is)
    (case tgz0 => k_is)
    (case lgz0 => k_is)
    (case cgz0 => k_is)
    (case lcz0 => k_is)
    (case hvz0 => rfl)
    (case hfz0 => first | rfl | kernel_rfl)
    (case cez0 => k_is)
    (case az1 => k_is)
    (case xz1 => k_is)
    (case ez1 => kernel_rfl)
    (case iz1 => k_is)
    (case tgz1 => k_is)
    (case lgz1 => k_is)
    (case cgz1 => k_is)
    (case lcz1 => k_is)
    (case hvz1 => rfl)
    (case hfz1 => first | rfl | kernel_rfl)
    (case cez1 => k_is)
    (case spz1 => ks_is)
    (case s0z1 => ks_is)
    (case mrz1 => k_is)
    (case q_NoTask_NoTask => k_is)
    (case zsup => k_is)
    (case zopq => k_is)
    (case ztop => first | rfl | kernel_rfl | decide +kernel)
#print axioms PySem.Challenge.cw_promisesowned_k39_whole_greatest_closed_holds
