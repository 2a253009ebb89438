import PyProof.Rows.All
import Wide.All
import OpenK.AllK
import Wide.FinOn
import HandS.ForMost
import HandS.IsInst
import PySem.Challenge.RW_promisesowned_k48_stuck_by_phases
set_option Elab.async false
set_option linter.all false
set_option maxRecDepth 100000
set_option maxHeartbeats 4000000
/-! Rd: relations that do not ask for a type ahead, and steps of a reading. -/
namespace Rd
open PySem PySem.Spec PyProof.Rows L2
section
variable {X : Cx}
/-! ### operators whatever the values are -/
def rAddI : R2 := rI0 fun i j => .int (i + j)
def rAddS : R2 := fun x y H Q => ∃ i j, x = .str i ∧ y = .str j ∧ i.length + j.length ≤ sizeLine ∧ Q (.str (i ++ j)) H
def rAddA (K : PySem.W.Frag) : R2 := fun x y H Q => rAddI x y H Q ∨ (rAddS x y H Q ∨ (rCat x y H Q ∨ rCatT K x y H Q))
theorem op_addA : OpR X (binaryOp .Add) (rAddA X.K) := op_add.or (op_add_str.or (op_cat.or op_catT))
def rSubI : R2 := rI0 fun i j => .int (i - j)
theorem op_subA : OpR X (binaryOp .Sub) rSubI := op_sub
def rMulI : R2 := rI CMul fun i j => .int (i * j)
def rMulA : R2 := fun x y H Q => rMulI x y H Q ∨ rRep x y H Q
theorem op_mulA : OpR X (binaryOp .Mult) rMulA := op_mul.or op_rep
def rDivI : R2 := rI CDiv fun i j => .int (i / j)
theorem op_divA : OpR X (binaryOp .FloorDiv) rDivI := op_fdiv
def rModI : R2 := rI (fun _ j => 0 < j) fun i j => .int (i % j)
theorem op_modA : OpR X (binaryOp .Mod) rModI := op_mod
def rPowI : R2 := rI CPow fun i j => .int (i ^ j.toNat)
theorem op_powA : OpR X (binaryOp .Pow) rPowI := op_pow
def rNegI : V → Hp → VK → Prop := rU fun i => .int (-i)
theorem un_negA : UnR X (unaryOp .USub) rNegI := un_neg
def rIAddA (K : PySem.W.Frag) : R2 := fun x y H Q => rAddI x y H Q ∨ rAddS x y H Q
theorem iop_addA : OpR X (inplaceOp .Add) (rIAddA X.K) := iop_add.or iop_add_str
theorem iop_subA : OpR X (inplaceOp .Sub) rSubI := iop_sub
theorem ip_addA : PIp X .Add (rIAddA X.K) := fun pins s σ H x y v u Q I rx ry h => augR iop_addA I rx ry h
theorem ip_subA : PIp X .Sub rSubI := fun pins s σ H x y v u Q I rx ry h => augR iop_subA I rx ry h
/-! ### comparisons -/
def rLtI : R2 := rI0 fun i j => .bl (decide (i < j))
def rLeI : R2 := rI0 fun i j => .bl (decide (i ≤ j))
def rGtI : R2 := rI0 fun i j => .bl (decide (j < i))
def rGeI : R2 := rI0 fun i j => .bl (decide (j ≤ i))
theorem op_ltA : OpR X (compareOp .Lt) rLtI := op_lt
theorem op_leA : OpR X (compareOp .LtE) rLeI := op_le
theorem op_gtA : OpR X (compareOp .Gt) rGtI := op_gt
theorem op_geA : OpR X (compareOp .GtE) rGeI := op_ge
def rEqA (K : PySem.W.Frag) : R2 := fun x y H Q => rEq x y H Q ∨ rEqD K x y H Q
def rNeA (K : PySem.W.Frag) : R2 := fun x y H Q => rNe x y H Q ∨ rNeD K x y H Q
theorem op_eqA (hu : X.A.units + 64 < cLine) : OpR X (compareOp .Eq) (rEqA X.K) := op_eq.or (op_eqD hu)
theorem op_neA (hu : X.A.units + 64 < cLine) : OpR X (compareOp .NotEq) (rNeA X.K) := op_ne.or (op_neD hu)
def rInS : R2 := fun x y H Q => ∃ i j, x = .str i ∧ y = .str j ∧ Q (.bl (!(Builtin.Str.occurrences j i 0 j.length 1).isEmpty)) H
def rNotInS : R2 := fun x y H Q => ∃ i j, x = .str i ∧ y = .str j ∧ Q (.bl (!(!(Builtin.Str.occurrences j i 0 j.length 1).isEmpty))) H
def rInA (K : PySem.W.Frag) : R2 := fun x y H Q => rIn K false x y H Q ∨ rInS x y H Q
def rNotInA (K : PySem.W.Frag) : R2 := fun x y H Q => rIn K true x y H Q ∨ rNotInS x y H Q
theorem op_inA : OpR X (compareOp .In) (rInA X.K) := op_in_seq.or op_in_str
theorem op_notInA : OpR X (compareOp .NotIn) (rNotInA X.K) := op_notIn_seq.or op_notin_str
def rIsN : R2 := fun x y H Q => y = .non ∧ Q (.bl (decide (x = .non))) H
def rNotN : R2 := fun x y H Q => y = .non ∧ Q (.bl (!decide (x = .non))) H
theorem op_isNA : OpR X (compareOp .Is) rIsN := op_isN
theorem op_notNA : OpR X (compareOp .IsNot) rNotN := op_notN
/-! ### built-ins by name -/
def rLen (K : PySem.W.Frag) : List V → Hp → VK → Prop := fun xs H Q => ∃ x n, xs = [x] ∧ LenV K x H n ∧ Q (.int n) H
theorem call_lenA : CallR X (.builtin "len") (rLen X.K) := call_len
def rListOf (K : PySem.W.Frag) : List V → Hp → VK → Prop := fun xs H Q => ∃ p ys, xs = [.ref p] ∧ (SqL K H p ys ∨ SqT K H p ys) ∧ ∀ l, H l = none → Q (.ref l) (upd H l (.lst ys))
theorem call_listA : CallR X (.type "list") (rListOf X.K) := call_list_of
def rInt1 : List V → Hp → VK → Prop := fun xs H Q => (∃ i, xs = [.int i] ∧ Q (.int i) H) ∨ ∃ k, xs = [.bl k] ∧ Q (.int (if k then 1 else 0)) H
theorem call_intA : CallR X (.type "int") rInt1 := call_int1
def rStrI : List V → Hp → VK → Prop := fun xs H Q => ∃ i, xs = [.int i] ∧ i.natAbs.log2 < 1920 ∧ Q (.str (toString i)) H
theorem call_strA : CallR X (.type "str") rStrI := call_str_int
def rMin2 : List V → Hp → VK → Prop := fun xs H Q => ∃ i j, xs = [.int i, .int j] ∧ Q (.int (if j < i then j else i)) H
def rMax2 : List V → Hp → VK → Prop := fun xs H Q => ∃ i j, xs = [.int i, .int j] ∧ Q (.int (if j > i then j else i)) H
theorem call_minA (hc : X.calm = true) : CallR X (.builtin "min") rMin2 := call_min2 hc
theorem call_maxA (hc : X.calm = true) : CallR X (.builtin "max") rMax2 := call_max2 hc
theorem call_isA : CallR X (.builtin "isinstance") (rIsi X.K) := call_isi
/-! ### truth, slices, what is walked -/
def tTru (K : PySem.W.Frag) (ta : TE) : TT := fun σ H Q => ta σ H fun x H' => ∃ k, TruV K x H' k ∧ Q k H'
theorem pt_tru {a : Expr} {ta : TE} (ha : PE X a ta) (he : ∀ whole, isTrue a X.env whole = (do let v ← whole; standAt a.pos; holding [v] (truthy v)) := by intro _; rfl) : PT X a (tTru X.K ta) := pt_truth ha he
/-- what a for walks: a list, a tuple, a text -/
def Walk (K : PySem.W.Frag) (x : V) (H : Hp) (R : It → Hp → Prop) : Prop :=
  (∃ a, x = .ref a ∧ (∃ xs, SqL K H a xs) ∧ R (Itl K a) H) ∨ (∃ a, x = .ref a ∧ (∃ xs, SqT K H a xs) ∧ R (Itt K a) H) ∨ ∃ z, x = .str z ∧ R (Its z) H
def iAny (K : PySem.W.Frag) (tl : TE) : TI := fun σ H R => tl σ H fun x H1 => Walk K x H1 R
theorem pi_any {tg l : Expr} {tl : TE} (hl : PE X l tl) : PI X tg l (iAny X.K tl) := by
  refine ⟨fun pins s σ H R I h => thn (hl.run pins s σ H _ I h) fun v s1 ⟨x, H1, I1, r1, q1⟩ => ?_⟩
  have fp : ∀ {H' : Hp} {s' : Shared}, Inv X pins σ H' s' → ∀ b ∈ [s'.heap.objs.size], FpOk X pins H' b := fun I' b hb => by
    rw [List.mem_singleton.mp hb]
    exact I'.fpOk (Nat.le_refl _) (I'.hok.fresh (Nat.le_refl _))
  have keep : ∀ {ob b : _} {o : Obj}, s1.heap.get? b = some o → (s1.heap.push ob).get? b = some o := fun e => Heap.get?_push_of_some _ e
  rcases q1 with ⟨a, rfl, ⟨xs, hq⟩, q⟩ | ⟨a, rfl, ⟨xs, hq⟩, q⟩ | ⟨z, rfl, q⟩
  · cases r1
    obtain ⟨its, rv, p, hz⟩ := I1.list hq
    exact wpAny_pyIter_list p.isList ⟨_, [s1.heap.objs.size], _, _, H1, rfl, I1.kept (t' := s1.toks) fun b o e => keep e, turn_list a _, ⟨_, Heap.get?_push_size _ rfl, rfl, rfl⟩, fp I1, q⟩
  · cases r1
    obtain ⟨its, rv, p, hz⟩ := I1.tuple hq
    exact wpAny_pyIter_tuple (show s1.heap.IsTuple a its.toArray from p) ⟨_, [s1.heap.objs.size], _, _, H1, rfl, I1.kept (t' := s1.toks) fun b o e => keep e, turn_tuple a _, ⟨_, Heap.get?_push_size _ rfl, rfl, rfl⟩, fp I1, q⟩
  · obtain ⟨t, rfl⟩ := r1
    cases ha : z.cps.all (· < 128)
    · exact wpAny_pyIter_wide ha (pi_one (tk := s1.toks) I1 _ (turn_str _ z t "str_iterator" (.inr rfl)) ⟨_, Heap.get?_push_size _ rfl, rfl, rfl⟩ q)
    · exact wpAny_pyIter_ascii ha (pi_one (tk := s1.toks) I1 _ (turn_str _ z t "str_ascii_iterator" (.inl rfl)) ⟨_, Heap.get?_push_size _ rfl, rfl, rfl⟩ q)
/-! ### a def of the text, as its callers know it -/
structure Cal (P : Program) (w : World) (K : PySem.W.Frag) (mg : Str → Option Value) (base : Heap) (CX : CXT) (x : Str) (k : Nat) (ps : List Str) (sp : Sp) : Prop where
  ex : ∃ (f : Addr) (fd : FuncData), FnOk P w K mg base CX k f fd ps sp ∧ mg x = some (.ref f) ∧ PySem.W.keepIn K (.ref f) = true ∧ Binds K fd ps []
theorem Cal.mono {P : Program} {w : World} {K : PySem.W.Frag} {mg : Str → Option Value} {base : Heap} {CX : CXT} {x : Str} {j k : Nat} {ps : List Str} {sp : Sp} (c : Cal P w K mg base CX x j ps sp) (h : j ≤ k) : Cal P w K mg base CX x k ps sp := by
  obtain ⟨f, fd, a, b⟩ := c.ex
  exact ⟨f, fd, a.mono h, b⟩
theorem Cal.imp {P : Program} {w : World} {K : PySem.W.Frag} {mg : Str → Option Value} {base : Heap} {CX : CXT} {x : Str} {k : Nat} {ps : List Str} {sp sp' : Sp} (c : Cal P w K mg base CX x k ps sp)
    (h : ∀ vs H Q E, sp' vs H Q E → sp vs H Q E) : Cal P w K mg base CX x k ps sp' := by
  obtain ⟨f, fd, a, b⟩ := c.ex
  exact ⟨f, fd, a.imp h, b⟩
theorem pe_cal {CX : CXT} {E : XK} {x : Str} {k : Nat} {ps : List Str} {sp : Sp} {e : Expr} {es : List Expr} {t : TA} {p pos : Pos} (c : Cal X.prog X.w X.K X.mg X.base CX x k ps sp) (hr : Room k X.A) (hx : Passes CX X E) (ha : PA X (e :: es) t)
    (hg : Gl X x := by rfl) (hdb : (x == ("__debug__" : Str)) = false := by decide) (he : starEach (e :: es) X.env = (false, eval e X.env) :: starEach es X.env := by rfl) (hpl : (backTo pos (starEach es X.env)).any (·.1) = false := by rfl) :
    PE X (.Call (.Name x p) (e :: es) [] pos) (tCall sp [] E t) := by
  obtain ⟨f, fd, a, b, d, g⟩ := c.ex
  exact pe_call a hr hg b d g .nil hx ha hdb he hpl
theorem pe_cal0 {CX : CXT} {E : XK} {x : Str} {k : Nat} {ps : List Str} {sp : Sp} {p pos : Pos} (c : Cal X.prog X.w X.K X.mg X.base CX x k ps sp) (hr : Room k X.A) (hx : Passes CX X E)
    (hg : Gl X x := by rfl) (hdb : (x == ("__debug__" : Str)) = false := by decide) : PE X (.Call (.Name x p) [] [] pos) (tCall sp [] E tNil) := by
  obtain ⟨f, fd, a, b, d, g⟩ := c.ex
  exact pe_call0 a hr hg b d g .nil hx hdb
end
end Rd
namespace Rd
open PySem PySem.Spec PyProof.Rows L2
section
variable {K : PySem.W.Frag} {σ : L2.St} {H : Hp} {D : Ends} {Q : VK} {te ta tb tc : TE} {v x y : V} {i : Nat}
/-! ### steps -/
theorem rd_seq {t u : TS} (h : t { D with nx := u D } σ H) : tSeq t u D σ H := h
theorem rd_asg {g : TG} (h : te σ H fun x H1 => g x σ H1 D.nx) : tAsg te g D σ H := h
theorem rd_gName {R : L2.St → Hp → Prop} (h : R (σ.set i (some v)) H) : gName i v σ H R := h
theorem rd_gSub {to ti : TE} {t : TSet} {R : L2.St → Hp → Prop} (h : to σ H fun o H1 => ti σ H1 fun i H2 => t o i v H2 fun H3 => R σ H3) : gSub to ti t v σ H R := h
theorem rd_drop (h : te σ H fun _ H1 => D.nx σ H1) : tDrop te D σ H := h
theorem rd_ret (h : te σ H D.rt) : tRet te D σ H := h
theorem rd_retN (h : D.rt .non H) : tRetN D σ H := h
theorem rd_if {c : TT} {t u : TS} (h : c σ H fun b H1 => if b = true then t D σ H1 else u D σ H1) : tIfS c t u D σ H := h
theorem rd_next (h : D.nx σ H) : tNext D σ H := h
theorem rd_brk (h : D.bk σ H) : tBreak D σ H := h
theorem rd_cont (h : D.ct σ H) : tCont D σ H := h
theorem rd_par {a b : Nat} {t : TA} (h : t σ H fun vs H1 => ∃ v w, vs = [v, w] ∧ D.nx ((σ.set a (some v)).set b (some w)) H1) : tPar a b t D σ H := h
theorem rd_aug {ti : TIp} (hx : σ[i]? = some (some x)) (h : te σ H fun y H1 => ti x y H1 fun z H2 => D.nx (σ.set i (some z)) H2) : tAug i te ti D σ H := ⟨x, hx, h⟩
theorem rd_var (e : σ[i]? = some (some v)) (h : Q v H) : tVar i σ H Q := ⟨v, e, h⟩
theorem rd_c (h : Q v H) : tC v σ H Q := h
theorem rd_op {r : R2} (h : ta σ H fun x H1 => tb σ H1 fun y H2 => r x y H2 Q) : tOp r ta tb σ H Q := h
theorem rd_un {r : V → Hp → VK → Prop} (h : ta σ H fun x H1 => r x H1 Q) : tUn r ta σ H Q := h
theorem rd_test {R : Bool → Hp → Prop} (h : te σ H fun x H' => ∃ k, x = .bl k ∧ R k H') : tTest te σ H R := h
theorem rd_tru {R : Bool → Hp → Prop} (h : ta σ H fun x H' => ∃ k, TruV K x H' k ∧ R k H') : tTru K ta σ H R := h
theorem rd_nil {R : List V → Hp → Prop} (h : R [] H) : tNil σ H R := h
theorem rd_cons {t : TA} {R : List V → Hp → Prop} (h : ta σ H fun x H1 => t σ H1 fun xs H2 => R (x :: xs) H2) : tCons ta t σ H R := h
theorem rd_call {sp : Sp} {dvs : List V} {E : XK} {t : TA} (h : t σ H fun vs H1 => sp (vs ++ dvs) H1 Q E) : tCall sp dvs E t σ H Q := h
theorem rd_cb {r : List V → Hp → VK → Prop} {t : TA} (h : t σ H fun vs H1 => r vs H1 Q) : tCB r t σ H Q := h
theorem rd_and {t u : TT} {R : Bool → Hp → Prop} (h : t σ H fun c H1 => if c = true then u σ H1 R else R false H1) : tAnd t u σ H R := h
theorem rd_or {t u : TT} {R : Bool → Hp → Prop} (h : t σ H fun c H1 => if c = true then R true H1 else u σ H1 R) : tOr t u σ H R := h
theorem rd_not {t : TT} {R : Bool → Hp → Prop} (h : t σ H fun c H1 => R (!c) H1) : tNot t σ H R := h
theorem rd_andV (h : ta σ H fun x H1 => ∃ c, x = .bl c ∧ if c = true then tb σ H1 Q else Q (.bl false) H1) : tAndV ta tb σ H Q := h
theorem rd_orV (h : ta σ H fun x H1 => ∃ c, x = .bl c ∧ if c = true then Q (.bl true) H1 else tb σ H1 Q) : tOrV ta tb σ H Q := h
theorem rd_notV (h : ta σ H fun x H1 => ∃ c, x = .bl c ∧ Q (.bl (!c)) H1) : tNotV ta σ H Q := h
theorem rd_ifE {t : TT} (h : t σ H fun c H1 => if c = true then ta σ H1 Q else tb σ H1 Q) : tIf t ta tb σ H Q := h
theorem rd_chain {r r' : R2} (h : ta σ H fun x H1 => tb σ H1 fun y H2 => r x y H2 fun z H3 => ∃ k, z = .bl k ∧ (if k = true then tc σ H3 fun w' H4 => r' y w' H4 Q else Q (.bl false) H3)) : tChain r r' ta tb tc σ H Q := h
theorem rd_lst {t : TA} (h : t σ H fun xs H1 => xs.length ≤ sizeLine ∧ ∀ p, H1 p = none → Q (.ref p) (upd H1 p (.lst xs))) : tLst t σ H Q := h
theorem rd_tup {t : TA} (h : t σ H fun xs H1 => xs.length ≤ sizeLine ∧ ∀ p, H1 p = none → Q (.ref p) (upd H1 p (.tup xs))) : tTup t σ H Q := h
theorem rd_bm {T : String} {r : V → List V → Hp → VK → Prop} {to : TE} {t : TA} (h : to σ H fun x H1 => tyV K T x H1 ∧ t σ H1 fun xs H2 => r x xs H2 Q) : tBM K T r to t σ H Q := h
theorem rd_bm0 {T : String} {r : V → List V → Hp → VK → Prop} {to : TE} (h : to σ H fun x H1 => tyV K T x H1 ∧ r x [] H1 Q) : tBM0 K T r to σ H Q := h
/-! ### relations at values -/
theorem rd_addI {a b : Int} (h : Q (.int (a + b)) H) : rAddA K (.int a) (.int b) H Q := .inl ⟨a, b, rfl, rfl, h⟩
theorem rd_addS {a b : Str} (hl : a.length + b.length ≤ sizeLine) (h : Q (.str (a ++ b)) H) : rAddA K (.str a) (.str b) H Q := .inr (.inl ⟨a, b, rfl, rfl, hl, h⟩)
theorem rd_addL {p q : Addr} {xs ys : List V} (hp : H p = some (.lst xs)) (hq : H q = some (.lst ys)) (hl : xs.length + ys.length ≤ sizeLine) (h : ∀ r, H r = none → Q (.ref r) (upd H r (.lst (xs ++ ys)))) : rAddA K (.ref p) (.ref q) H Q := .inr (.inr (.inl ⟨p, q, xs, ys, rfl, rfl, hp, hq, hl, h⟩))
theorem rd_iaddI {a b : Int} (h : Q (.int (a + b)) H) : rIAddA K (.int a) (.int b) H Q := .inl ⟨a, b, rfl, rfl, h⟩
theorem rd_iaddS {a b : Str} (hl : a.length + b.length ≤ sizeLine) (h : Q (.str (a ++ b)) H) : rIAddA K (.str a) (.str b) H Q := .inr ⟨a, b, rfl, rfl, hl, h⟩
theorem rd_sub {a b : Int} (h : Q (.int (a - b)) H) : rSubI (.int a) (.int b) H Q := ⟨a, b, rfl, rfl, h⟩
theorem rd_mulR {a b : Int} (hb : -(2 ^ 64) < b ∧ b < 2 ^ 64) (h : Q (.int (a * b)) H) : rMulA (.int a) (.int b) H Q := .inl ⟨a, b, rfl, rfl, .inr hb, h⟩
theorem rd_mulL {a b : Int} (hb : -(2 ^ 64) < a ∧ a < 2 ^ 64) (h : Q (.int (a * b)) H) : rMulA (.int a) (.int b) H Q := .inl ⟨a, b, rfl, rfl, .inl hb, h⟩
theorem rd_rep {p : Addr} {xs : List V} {k : Int} (hp : H p = some (.lst xs)) (h1 : -(2 ^ 63) ≤ k) (h2 : k < 2 ^ 63) (hl : xs.length * k.toNat ≤ sizeLine) (h : ∀ r, H r = none → Q (.ref r) (upd H r (.lst (List.replicate k.toNat xs).flatten))) : rMulA (.ref p) (.int k) H Q := .inr ⟨p, k, xs, rfl, rfl, hp, h1, h2, hl, h⟩
theorem rd_div {a b : Int} (hb : 0 < b ∧ b < 1073741824) (h : Q (.int (a / b)) H) : rDivI (.int a) (.int b) H Q := ⟨a, b, rfl, rfl, hb, h⟩
theorem rd_mod {a b : Int} (hb : 0 < b) (h : Q (.int (a % b)) H) : rModI (.int a) (.int b) H Q := ⟨a, b, rfl, rfl, hb, h⟩
theorem rd_pow {a b : Int} (hb : 0 ≤ b ∧ b ≤ 1000000 ∧ a.natAbs < 2 ^ 64) (h : Q (.int (a ^ b.toNat)) H) : rPowI (.int a) (.int b) H Q := ⟨a, b, rfl, rfl, hb, h⟩
theorem rd_neg {a : Int} (h : Q (.int (-a)) H) : rNegI (.int a) H Q := ⟨a, rfl, h⟩
theorem rd_lt {a b : Int} (h : Q (.bl (decide (a < b))) H) : rLtI (.int a) (.int b) H Q := ⟨a, b, rfl, rfl, h⟩
theorem rd_le {a b : Int} (h : Q (.bl (decide (a ≤ b))) H) : rLeI (.int a) (.int b) H Q := ⟨a, b, rfl, rfl, h⟩
theorem rd_gt {a b : Int} (h : Q (.bl (decide (b < a))) H) : rGtI (.int a) (.int b) H Q := ⟨a, b, rfl, rfl, h⟩
theorem rd_ge {a b : Int} (h : Q (.bl (decide (b ≤ a))) H) : rGeI (.int a) (.int b) H Q := ⟨a, b, rfl, rfl, h⟩
theorem dI {a b : Int} : decide (V.int a = V.int b) = decide (a = b) := by rw [dec_int]; exact (Bool.beq_eq_decide_eq a b)
theorem dS {a b : Str} : decide (V.str a = V.str b) = decide (a = b) := by rw [dec_str]; exact (Bool.beq_eq_decide_eq a b)
theorem dB {a b : Bool} : decide (V.bl a = V.bl b) = decide (a = b) := by rw [dec_bl]; exact (Bool.beq_eq_decide_eq a b)
theorem rd_eqI {a b : Int} (h : Q (.bl (decide (a = b))) H) : rEqA K (.int a) (.int b) H Q := .inl ⟨rfl, by rw [dI]; exact h⟩
theorem rd_eqS {a b : Str} (h : Q (.bl (decide (a = b))) H) : rEqA K (.str a) (.str b) H Q := .inl ⟨rfl, by rw [dS]; exact h⟩
theorem rd_eqB {a b : Bool} (h : Q (.bl (decide (a = b))) H) : rEqA K (.bl a) (.bl b) H Q := .inl ⟨rfl, by rw [dB]; exact h⟩
theorem rd_neI {a b : Int} (h : Q (.bl (!decide (a = b))) H) : rNeA K (.int a) (.int b) H Q := .inl ⟨rfl, by rw [dI]; exact h⟩
theorem rd_neS {a b : Str} (h : Q (.bl (!decide (a = b))) H) : rNeA K (.str a) (.str b) H Q := .inl ⟨rfl, by rw [dS]; exact h⟩
theorem rd_neB {a b : Bool} (h : Q (.bl (!decide (a = b))) H) : rNeA K (.bl a) (.bl b) H Q := .inl ⟨rfl, by rw [dB]; exact h⟩
theorem rd_eqD {d e : PyData} (hd : Dp K H x d) (he : Dp K H y e) (sd : SeqAt.shaped d = true) (se : SeqAt.shaped e = true) (h : Q (.bl (PyData.eqv d e)) H) : rEqA K x y H Q := .inr ⟨d, e, hd, he, sd, se, h⟩
theorem rd_neD {d e : PyData} (hd : Dp K H x d) (he : Dp K H y e) (sd : SeqAt.shaped d = true) (se : SeqAt.shaped e = true) (h : Q (.bl (!PyData.eqv d e)) H) : rNeA K x y H Q := .inr ⟨d, e, hd, he, sd, se, h⟩
theorem rd_isN (h : Q (.bl (decide (x = .non))) H) : rIsN x .non H Q := ⟨rfl, h⟩
theorem rd_notN (h : Q (.bl (!decide (x = .non))) H) : rNotN x .non H Q := ⟨rfl, h⟩
theorem rd_ixL {p : Addr} {xs : List V} {k : Int} (hp : SqL K H p xs) (ha : atI xs k = some v) (h : Q v H) : rIx K (.ref p) (.int k) H Q := .inl ⟨p, xs, k, v, rfl, rfl, hp, ha, h⟩
theorem rd_ixT {p : Addr} {xs : List V} {k : Int} (hp : SqT K H p xs) (ha : atI xs k = some v) (h : Q v H) : rIx K (.ref p) (.int k) H Q := .inr (.inl ⟨p, xs, k, v, rfl, rfl, hp, ha, h⟩)
theorem rd_ixS {z : Str} {k : Int} {c : Nat} (hl : z.length ≤ sizeLine) (ha : atI z.cps.toList k = some c) (h : Q (.str ⟨#[c]⟩) H) : rIx K (.str z) (.int k) H Q := .inr (.inr ⟨z, k, c, rfl, rfl, hl, ha, h⟩)
theorem rd_setL {p : Addr} {xs : List V} {k : Int} {j : Nat} {R : Hp → Prop} (hp : H p = some (.lst xs)) (hj : ixN xs.length k = some j) (h : R (upd H p (.lst (xs.set j v)))) : rSetL (.ref p) (.int k) v H R := ⟨p, xs, k, j, rfl, rfl, hp, hj, h⟩
theorem rd_inL {p : Addr} {xs : List V} (hp : SqL K H p xs) (hx : flatV x = true) (ha : xs.all flatV = true) (h : Q (.bl (inV x xs)) H) : rInA K x (.ref p) H Q := .inl ⟨p, xs, rfl, .inl hp, hx, ha, h⟩
theorem rd_notInL {p : Addr} {xs : List V} (hp : SqL K H p xs) (hx : flatV x = true) (ha : xs.all flatV = true) (h : Q (.bl (!inV x xs)) H) : rNotInA K x (.ref p) H Q := .inl ⟨p, xs, rfl, .inl hp, hx, ha, h⟩
theorem rd_lenL {p : Addr} {xs : List V} (hp : SqL K H p xs) (h : Q (.int xs.length) H) : rLen K [.ref p] H Q := ⟨_, xs.length, rfl, .inl ⟨xs, hp, rfl⟩, h⟩
theorem rd_lenT {p : Addr} {xs : List V} (hp : SqT K H p xs) (h : Q (.int xs.length) H) : rLen K [.ref p] H Q := ⟨_, xs.length, rfl, .inr ⟨xs, hp, rfl⟩, h⟩
theorem rd_lenS {z : Str} (hl : z.length ≤ sizeLine) (h : Q (.int z.length) H) : rLen K [.str z] H Q := ⟨_, z.length, rfl, ⟨hl, rfl⟩, h⟩
theorem rd_list {p : Addr} {xs : List V} (hp : SqL K H p xs) (h : ∀ l, H l = none → Q (.ref l) (upd H l (.lst xs))) : rListOf K [.ref p] H Q := ⟨p, xs, rfl, .inl hp, h⟩
theorem rd_listT {p : Addr} {xs : List V} (hp : SqT K H p xs) (h : ∀ l, H l = none → Q (.ref l) (upd H l (.lst xs))) : rListOf K [.ref p] H Q := ⟨p, xs, rfl, .inr hp, h⟩
theorem rd_int {a : Int} (h : Q (.int a) H) : rInt1 [.int a] H Q := .inl ⟨a, rfl, h⟩
theorem rd_strI {a : Int} (hl : a.natAbs.log2 < 1920) (h : Q (.str (toString a)) H) : rStrI [.int a] H Q := ⟨a, rfl, hl, h⟩
theorem rd_min {a b : Int} (h : Q (.int (if b < a then b else a)) H) : rMin2 [.int a, .int b] H Q := ⟨a, b, rfl, h⟩
theorem rd_max {a b : Int} (h : Q (.int (if b > a then b else a)) H) : rMax2 [.int a, .int b] H Q := ⟨a, b, rfl, h⟩
theorem rd_isi {n m : String} {b : Bool} (ht : TyX K H x (.type n)) (hb : kitB n m = some b) (h : Q (.bl b) H) : rIsi K [x, .ty m] H Q := ⟨x, .ty m, .type n, .type m, b, rfl, .ty m, ht, kit_ty hb, h⟩
theorem rd_append {p : Addr} {xs : List V} (hp : H p = some (.lst xs)) (hl : xs.length < sizeLine) (h : Q .non (upd H p (.lst (xs ++ [y])))) : rAppend (.ref p) [y] H Q := ⟨p, xs, y, rfl, rfl, hp, hl, h⟩
theorem rd_tyL {p : Addr} {xs : List V} {R : Prop} (hp : H p = some (.lst xs)) (h : R) : tyV K "list" (.ref p) H ∧ R := ⟨.inl ⟨rfl, _, .inl (.inl hp)⟩, h⟩
/-! ### truth -/
theorem rd_bl {b : Bool} {R : Bool → Prop} (h : R b) : ∃ k, V.bl b = .bl k ∧ R k := ⟨b, rfl, h⟩
theorem rd_truB {b : Bool} {R : Bool → Prop} (h : R b) : ∃ k, TruV K (.bl b) H k ∧ R k := ⟨b, rfl, h⟩
theorem rd_truL {p : Addr} {xs : List V} {R : Bool → Prop} (hp : SqL K H p xs) (h : R (!xs.isEmpty)) : ∃ k, TruV K (.ref p) H k ∧ R k := ⟨_, .inl ⟨xs, hp, rfl⟩, h⟩
theorem rd_iteT {c : Prop} [Decidable c] {A B : Prop} (hc : c) (h : A) : if decide c = true then A else B := by rw [decide_eq_true hc]; exact h
theorem rd_iteF {c : Prop} [Decidable c] {A B : Prop} (hc : ¬ c) (h : B) : if decide c = true then A else B := by rw [decide_eq_false hc]; exact h
theorem rd_ite {c : Prop} [Decidable c] {A B : Prop} (h1 : c → A) (h2 : ¬ c → B) : if decide c = true then A else B := by
  by_cases hc : c
  · exact rd_iteT hc (h1 hc)
  · exact rd_iteF hc (h2 hc)
theorem rd_niteT {c : Prop} [Decidable c] {A B : Prop} (hc : ¬ c) (h : A) : if (!decide c) = true then A else B := by rw [decide_eq_false hc]; exact h
theorem rd_niteF {c : Prop} [Decidable c] {A B : Prop} (hc : c) (h : B) : if (!decide c) = true then A else B := by rw [decide_eq_true hc]; exact h
theorem rd_nite {c : Prop} [Decidable c] {A B : Prop} (h1 : ¬ c → A) (h2 : c → B) : if (!decide c) = true then A else B := by
  by_cases hc : c
  · exact rd_niteF hc (h2 hc)
  · exact rd_niteT hc (h1 hc)
theorem rd_iteB {b : Bool} {A B : Prop} (h1 : b = true → A) (h2 : b = false → B) : if b = true then A else B := by
  cases b
  · exact h2 rfl
  · exact h1 rfl
theorem rd_niteB {b : Bool} {A B : Prop} (h1 : b = false → A) (h2 : b = true → B) : if (!b) = true then A else B := by
  cases b
  · exact h1 rfl
  · exact h2 rfl
theorem rd_ite1 {A B : Prop} (h : A) : if true = true then A else B := h
theorem rd_ite0 {A B : Prop} (h : B) : if false = true then A else B := h
/-! ### heaps -/
theorem same_new {p : Addr} {o : HO} (h : H p = none) : Same H (upd H p o) := fun b x e => by
  rw [upd_ne (ne_of_none e h)]
  exact e
theorem same_mut {H' : Hp} {p : Addr} {o : HO} (s : Same H H') (h : H p = none) : Same H (upd H' p o) := fun b x e => by
  rw [upd_ne (ne_of_none e h)]
  exact s b x e
theorem size_of {n : Nat} (h : n ≤ 16000000) : n ≤ sizeLine := Nat.le_trans h (by rw [sizeLine_eq]; decide)
theorem size_lt {n : Nat} (h : n < 16000000) : n < sizeLine := Nat.lt_of_lt_of_le h (by rw [sizeLine_eq]; decide)
end
end Rd
namespace Rd
open PySem PySem.Spec PyProof.Rows L2
/-! ### a statement and the rest, with or without a word between them -/
def tSeqC (t u : TS) : TS := fun D σ H => tSeq t u D σ H ∨ ∃ Mid : L2.St → Hp → Prop, t { D with nx := Mid } σ H ∧ ∀ σ' H', Mid σ' H' → u D σ' H'
theorem pss_consC {X : Cx} {st : Stmt} {rest : List Stmt} {t u : TS} (h1 : PS X st t) (h2 : PSs X rest u) : PSs X (st :: rest) (tSeqC t u) := by
  refine ⟨fun pins s σ H D I h => ?_⟩
  rcases h with h | ⟨Mid, hm, hu⟩
  · exact (pss_cons h1 h2).run pins s σ H D I h
  · refine wpAny_execs_cons (thn (h1.run pins s σ H { D with nx := Mid } I hm) fun f s1 q => ?_)
    cases f with
    | next =>
      obtain ⟨σ', H', I', q⟩ := q
      exact h2.run pins s1 σ' H' D I' (hu σ' H' q)
    | ret v => exact q
    | brk => exact q
    | cont => exact q
section
variable {D : Ends} {σ : L2.St} {H : Hp} {t u : TS}
theorem rd_go (h : t { D with nx := u D } σ H) : tSeqC t u D σ H := .inl h
theorem rd_cut (Mid : L2.St → Hp → Prop) (h : t { D with nx := Mid } σ H) (k : ∀ σ' H', Mid σ' H' → u D σ' H') : tSeqC t u D σ H := .inr ⟨Mid, h, k⟩
end
end Rd
namespace Rd
open PySem PySem.Spec PyProof.Rows L2
/-! ### all but some places stand -/
def But (l : List Addr) (H H' : Hp) : Prop := ∀ b o, b ∉ l → H b = some o → H' b = some o
section
variable {K : PySem.W.Frag} {l l' : List Addr} {H H1 H2 H' : Hp} {p b : Addr} {o u : HO} {xs : List V}
theorem But.refl (l : List Addr) (H : Hp) : But l H H := fun _ _ _ h => h
theorem But.trans (a : But l H H1) (b : But l H1 H2) : But l H H2 := fun c u n h => b c u n (a c u n h)
theorem But.sub (a : But l H H1) (h : ∀ x ∈ l, x ∈ l') : But l' H H1 := fun c u n e => a c u (fun z => n (h c z)) e
theorem But.of (s : Same H H') : But l H H' := fun c u _ h => s c u h
theorem But.same (s : But [] H H') : Same H H' := fun c u h => s c u (by simp) h
/-- what is changed stands in l -/
theorem But.set (a : But l H H') (h : p ∈ l) : But l H (upd H' p o) := fun c u n e => by
  rw [upd_ne (fun z => n (by rw [z]; exact h))]
  exact a c u n e
/-- what is new ahead -/
theorem But.new (a : But l H H') (h : H p = none) : But l H (upd H' p o) := fun c u n e => by
  rw [upd_ne (ne_of_none e h)]
  exact a c u n e
theorem But.thenS (a : But l H H1) (b : Same H1 H2) : But l H H2 := fun c u n h => b c u (a c u n h)
/-- a change of what stood in H1, new to H -/
theorem But.drop (a : But l H H1) (b : But (p :: l) H1 H2) (h : H p = none) : But l H H2 := fun c u n e =>
  b c u (fun z => (List.mem_cons.mp z).elim (fun q => absurd q (ne_of_none e h)) n) (a c u n e)
theorem But.here (a : But l H H') (n : b ∉ l) (h : H b = some o) : H' b = some o := a b o n h
theorem But.seq (a : But l H H') (n : b ∉ l) (h : SqL K H b xs) : SqL K H' b xs := by
  rcases h with (h | ⟨o, h⟩) | h
  · exact .inl (.inl (a _ _ n h))
  · exact .inl (.inr ⟨o, a _ _ n h⟩)
  · exact .inr h
theorem But.seqT (a : But l H H') (n : b ∉ l) (h : SqT K H b xs) : SqT K H' b xs := by
  rcases h with (h | ⟨o, h⟩) | h
  · exact .inl (.inl (a _ _ n h))
  · exact .inl (.inr ⟨o, a _ _ n h⟩)
  · exact .inr h
theorem Same.seqT (a : Same H H') (h : SqT K H b xs) : SqT K H' b xs := (But.of (l := []) a).seqT (by simp) h
theorem nil_off : b ∉ ([] : List Addr) := by simp
theorem cons_off (h : b ≠ p) (k : b ∉ l) : b ∉ p :: l := by simp [h, k]
theorem Same.here (s : Same H H') (h : H b = some o) : H' b = some o := s b o h
/-- what is free behind was free ahead -/
theorem But.free (a : But l H H') (n : b ∉ l) (h : H' b = none) : H b = none := by
  cases e : H b with
  | none => rfl
  | some u => rw [a b u n e] at h; cases h
end
end Rd
namespace Rd
open PySem PySem.Spec PyProof.Rows L2
section
variable {K : PySem.W.Frag} {D : Ends} {σ : L2.St} {H : Hp} {g : TG} {tb : TS} {xs : List V} {a : Addr}
end
end Rd
namespace Rd
open PySem PySem.Spec PyProof.Rows L2
section
variable {K : PySem.W.Frag} {σ : L2.St} {H : Hp} {xs : List V} {a : Addr}
theorem wipe1 (σ : L2.St) (j : Nat) (x : V) : wipe ((wipe σ [j]).set j (some x)) [j] = wipe σ [j] := by
  show (((σ.set j none).set j (some x)).set j none) = σ.set j none
  rw [List.set_set, List.set_set]
theorem take_end {α : Type} {l : List α} {i : Nat} {x : α} (h : l[i]? = some x) : l.take (i + 1) = l.take i ++ [x] := by
  obtain ⟨hi, e⟩ := List.getElem?_eq_some_iff.mp h
  rw [List.take_succ_eq_append_getElem hi, e]
/-! ### ints in lists -/
abbrev iv (t : Nat) : V := .int (t : Int)
theorem flat_iv (ys : List Nat) : (ys.map iv).all flatV = true := by simp [List.all_eq_true, flatV]
theorem in_iv (t : Nat) (ys : List Nat) : inV (iv t) (ys.map iv) = decide (t ∈ ys) := by
  unfold inV
  rw [List.any_map]
  rw [Bool.eq_iff_iff]
  simp only [Function.comp, eqV, List.any_eq_true, beq_iff_eq, decide_eq_true_eq]
  constructor
  · rintro ⟨x, h, e⟩
    have e' : x = t := by omega
    rw [← e']
    exact h
  · exact fun h => ⟨t, h, rfl⟩
theorem atI_iv {xs : List V} {t : Nat} {v : V} (h : xs[t]? = some v) : atI xs (t : Int) = some v := atI_nat h
theorem at_map {α β : Type} {f : α → β} {l : List α} {i : Nat} {x : β} (h : (l.map f)[i]? = some x) : ∃ t, l[i]? = some t ∧ x = f t := by
  rw [List.getElem?_map] at h
  cases e : l[i]? with
  | none => rw [e] at h; cases h
  | some t => rw [e] at h; exact ⟨t, rfl, (Option.some.inj h).symm⟩
theorem map_at {α β : Type} {f : α → β} {l : List α} {i : Nat} {t : α} (h : l[i]? = some t) : (l.map f)[i]? = some (f t) := by
  rw [List.getElem?_map, h]; rfl
theorem getD_at {α : Type} {l : List α} {i : Nat} (d : α) (h : i < l.length) : l[i]? = some (l.getD i d) := by
  rw [List.getD_eq_getElem?_getD, List.getElem?_eq_getElem h]; rfl
end
end Rd
namespace Rd
open PySem PySem.Spec PyProof.Rows L2
section
variable {K : PySem.W.Frag} {D : Ends} {σ : L2.St} {H : Hp}
theorem rd_nite1 {A B : Prop} (h : A) : if (!false) = true then A else B := h
theorem rd_nite0 {A B : Prop} (h : B) : if (!true) = true then A else B := h
theorem rd_while {c : TT} {tb : TS} {m0 : Nat} (W : Nat → L2.St → Hp → Prop) (w0 : W m0 σ H)
    (hs : ∀ m σ H, W m σ H → c σ H fun b H1 => if b = true then ∃ N : L2.St → Hp → Prop, (∀ σ' H', N σ' H' → ∃ m', m' < m ∧ W m' σ' H') ∧ tb { D with nx := N, ct := N, bk := D.nx } σ H1 else D.nx σ H1) : tWhile c tb D σ H := ⟨W, ⟨m0, w0⟩, hs⟩
theorem rd_turn {W : Nat → L2.St → Hp → Prop} {m : Nat} {tb : TS} (h : tb { D with nx := fun σ' H' => ∃ m', m' < m ∧ W m' σ' H', ct := fun σ' H' => ∃ m', m' < m ∧ W m' σ' H', bk := D.nx } σ H) :
    ∃ N : L2.St → Hp → Prop, (∀ σ' H', N σ' H' → ∃ m', m' < m ∧ W m' σ' H') ∧ tb { D with nx := N, ct := N, bk := D.nx } σ H := ⟨_, fun _ _ h => h, h⟩
end
end Rd
namespace Rd
open PySem PySem.Spec PyProof.Rows L2
section
variable {K : PySem.W.Frag} {D : Ends} {σ : L2.St} {H : Hp} {g : TG} {tb : TS} {tl te : TE} {ta : TA} {tt : TT} {vs : List Nat} {Q : VK} {j : Nat}
/-! ### loops and comprehensions: the walked thing first, then these -/
def ForJ (g : TG) (tb : TS) (D : Ends) (σ : L2.St) (J : It) (H : Hp) : Prop := ∃ W : Nat → Nat → L2.St → Hp → Prop, (∃ m, W 0 m σ H) ∧ ∀ i m σ H, W i m σ H →
  (J.stop i H ∧ D.nx σ H) ∨ (J.go i H ∧ ∃ N : L2.St → Hp → Prop, (∀ σ' H', N σ' H' → ∃ m', m' < m ∧ W (i + 1) m' σ' H') ∧ ∀ x H', J.yld i H x H' → g x σ H' fun σ2 H2 => tb { D with nx := N, ct := N, bk := D.nx } σ2 H2)
def LcJ (g : TG) (tt : TT) (te : TE) (vs : List Nat) (σ : L2.St) (Q : VK) (J : It) (H : Hp) : Prop := ∀ Dd, H Dd = none → ∃ W : Nat → Nat → Hp → Prop, (∃ m, W 0 m (upd H Dd (.lst []))) ∧ ∀ i m H, W i m H →
  (J.stop i H ∧ Q (.ref Dd) H) ∨ (J.go i H ∧ ∃ Nx : Hp → Prop, (∀ H', Nx H' → ∃ m', m' < m ∧ W (i + 1) m' H') ∧ ∀ x H', J.yld i H x H' → g x (wipe σ vs) H' fun σ2 H2 => wipe σ2 vs = wipe σ vs ∧ tt σ2 H2 fun b H3 =>
    if b = true then te σ2 H3 fun y H4 => ∃ acc, H4 Dd = some (.lst acc) ∧ acc.length < sizeLine ∧ Nx (upd H4 Dd (.lst (acc ++ [y]))) else Nx H3)
def ForA (K : PySem.W.Frag) (x : V) (g : TG) (tb : TS) (D : Ends) (σ : L2.St) (H : Hp) : Prop := Walk K x H (ForJ g tb D σ)
def LcA (K : PySem.W.Frag) (x : V) (g : TG) (tt : TT) (te : TE) (vs : List Nat) (σ : L2.St) (H : Hp) (Q : VK) : Prop := Walk K x H (LcJ g tt te vs σ Q)
def ForR1 (as : List V) (g : TG) (tb : TS) (D : Ends) (σ : L2.St) (H : Hp) : Prop := ∃ j : Int, as = [.int j] ∧ -(2 ^ 62) ≤ j ∧ j < 2 ^ 62 ∧ ForJ g tb D σ (Itr 0 j.toNat) H
def LcR1 (as : List V) (g : TG) (tt : TT) (te : TE) (vs : List Nat) (σ : L2.St) (H : Hp) (Q : VK) : Prop := ∃ j : Int, as = [.int j] ∧ -(2 ^ 62) ≤ j ∧ j < 2 ^ 62 ∧ LcJ g tt te vs σ Q (Itr 0 j.toNat) H
def ForR2 (as : List V) (g : TG) (tb : TS) (D : Ends) (σ : L2.St) (H : Hp) : Prop := ∃ i j : Int, as = [.int i, .int j] ∧ (-(2 ^ 62) ≤ i ∧ i < 2 ^ 62 ∧ -(2 ^ 62) ≤ j ∧ j < 2 ^ 62) ∧ ForJ g tb D σ (Itr i (j - i).toNat) H
def LcR2 (as : List V) (g : TG) (tt : TT) (te : TE) (vs : List Nat) (σ : L2.St) (H : Hp) (Q : VK) : Prop := ∃ i j : Int, as = [.int i, .int j] ∧ (-(2 ^ 62) ≤ i ∧ i < 2 ^ 62 ∧ -(2 ^ 62) ≤ j ∧ j < 2 ^ 62) ∧ LcJ g tt te vs σ Q (Itr i (j - i).toNat) H
theorem rd_forA (h : tl σ H fun x H1 => ForA K x g tb D σ H1) : tFor (iAny K tl) g tb D σ H := h
theorem rd_lcA (h : tl σ H fun x H1 => LcA K x g tt te vs σ H1 Q) : tLc (iAny K tl) g tt te vs σ H Q := h
theorem rd_forR1 (h : ta σ H fun as H1 => ForR1 as g tb D σ H1) : tFor (iRng1 ta) g tb D σ H := h
theorem rd_lcR1 (h : ta σ H fun as H1 => LcR1 as g tt te vs σ H1 Q) : tLc (iRng1 ta) g tt te vs σ H Q := h
theorem rd_forR2 (h : ta σ H fun as H1 => ForR2 as g tb D σ H1) : tFor (iRng2 ta) g tb D σ H := h
theorem rd_lcR2 (h : ta σ H fun as H1 => LcR2 as g tt te vs σ H1 Q) : tLc (iRng2 ta) g tt te vs σ H Q := h
/-- for x in a list that stands -/
theorem forL {a : Addr} {xs : List V} (hx : SqL K H a xs) (Pv : Nat → L2.St → Hp → Prop) (h0 : Pv 0 σ H) (hl : ∀ i σ H, i ≤ xs.length → Pv i σ H → SqL K H a xs)
    (hs : ∀ (i : Nat) (x : V) σ H, xs[i]? = some x → Pv i σ H → g x σ H fun σ2 H2 => tb { D with nx := Pv (i + 1), ct := Pv (i + 1), bk := D.nx } σ2 H2) (hd : ∀ σ H, Pv xs.length σ H → D.nx σ H) : ForA K (.ref a) g tb D σ H :=
  .inl ⟨a, rfl, ⟨xs, hx⟩, for_list Pv h0 hl hs hd⟩
theorem forT {a : Addr} {xs : List V} (hx : SqT K H a xs) (Pv : Nat → L2.St → Hp → Prop) (h0 : Pv 0 σ H) (hl : ∀ i σ H, i ≤ xs.length → Pv i σ H → SqT K H a xs)
    (hs : ∀ (i : Nat) (x : V) σ H, xs[i]? = some x → Pv i σ H → g x σ H fun σ2 H2 => tb { D with nx := Pv (i + 1), ct := Pv (i + 1), bk := D.nx } σ2 H2) (hd : ∀ σ H, Pv xs.length σ H → D.nx σ H) : ForA K (.ref a) g tb D σ H :=
  .inr (.inl ⟨a, rfl, ⟨xs, hx⟩, for_tup Pv h0 hl hs hd⟩)
/-- for k in range(n) -/
theorem forR {n : Nat} {z : Int} (hz : z = (n : Int)) (hn : n ≤ 1000000000) (Pv : Nat → L2.St → Hp → Prop) (h0 : Pv 0 σ H)
    (hs : ∀ (i : Nat) σ H, i < n → Pv i σ H → g (.int (i : Int)) σ H fun σ2 H2 => tb { D with nx := Pv (i + 1), ct := Pv (i + 1), bk := D.nx } σ2 H2) (hd : ∀ σ H, Pv n σ H → D.nx σ H) : ForR1 [.int z] g tb D σ H := by
  subst hz
  refine ⟨n, rfl, by omega, by omega, ?_⟩
  rw [Int.toNat_natCast]
  exact for_range (lo := 0) (n := n) Pv h0 (fun i σ H hi p => by rw [Int.zero_add]; exact hs i σ H hi p) hd
theorem forR2 {n : Nat} {lo z : Int} (hz : z = lo + (n : Int)) (h1 : -1000000000 ≤ lo) (h2 : lo ≤ 1000000000) (hn : n ≤ 1000000000) (Pv : Nat → L2.St → Hp → Prop) (h0 : Pv 0 σ H)
    (hs : ∀ (i : Nat) σ H, i < n → Pv i σ H → g (.int (lo + (i : Int))) σ H fun σ2 H2 => tb { D with nx := Pv (i + 1), ct := Pv (i + 1), bk := D.nx } σ2 H2) (hd : ∀ σ H, Pv n σ H → D.nx σ H) : ForR2 [.int lo, .int z] g tb D σ H := by
  subst hz
  refine ⟨lo, lo + n, rfl, by omega, ?_⟩
  rw [show (lo + (n : Int) - lo).toNat = n by omega]
  exact for_range (lo := lo) (n := n) Pv h0 (fun i σ H hi p => hs i σ H hi p) hd
/-- a comprehension over a list that stands; Pv knows the list so far -/
theorem lcL {a : Addr} {xs : List V} (hx : SqL K H a xs) (h : ∀ Dd, H Dd = none → ∃ Pv : Nat → Hp → Prop, Pv 0 (upd H Dd (.lst [])) ∧ (∀ i H, i ≤ xs.length → Pv i H → SqL K H a xs) ∧
    (∀ (i : Nat) (x : V) H, xs[i]? = some x → Pv i H → g x (wipe σ vs) H fun σ2 H2 => wipe σ2 vs = wipe σ vs ∧ tt σ2 H2 fun b H3 =>
      if b = true then te σ2 H3 fun y H4 => ∃ acc, H4 Dd = some (.lst acc) ∧ acc.length < sizeLine ∧ Pv (i + 1) (upd H4 Dd (.lst (acc ++ [y]))) else Pv (i + 1) H3) ∧ (∀ H, Pv xs.length H → Q (.ref Dd) H)) : LcA K (.ref a) g tt te vs σ H Q := by
  refine .inl ⟨a, rfl, ⟨xs, hx⟩, fun Dd hD => ?_⟩
  obtain ⟨Pv, h0, hl, hs, hd⟩ := h Dd hD
  exact lc_list Pv h0 hl hs hd
theorem lcT {a : Addr} {xs : List V} (hx : SqT K H a xs) (h : ∀ Dd, H Dd = none → ∃ Pv : Nat → Hp → Prop, Pv 0 (upd H Dd (.lst [])) ∧ (∀ i H, i ≤ xs.length → Pv i H → SqT K H a xs) ∧
    (∀ (i : Nat) (x : V) H, xs[i]? = some x → Pv i H → g x (wipe σ vs) H fun σ2 H2 => wipe σ2 vs = wipe σ vs ∧ tt σ2 H2 fun b H3 =>
      if b = true then te σ2 H3 fun y H4 => ∃ acc, H4 Dd = some (.lst acc) ∧ acc.length < sizeLine ∧ Pv (i + 1) (upd H4 Dd (.lst (acc ++ [y]))) else Pv (i + 1) H3) ∧ (∀ H, Pv xs.length H → Q (.ref Dd) H)) : LcA K (.ref a) g tt te vs σ H Q := by
  refine .inr (.inl ⟨a, rfl, ⟨xs, hx⟩, fun Dd hD => ?_⟩)
  obtain ⟨Pv, h0, hl, hs, hd⟩ := h Dd hD
  exact lc_tup Pv h0 hl hs hd
theorem lcR {n : Nat} {z : Int} (hz : z = (n : Int)) (hn : n ≤ 1000000000) (h : ∀ Dd, H Dd = none → ∃ Pv : Nat → Hp → Prop, Pv 0 (upd H Dd (.lst [])) ∧
    (∀ (i : Nat) H, i < n → Pv i H → g (.int (i : Int)) (wipe σ vs) H fun σ2 H2 => wipe σ2 vs = wipe σ vs ∧ tt σ2 H2 fun b H3 =>
      if b = true then te σ2 H3 fun y H4 => ∃ acc, H4 Dd = some (.lst acc) ∧ acc.length < sizeLine ∧ Pv (i + 1) (upd H4 Dd (.lst (acc ++ [y]))) else Pv (i + 1) H3) ∧ (∀ H, Pv n H → Q (.ref Dd) H)) : LcR1 [.int z] g tt te vs σ H Q := by
  subst hz
  refine ⟨n, rfl, by omega, by omega, fun Dd hD => ?_⟩
  obtain ⟨Pv, h0, hs, hd⟩ := h Dd hD
  rw [Int.toNat_natCast]
  exact lc_range (lo := 0) (n := n) Pv h0 (fun i H hi p => by rw [Int.zero_add]; exact hs i H hi p) hd
/-- .. its tests and elements leaving the heap -/
theorem lcLp {a : Addr} {xs : List V} (hx : SqL K H a xs) (p : V → Bool) (f : V → V) (hz : xs.length ≤ 1000000)
    (ht : ∀ (i : Nat) (x : V) (Dd : Addr) (acc : List V), xs[i]? = some x → H Dd = none → ∀ R : Bool → Hp → Prop, R (p x) (upd H Dd (.lst acc)) → tt ((wipe σ [j]).set j (some x)) (upd H Dd (.lst acc)) R)
    (he : ∀ (i : Nat) (x : V) (Dd : Addr) (acc : List V), xs[i]? = some x → p x = true → H Dd = none → ∀ R : VK, R (f x) (upd H Dd (.lst acc)) → te ((wipe σ [j]).set j (some x)) (upd H Dd (.lst acc)) R)
    (q : ∀ Dd, H Dd = none → Q (.ref Dd) (upd H Dd (.lst ((xs.filter p).map f)))) : LcA K (.ref a) (gName j) tt te [j] σ H Q := by
  refine lcL hx fun Dd hD => ⟨fun i H' => H' = upd H Dd (.lst (((xs.take i).filter p).map f)), by simp, fun i H' _ e => by rw [e]; exact (same_new hD).seq hx, fun i x H' hi e => ?_, fun H' e => by rw [e, List.take_length]; exact q Dd hD⟩
  refine ⟨wipe1 σ j x, ?_⟩
  subst e
  refine ht i x Dd _ hi hD _ ?_
  have hl := take_end hi
  cases hp : p x with
  | true =>
    refine rd_ite1 (he i x Dd _ hi hp hD _ ⟨_, upd_same, ?_, ?_⟩)
    · refine size_lt ?_
      have h1 := List.length_filter_le p (xs.take i)
      have h2 := List.length_take_le' i xs
      rw [List.length_map]; omega
    · show upd _ _ _ = _
      rw [upd_upd, hl, List.filter_append, List.map_append, List.filter_cons, if_pos hp]
      rfl
  | false =>
    refine rd_ite0 ?_
    show upd _ _ _ = _
    rw [hl, List.filter_append, List.map_append, List.filter_cons, if_neg (by rw [hp]; decide)]
    simp
theorem lcRp {n : Nat} {z : Int} (hz : z = (n : Int)) (p : Nat → Bool) (f : Nat → V) (hn : n ≤ 1000000)
    (ht : ∀ (i : Nat) (Dd : Addr) (acc : List V), i < n → H Dd = none → ∀ R : Bool → Hp → Prop, R (p i) (upd H Dd (.lst acc)) → tt ((wipe σ [j]).set j (some (.int (i : Int)))) (upd H Dd (.lst acc)) R)
    (he : ∀ (i : Nat) (Dd : Addr) (acc : List V), i < n → p i = true → H Dd = none → ∀ R : VK, R (f i) (upd H Dd (.lst acc)) → te ((wipe σ [j]).set j (some (.int (i : Int)))) (upd H Dd (.lst acc)) R)
    (q : ∀ Dd, H Dd = none → Q (.ref Dd) (upd H Dd (.lst (((List.range n).filter p).map f)))) : LcR1 [.int z] (gName j) tt te [j] σ H Q := by
  refine lcR hz (by omega) fun Dd hD => ⟨fun i H' => H' = upd H Dd (.lst (((List.range i).filter p).map f)), by simp, fun i H' hi e => ?_, fun H' e => by rw [e]; exact q Dd hD⟩
  refine ⟨wipe1 σ j _, ?_⟩
  subst e
  refine ht i Dd _ hi hD _ ?_
  cases hp : p i with
  | true =>
    refine rd_ite1 (he i Dd _ hi hp hD _ ⟨_, upd_same, ?_, ?_⟩)
    · refine size_lt ?_
      have h1 := List.length_filter_le p (List.range i)
      rw [List.length_range] at h1
      rw [List.length_map]; omega
    · show upd _ _ _ = _
      rw [upd_upd, List.range_succ, List.filter_append, List.map_append, List.filter_cons, if_pos hp]
      rfl
  | false =>
    refine rd_ite0 ?_
    show upd _ _ _ = _
    rw [List.range_succ, List.filter_append, List.map_append, List.filter_cons, if_neg (by rw [hp]; decide)]
    simp
end
end Rd
namespace Rd
open PySem PySem.Spec PyProof.Rows L2
/-! ### isinstance of built-in types -/
theorem kb_int_bool : kitB "int" "bool" = some false := by decide +kernel
theorem kb_int_int : kitB "int" "int" = some true := by decide +kernel
theorem kb_int_str : kitB "int" "str" = some false := by decide +kernel
theorem kb_int_list : kitB "int" "list" = some false := by decide +kernel
theorem kb_int_tuple : kitB "int" "tuple" = some false := by decide +kernel
theorem kb_bool_bool : kitB "bool" "bool" = some true := by decide +kernel
theorem kb_bool_int : kitB "bool" "int" = some true := by decide +kernel
theorem kb_bool_str : kitB "bool" "str" = some false := by decide +kernel
theorem kb_bool_list : kitB "bool" "list" = some false := by decide +kernel
theorem kb_bool_tuple : kitB "bool" "tuple" = some false := by decide +kernel
theorem kb_str_bool : kitB "str" "bool" = some false := by decide +kernel
theorem kb_str_int : kitB "str" "int" = some false := by decide +kernel
theorem kb_str_str : kitB "str" "str" = some true := by decide +kernel
theorem kb_str_list : kitB "str" "list" = some false := by decide +kernel
theorem kb_str_tuple : kitB "str" "tuple" = some false := by decide +kernel
theorem kb_list_bool : kitB "list" "bool" = some false := by decide +kernel
theorem kb_list_int : kitB "list" "int" = some false := by decide +kernel
theorem kb_list_str : kitB "list" "str" = some false := by decide +kernel
theorem kb_list_list : kitB "list" "list" = some true := by decide +kernel
theorem kb_list_tuple : kitB "list" "tuple" = some false := by decide +kernel
theorem kb_tuple_bool : kitB "tuple" "bool" = some false := by decide +kernel
theorem kb_tuple_int : kitB "tuple" "int" = some false := by decide +kernel
theorem kb_tuple_str : kitB "tuple" "str" = some false := by decide +kernel
theorem kb_tuple_list : kitB "tuple" "list" = some false := by decide +kernel
theorem kb_tuple_tuple : kitB "tuple" "tuple" = some true := by decide +kernel
theorem kb_NoneType_bool : kitB "NoneType" "bool" = some false := by decide +kernel
theorem kb_NoneType_int : kitB "NoneType" "int" = some false := by decide +kernel
theorem kb_NoneType_str : kitB "NoneType" "str" = some false := by decide +kernel
theorem kb_NoneType_list : kitB "NoneType" "list" = some false := by decide +kernel
theorem kb_NoneType_tuple : kitB "NoneType" "tuple" = some false := by decide +kernel
end Rd
namespace Rd
open PySem PySem.Spec PyProof.Rows L2
theorem rd_yes {σ : L2.St} {H : Hp} {R : Bool → Hp → Prop} (h : R true H) : tYes σ H R := h
/-- what is free behind, where st stands, was free ahead, and is not st -/
theorem But.back {st p : Addr} {H H' : Hp} {o : HO} (a : But [st] H H') (hs : H' st = some o) (h : H' p = none) : p ≠ st ∧ H p = none := by
  have n : p ≠ st := fun z => by rw [z, hs] at h; cases h
  refine ⟨n, ?_⟩
  cases e : H p with
  | none => rfl
  | some u => rw [a p u (by simpa using n) e] at h; cases h
theorem But.off {st : Addr} {H H' : Hp} (h : But [st] H H') : ∀ b o, b ≠ st → H b = some o → H' b = some o := fun b o n e => h b o (by simpa using n) e
end Rd

namespace K48
open PySem PySem.Spec PyProof.Rows L2 Rd
/-! own steps, upon words of the kit that stand free here: kaf_pre: one step of a reading; kcf_m: what stands at an address; kcj_m: two addresses differ; kaf_suf: a test is known; kas_types: an item at a place -/
local macro_rules | `(tactic| kcj_m) => `(tactic| first | assumption | (exact Ne.symm (by assumption)) | (refine ne_of_none ?_ (by assumption); kcf_m) | (refine Ne.symm (ne_of_none ?_ (by assumption)); kcf_m))
local macro_rules | `(tactic| kcf_m) => `(tactic| first
  | assumption | exact upd_same | ((with_reducible apply SqL.of); kcf_m) | ((with_reducible apply SqT.of); kcf_m) | (refine Eq.trans (upd_ne (by kcj_m)) ?_; kcf_m)
  | ((with_reducible apply Rd.Same.here); (case s => assumption); (case h => kcf_m)) | ((with_reducible apply L2.Same.seq); (case e => assumption); (case h => kcf_m)) | ((with_reducible apply Rd.Same.seqT); (case a => assumption); (case h => kcf_m))
  | ((with_reducible apply But.here); (case a => assumption); (case n => kcj_in); (case h => kcf_m)) | ((with_reducible apply But.seq); (case a => assumption); (case n => kcj_in); (case h => kcf_m)) | ((with_reducible apply But.seqT); (case a => assumption); (case n => kcj_in); (case h => kcf_m)))
local macro_rules | `(tactic| kcj_in) => `(tactic| first | exact nil_off | (refine cons_off (by kcj_m) ?_; kcj_in))
local macro_rules | `(tactic| kaf_suf) => `(tactic| first | assumption | omega | decide | rfl | exact (fun z => V.noConfusion z))
local macro_rules | `(tactic| kas_types) => `(tactic| first | rfl | exact atI_nat (by assumption) | (refine atI_nat ?_; simp; done))
local macro_rules | `(tactic| kaf_pre) => `(tactic| first
  | with_reducible refine rd_var rfl ?_ | with_reducible refine rd_c ?_ | with_reducible refine rd_op ?_ | with_reducible refine rd_seq ?_ | with_reducible refine rd_asg ?_ | with_reducible refine rd_gName ?_
  | with_reducible refine rd_gSub ?_ | with_reducible refine rd_drop ?_ | with_reducible refine rd_ret ?_ | with_reducible refine rd_retN ?_ | with_reducible refine rd_if ?_ | with_reducible refine rd_next ?_ | with_reducible refine rd_brk ?_ | with_reducible refine rd_cont ?_
  | with_reducible refine rd_test ?_ | with_reducible refine rd_tru ?_ | with_reducible refine rd_nil ?_ | with_reducible refine rd_cons ?_ | with_reducible refine rd_call ?_ | with_reducible refine rd_cb ?_
  | with_reducible refine rd_and ?_ | with_reducible refine rd_or ?_ | with_reducible refine rd_not ?_ | with_reducible refine rd_andV ?_ | with_reducible refine rd_orV ?_ | with_reducible refine rd_notV ?_ | with_reducible refine rd_ifE ?_ | with_reducible refine rd_chain ?_
  | with_reducible refine rd_lst ?_ | with_reducible refine rd_tup ?_ | with_reducible refine rd_bm ?_ | with_reducible refine rd_bm0 ?_ | with_reducible refine rd_un ?_ | with_reducible refine rd_par ?_ | with_reducible refine rd_aug rfl ?_
  | with_reducible refine rd_forA ?_ | with_reducible refine rd_lcA ?_ | with_reducible refine rd_forR1 ?_ | with_reducible refine rd_lcR1 ?_ | with_reducible refine rd_forR2 ?_ | with_reducible refine rd_lcR2 ?_
  | with_reducible refine rd_addI ?_ | with_reducible refine rd_sub ?_ | with_reducible refine rd_iaddI ?_ | ((with_reducible refine rd_mulR ?_ ?_); decide) | ((with_reducible refine rd_mulL ?_ ?_); decide)
  | ((with_reducible refine rd_div ?_ ?_); kaf_suf) | ((with_reducible refine rd_mod ?_ ?_); kaf_suf) | ((with_reducible refine rd_pow ?_ ?_); decide) | with_reducible refine rd_neg ?_
  | with_reducible refine rd_lt ?_ | with_reducible refine rd_le ?_ | with_reducible refine rd_gt ?_ | with_reducible refine rd_ge ?_
  | with_reducible refine rd_eqI ?_ | with_reducible refine rd_eqS ?_ | with_reducible refine rd_eqB ?_ | with_reducible refine rd_neI ?_ | with_reducible refine rd_neS ?_ | with_reducible refine rd_neB ?_ | with_reducible refine rd_isN ?_ | with_reducible refine rd_notN ?_
  | ((with_reducible apply rd_ixL); (case hp => kcf_m); (case ha => kas_types)) | ((with_reducible apply rd_ixT); (case hp => kcf_m); (case ha => kas_types)) | ((with_reducible apply rd_setL); (case hp => kcf_m); (case hj => kas_types))
  | ((with_reducible apply rd_lenL); (case hp => kcf_m)) | ((with_reducible apply rd_lenT); (case hp => kcf_m)) | ((with_reducible apply rd_list); (case hp => kcf_m)) | with_reducible refine rd_int ?_ | with_reducible refine rd_min ?_ | with_reducible refine rd_max ?_
  | ((with_reducible apply rd_tyL); (case hp => kcf_m))
  | ((with_reducible apply rd_isi); (case ht => first | assumption | exact .base (.int _) | exact .base (.bl _) | exact .base (.str _) | exact .base .non | ((with_reducible apply TyX.base); (with_reducible apply TyOf.lst); kcf_m) | ((with_reducible apply TyX.base); (with_reducible apply TyOf.tup); kcf_m)); (case hb => first | exact kb_int_bool | exact kb_int_int | exact kb_int_str | exact kb_int_list | exact kb_int_tuple | exact kb_bool_bool | exact kb_bool_int | exact kb_bool_str | exact kb_bool_list | exact kb_bool_tuple | exact kb_str_bool | exact kb_str_int | exact kb_str_str | exact kb_str_list | exact kb_str_tuple | exact kb_list_bool | exact kb_list_int | exact kb_list_str | exact kb_list_list | exact kb_list_tuple | exact kb_tuple_bool | exact kb_tuple_int | exact kb_tuple_str | exact kb_tuple_list | exact kb_tuple_tuple | exact kb_NoneType_bool | exact kb_NoneType_int | exact kb_NoneType_str | exact kb_NoneType_list | exact kb_NoneType_tuple))
  | ((with_reducible apply rd_inL); (case hp => kcf_m); (case hx => rfl); (case ha => exact flat_iv _)) | ((with_reducible apply rd_notInL); (case hp => kcf_m); (case hx => rfl); (case ha => exact flat_iv _))
  | with_reducible refine rd_yes ?_ | with_reducible refine rd_bl ?_ | with_reducible refine rd_truB ?_ | with_reducible refine rd_ite1 ?_ | with_reducible refine rd_ite0 ?_ | with_reducible refine rd_nite1 ?_ | with_reducible refine rd_nite0 ?_
  | ((with_reducible refine rd_iteT ?_ ?_); kaf_suf) | ((with_reducible refine rd_iteF ?_ ?_); kaf_suf) | ((with_reducible refine rd_niteT ?_ ?_); kaf_suf) | ((with_reducible refine rd_niteF ?_ ?_); kaf_suf))
/- slots of _law_start: 0 script -/
def t_law_start (K : PySem.W.Frag) : TS :=
  (tRet (tLst (tCons (tCB (rListOf K) (tCons (tVar 0) tNil)) (tCons (tC (.int 0)) (tCons (tC (.int 0)) (tCons (tC (.int 0)) (tCons (tC (.int 0)) tNil)))))))
/- slots of _law_draw: 0 state, 1 many, 2 value, 3 mixed -/
def t_law_draw (K : PySem.W.Frag) : TS :=
  (tSeqC (tIfS (tTest (tOp (rEqA K) (tOp (rIx K) (tVar 0) (tC (.int 3))) (tC (.int 0)))) (tSeq (tIfS (tTest (tOp rGeI (tOp (rIx K) (tVar 0) (tC (.int 1))) (tCB (rLen K) (tCons (tOp (rIx K) (tVar 0) (tC (.int 0))) tNil)))) (tRet (tC (.int 0))) tNext)
  (tSeq (tAsg (tOp (rIx K) (tOp (rIx K) (tVar 0) (tC (.int 0))) (tOp (rIx K) (tVar 0) (tC (.int 1)))) (gSub (tVar 0) (tC (.int 2)) rSetL))
  (tSeq (tAsg (tOp (rAddA K) (tOp (rIx K) (tVar 0) (tC (.int 1))) (tC (.int 1))) (gSub (tVar 0) (tC (.int 1)) rSetL))
  (tSeq (tAsg (tC (.int 10)) (gSub (tVar 0) (tC (.int 3)) rSetL))
  (tSeq (tAsg (tC (.int 0)) (gSub (tVar 0) (tC (.int 4)) rSetL))
  (tIfS (tTest (tOp rGeI (tOp (rIx K) (tVar 0) (tC (.int 2))) (tOp rPowI (tC (.int 10)) (tC (.int 18))))) (tSeq (tAsg (tC (.int 60)) (gSub (tVar 0) (tC (.int 3)) rSetL))
  (tAsg (tC (.int 1)) (gSub (tVar 0) (tC (.int 4)) rSetL))) tNext)))))) tNext)
  (tSeq (tAsg (tOp rSubI (tOp (rIx K) (tVar 0) (tC (.int 3))) (tC (.int 1))) (gSub (tVar 0) (tC (.int 3)) rSetL))
  (tSeq (tIfS (tTest (tOp (rEqA K) (tOp (rIx K) (tVar 0) (tC (.int 4))) (tC (.int 1)))) (tSeq (tAsg (tOp rModI (tCB rInt1 (tCons (tOp (rIx K) (tVar 0) (tC (.int 2))) tNil)) (tVar 1)) (gName 2))
  (tSeq (tAsg (tOp rDivI (tCB rInt1 (tCons (tOp (rIx K) (tVar 0) (tC (.int 2))) tNil)) (tVar 1)) (gSub (tVar 0) (tC (.int 2)) rSetL))
  (tSeqC (tIfS (tTest (tOp (rEqA K) (tOp (rIx K) (tVar 0) (tC (.int 2))) (tC (.int 0)))) (tAsg (tC (.int 0)) (gSub (tVar 0) (tC (.int 3)) rSetL)) tNext)
  (tRet (tVar 2))))) tNext)
  (tSeq (tAsg (tOp rModI (tCB rInt1 (tCons (tOp (rAddA K) (tOp (rAddA K) (tOp rMulA (tOp (rIx K) (tVar 0) (tC (.int 2))) (tC (.int 48271))) (tOp rMulA (tOp (rIx K) (tVar 0) (tC (.int 3))) (tC (.int 69621)))) (tC (.int 12345))) tNil)) (tC (.int 2147483647))) (gName 3))
  (tSeq (tAsg (tOp rModI (tCB rInt1 (tCons (tOp (rAddA K) (tOp (rAddA K) (tOp rMulA (tVar 3) (tC (.int 16807))) (tOp rDivI (tVar 3) (tC (.int 127773)))) (tC (.int 3))) tNil)) (tC (.int 1000003))) (gName 3))
  (tRet (tOp rModI (tCB rInt1 (tCons (tVar 3) tNil)) (tVar 1))))))))
/-! ### the law's own draws -/
/-- the state at st: the script's copy at sc, four numbers -/
def StO (sc : Addr) (a : Nat) (b c d : Int) : HO := .lst [.ref sc, .int (a : Int), .int b, .int c, .int d]
theorem st_ne {H : Hp} {st sc : Addr} {a : Nat} {b c d : Int} {ns : List Int} (h : H st = some (StO sc a b c d)) (g : H sc = some (.lst (ns.map V.int))) : sc ≠ st := by
  refine Ne.symm (ne_of h g fun z => ?_)
  unfold StO at z
  injection z with z
  cases ns with
  | nil => cases z
  | cons n r => injection z with z _; cases z
/-- _law_draw: a number below m; the state stands, all else is as it was -/
def spDraw : Sp := fun vs H Q _ => ∃ (st : Addr) (m : Int) (sc : Addr) (ns : List Int) (a : Nat) (b c d : Int), vs = [.ref st, .int m] ∧ 0 < m ∧ m < 1000000000 ∧ H st = some (StO sc a b c d) ∧ H sc = some (.lst (ns.map V.int)) ∧
  ∀ (r : Int) (a' : Nat) (b' c' d' : Int) (H' : Hp), 0 ≤ r → r < m → H' st = some (StO sc a' b' c' d') → But [st] H H' → Q (.int r) H'
theorem len_law_draw (K : PySem.W.Frag) {vs : List V} {H : Hp} {Q : VK} {E : XK} (h : spDraw vs H Q E) : vs.length = 2 := by
  obtain ⟨st, m, sc, ns, a, b, c, d, rfl, _⟩ := h
  rfl
theorem rd_law_draw (K : PySem.W.Frag) (vs : List V) (H : Hp) (Q : VK) (E : XK) (h : spDraw vs H Q E) : t_law_draw K { nx := fun _ H' => Q .non H', rt := Q } (start ["state", "many", "value", "mixed"] vs) H := by
  obtain ⟨st, m, sc, ns, a, b, c, d, rfl, m0, m1, hst, hsc, q⟩ := h
  have ne := st_ne hst hsc
  unfold StO at hst
  unfold t_law_draw
  refine rd_cut (fun σ' H' => σ' = [some (.ref st), some (.int m), none, none] ∧ (∃ (a : Nat) (b c d : Int), H' st = some (.lst [.ref sc, .int (a : Int), .int b, .int c, .int d])) ∧ But [st] H H') ?_ ?_
  · repeat kaf_pre
    refine rd_ite (fun hc => ?_) (fun hc => ?_)
    · repeat kaf_pre
      refine rd_ite (fun hl => ?_) (fun hl => ?_)
      · repeat kaf_pre
        exact q 0 a b c d H (by omega) m0 hst (But.refl _ _)
      · rw [List.length_map] at hl
        repeat kaf_pre
        have ha : a < ns.length := by omega
        have hg : (ns.map V.int)[a]? = some (V.int ns[a]) := by rw [List.getElem?_map, List.getElem?_eq_getElem ha]; rfl
        repeat kaf_pre
        refine rd_ite (fun hb => ?_) (fun hb => ?_) <;> repeat kaf_pre
        · exact ⟨rfl, ⟨a + 1, ns[a], 60, 1, upd_same⟩, by repeat (first | exact But.refl _ _ | refine But.set ?_ (by simp))⟩
        · exact ⟨rfl, ⟨a + 1, ns[a], 10, 0, upd_same⟩, by repeat (first | exact But.refl _ _ | refine But.set ?_ (by simp))⟩
    · repeat kaf_pre
      exact ⟨rfl, ⟨a, b, c, d, hst⟩, But.refl _ _⟩
  · rintro σ' H' ⟨rfl, ⟨a, b, c, d, hst'⟩, hB⟩
    repeat kaf_pre
    refine rd_ite (fun hc => ?_) (fun hc => ?_)
    · repeat kaf_pre
      refine rd_cut (fun σ' H1 => σ' = [some (.ref st), some (.int m), some (.int (b % m)), none] ∧ (∃ (a : Nat) (b c d : Int), H1 st = some (.lst [.ref sc, .int (a : Int), .int b, .int c, .int d])) ∧ But [st] H H1) ?_ ?_
      · repeat kaf_pre
        refine rd_ite (fun hz => ?_) (fun hz => ?_) <;> repeat kaf_pre
        · exact ⟨rfl, ⟨a, _, _, _, upd_same⟩, by repeat (first | exact hB | refine But.set ?_ (by simp))⟩
        · exact ⟨rfl, ⟨a, _, _, _, upd_same⟩, by repeat (first | exact hB | refine But.set ?_ (by simp))⟩
      · rintro σ' H1 ⟨rfl, ⟨a, b', c', d', h1⟩, hB1⟩
        repeat kaf_pre
        exact q _ a b' c' d' H1 (Int.emod_nonneg _ (by omega)) (Int.emod_lt_of_pos _ m0) h1 hB1
    · repeat kaf_pre
      exact q _ a _ _ _ _ (Int.emod_nonneg _ (by omega)) (Int.emod_lt_of_pos _ m0) upd_same (But.set hB (by simp))
/-- _law_start -/
def spStart (K : PySem.W.Frag) : Sp := fun vs H Q _ => ∃ (s : Addr) (ns : List Int), vs = [.ref s] ∧ SqL K H s (ns.map V.int) ∧
  ∀ (st sc : Addr) (H' : Hp), H st = none → H sc = none → H' st = some (StO sc 0 0 0 0) → H' sc = some (.lst (ns.map V.int)) → Same H H' → Q (.ref st) H'
theorem len_law_start (K : PySem.W.Frag) {vs : List V} {H : Hp} {Q : VK} {E : XK} (h : spStart K vs H Q E) : vs.length = 1 := by
  obtain ⟨s, ns, rfl, _⟩ := h
  rfl
theorem rd_law_start (K : PySem.W.Frag) (vs : List V) (H : Hp) (Q : VK) (E : XK) (h : spStart K vs H Q E) : t_law_start K { nx := fun _ H' => Q .non H', rt := Q } (start ["script"] vs) H := by
  obtain ⟨s, ns, rfl, hs, q⟩ := h
  unfold t_law_start
  repeat kaf_pre
  intro sc nsc
  repeat kaf_pre
  refine ⟨size_of (by simp), fun st nst => ?_⟩
  have ne : sc ≠ st := fun z => by rw [← z, upd_same] at nst; cases nst
  have f : H st = none := by rw [upd_ne ne.symm] at nst; exact nst
  exact q st sc _ f nsc upd_same (by rw [upd_ne ne]; exact upd_same) (same_mut (same_new nsc) f)
/-! ### promises of the small ones -/
def spIsNum : Sp := fun vs H Q _ => ∃ i : Int, vs = [.int i] ∧ Q (.bl true) H
/- slots of _law_is_number: 0 actual -/
def t_law_is_number (K : PySem.W.Frag) : TS :=
  (tRet (tAndV (tCB (rIsi K) (tCons (tVar 0) (tCons (tC (.ty "int")) tNil))) (tNotV (tCB (rIsi K) (tCons (tVar 0) (tCons (tC (.ty "bool")) tNil))))))
/- slots of _law_same: 0 actual, 1 expected, 2 k -/
def t_law_same (K : PySem.W.Frag) (sp : Sp) : TS :=
  (tSeq (tIfS (tTest (tOp rIsN (tVar 1) (tC .non))) (tRet (tOp rIsN (tVar 0) (tC .non))) tNext)
  (tSeq (tIfS (tTru K (tCB (rIsi K) (tCons (tVar 1) (tCons (tC (.ty "bool")) tNil)))) (tRet (tAndV (tCB (rIsi K) (tCons (tVar 0) (tCons (tC (.ty "bool")) tNil))) (tOp (rEqA K) (tVar 0) (tVar 1)))) tNext)
  (tSeq (tIfS (tTru K (tCB (rIsi K) (tCons (tVar 1) (tCons (tC (.ty "int")) tNil)))) (tRet (tAndV (tCall (spIsNum) [] E0 (tCons (tVar 0) tNil)) (tOp (rEqA K) (tVar 0) (tVar 1)))) tNext)
  (tSeq (tIfS (tTru K (tCB (rIsi K) (tCons (tVar 1) (tCons (tC (.ty "str")) tNil)))) (tRet (tAndV (tCB (rIsi K) (tCons (tVar 0) (tCons (tC (.ty "str")) tNil))) (tOp (rEqA K) (tVar 0) (tVar 1)))) tNext)
  (tSeqC (tIfS (tTru K (tCB (rIsi K) (tCons (tVar 1) (tCons (tC (.ty "list")) tNil)))) (tIfS (tOr (tNot (tTru K (tCB (rIsi K) (tCons (tVar 0) (tCons (tC (.ty "list")) tNil))))) (tTest (tOp (rNeA K) (tCB (rLen K) (tCons (tVar 0) tNil)) (tCB (rLen K) (tCons (tVar 1) tNil))))) (tRet (tC (.bl false))) tNext) (tIfS (tOr (tNot (tTru K (tCB (rIsi K) (tCons (tVar 1) (tCons (tC (.ty "tuple")) tNil))))) (tOr (tNot (tTru K (tCB (rIsi K) (tCons (tVar 0) (tCons (tC (.ty "tuple")) tNil))))) (tTest (tOp (rNeA K) (tCB (rLen K) (tCons (tVar 0) tNil)) (tCB (rLen K) (tCons (tVar 1) tNil)))))) (tRet (tC (.bl false))) tNext))
  (tSeq (tFor (iRng1 (tCons (tCB (rLen K) (tCons (tVar 1) tNil)) tNil)) (gName 2) (tIfS (tNot (tTru K (tCall sp [] E0 (tCons (tOp (rIx K) (tVar 0) (tVar 2)) (tCons (tOp (rIx K) (tVar 1) (tVar 2)) tNil))))) (tRet (tC (.bl false))) tNext))
  (tRet (tC (.bl true)))))))))
/-! ### _law_is_number, _law_same: two values of one data are the same -/
def Rp (K : PySem.W.Frag) (H : Hp) : Nat → V → PyData → Prop
  | _, x, .none => x = .non
  | _, x, .bool b => x = .bl b
  | _, x, .int i => x = .int i
  | _, x, .str s => x = .str s
  | d + 1, x, .list ds => ∃ a xs, x = .ref a ∧ SqL K H a xs ∧ TyX K H (.ref a) (.type "list") ∧ xs.length = ds.length ∧ xs.length ≤ 1000000 ∧ ∀ (i : Nat) v e, xs[i]? = some v → ds[i]? = some e → Rp K H d v e
  | d + 1, x, .tuple ds => ∃ a xs, x = .ref a ∧ SqT K H a xs ∧ TyX K H (.ref a) (.type "tuple") ∧ xs.length = ds.length ∧ xs.length ≤ 1000000 ∧ ∀ (i : Nat) v e, xs[i]? = some v → ds[i]? = some e → Rp K H d v e
  | _, _, _ => False
theorem len_law_is_number (K : PySem.W.Frag) {vs : List V} {H : Hp} {Q : VK} {E : XK} (h : spIsNum vs H Q E) : vs.length = 1 := by
  obtain ⟨i, rfl, _⟩ := h
  rfl
theorem rd_law_is_number (K : PySem.W.Frag) (vs : List V) (H : Hp) (Q : VK) (E : XK) (h : spIsNum vs H Q E) : t_law_is_number K { nx := fun _ H' => Q .non H', rt := Q } (start ["actual"] vs) H := by
  obtain ⟨i, rfl, q⟩ := h
  unfold t_law_is_number
  repeat kaf_pre
  exact q
/-- by depth: d = 0 promises nothing -/
def spSame (K : PySem.W.Frag) : Nat → Sp
  | 0 => fun _ _ _ _ => False
  | d + 1 => fun vs H Q _ => ∃ (x y : V) (e : PyData), vs = [x, y] ∧ Rp K H d x e ∧ Rp K H d y e ∧ Q (.bl true) H
theorem len_law_same (K : PySem.W.Frag) {d : Nat} {vs : List V} {H : Hp} {Q : VK} {E : XK} (h : spSame K d vs H Q E) : vs.length = 2 := by
  cases d with
  | zero => exact h.elim
  | succ d =>
    obtain ⟨x, y, e, rfl, _⟩ := h
    rfl
theorem rd_law_same (K : PySem.W.Frag) (d : Nat) (vs : List V) (H : Hp) (Q : VK) (E : XK) (h : spSame K (d + 1) vs H Q E) : t_law_same K (spSame K d) { nx := fun _ H' => Q .non H', rt := Q } (start ["actual", "expected", "k"] vs) H := by
  obtain ⟨x, y, e, rfl, hx, hy, q⟩ := h
  unfold t_law_same
  have two : ∀ (D : Ends) (a b : Addr) (xs ys : List V) (ds : List PyData), xs.length = ds.length → ys.length = ds.length → ys.length ≤ 1000000 → d ≠ 0 →
      (∀ (i : Nat) v e, xs[i]? = some v → ds[i]? = some e → Rp K H (d - 1) v e) → (∀ (i : Nat) v e, ys[i]? = some v → ds[i]? = some e → Rp K H (d - 1) v e) →
      ∀ i v w (R : VK), i < ys.length → xs[i]? = some v → ys[i]? = some w → R (.bl true) H → spSame K d ([v, w] ++ []) H R E0 := by
    intro D a b xs ys ds e1 e2 hz d0 r1 r2 i v w R hi hv hw r
    obtain ⟨d', rfl⟩ : ∃ d', d = d' + 1 := ⟨d - 1, by omega⟩
    have hd : i < ds.length := by omega
    exact ⟨v, w, ds[i], rfl, r1 i v _ hv (List.getElem?_eq_getElem hd), r2 i w _ hw (List.getElem?_eq_getElem hd), r⟩
  cases e with
  | none =>
    have ex : x = .non := by cases d <;> exact hx
    have ey : y = .non := by cases d <;> exact hy
    subst ex ey
    repeat kaf_pre
    exact q
  | bool b =>
    have ex : x = .bl b := by cases d <;> exact hx
    have ey : y = .bl b := by cases d <;> exact hy
    subst ex ey
    repeat kaf_pre
    simpa using q
  | int i =>
    have ex : x = .int i := by cases d <;> exact hx
    have ey : y = .int i := by cases d <;> exact hy
    subst ex ey
    repeat kaf_pre
    refine ⟨i, rfl, ?_⟩
    repeat kaf_pre
    simpa using q
  | str s =>
    have ex : x = .str s := by cases d <;> exact hx
    have ey : y = .str s := by cases d <;> exact hy
    subst ex ey
    repeat kaf_pre
    simpa using q
  | dict kvs => cases d <;> exact hx.elim
  | list ds =>
    cases d with
    | zero => exact hx.elim
    | succ d =>
      obtain ⟨a, xs, rfl, sa, ta, e1, z1, r1⟩ := hx
      obtain ⟨b, ys, rfl, sb, tb, e2, z2, r2⟩ := hy
      repeat kaf_pre
      refine rd_go ?_
      repeat kaf_pre
      refine forR (n := ys.length) rfl (by omega) (fun k σ' H' => H' = H ∧ ∃ v, σ' = [some (.ref a), some (.ref b), v]) ⟨rfl, _, rfl⟩ ?_ ?_
      · rintro k σ' H' hk ⟨rfl, v, rfl⟩
        have hx := List.getElem?_eq_getElem (l := xs) (i := k) (by omega)
        have hy := List.getElem?_eq_getElem hk
        repeat kaf_pre
        refine two { nx := fun _ H' => Q .non H', rt := Q } a b xs ys ds e1 e2 z2 (by omega) r1 r2 k _ _ _ hk hx hy ?_
        repeat kaf_pre
        exact ⟨rfl, _, rfl⟩
      · rintro σ' H' ⟨rfl, v, rfl⟩
        repeat kaf_pre
        exact q
  | tuple ds =>
    cases d with
    | zero => exact hx.elim
    | succ d =>
      obtain ⟨a, xs, rfl, sa, ta, e1, z1, r1⟩ := hx
      obtain ⟨b, ys, rfl, sb, tb, e2, z2, r2⟩ := hy
      repeat kaf_pre
      refine rd_go ?_
      repeat kaf_pre
      refine forR (n := ys.length) rfl (by omega) (fun k σ' H' => H' = H ∧ ∃ v, σ' = [some (.ref a), some (.ref b), v]) ⟨rfl, _, rfl⟩ ?_ ?_
      · rintro k σ' H' hk ⟨rfl, v, rfl⟩
        have hx := List.getElem?_eq_getElem (l := xs) (i := k) (by omega)
        have hy := List.getElem?_eq_getElem hk
        repeat kaf_pre
        refine two { nx := fun _ H' => Q .non H', rt := Q } a b xs ys ds e1 e2 z2 (by omega) r1 r2 k _ _ _ hk hx hy ?_
        repeat kaf_pre
        exact ⟨rfl, _, rfl⟩
      · rintro σ' H' ⟨rfl, v, rfl⟩
        repeat kaf_pre
        exact q
/- slots of is_over: 0 targets, 1 any_of, 2 done, 3 target -/
def t_is_over (K : PySem.W.Frag) : TS :=
  (tSeq (tFor (iAny K (tVar 0)) (gName 3) (tSeq (tIfS (tAnd (tTru K (tVar 1)) (tTru K (tOp (rIx K) (tVar 2) (tVar 3)))) (tRet (tC (.bl true))) tNext)
  (tIfS (tAnd (tNot (tTru K (tVar 1))) (tNot (tTru K (tOp (rIx K) (tVar 2) (tVar 3))))) (tRet (tC (.bl false))) tNext)))
  (tRet (tNotV (tVar 1))))
/-! ### is_over, stuck_tasks -/
def isOver (ys : List Nat) (m : Bool) (dn : List Bool) : Bool := if m then ys.any (fun t => dn.getD t false) else ys.all (fun t => dn.getD t false)
theorem over_end {ys : List Nat} {m : Bool} {dn : List Bool} (h : ∀ t ∈ ys, dn.getD t false = !m) : isOver ys m dn = !m := by
  unfold isOver
  cases m
  · simpa [List.all_eq_true] using h
  · simpa [List.any_eq_false] using h
theorem over_at {ys : List Nat} {m : Bool} {dn : List Bool} {t : Nat} (ht : t ∈ ys) (h : dn.getD t false = m) : isOver ys m dn = m := by
  unfold isOver
  cases m
  · simp only [Bool.false_eq_true, if_false, List.all_eq_false]; exact ⟨t, ht, by rw [h]; decide⟩
  · simp only [if_true, List.any_eq_true]; exact ⟨t, ht, h⟩
def spOver (K : PySem.W.Frag) : Sp := fun vs H Q _ => ∃ (tp dp : Addr) (ys : List Nat) (m : Bool) (dn : List Bool), vs = [.ref tp, .bl m, .ref dp] ∧ SqL K H tp (ys.map iv) ∧ SqL K H dp (dn.map V.bl) ∧ (∀ t ∈ ys, t < dn.length) ∧ Q (.bl (isOver ys m dn)) H
theorem len_is_over (K : PySem.W.Frag) {vs : List V} {H : Hp} {Q : VK} {E : XK} (h : spOver K vs H Q E) : vs.length = 3 := by
  obtain ⟨tp, dp, ys, m, dn, rfl, _⟩ := h
  rfl
theorem rd_is_over (K : PySem.W.Frag) (vs : List V) (H : Hp) (Q : VK) (E : XK) (h : spOver K vs H Q E) : t_is_over K { nx := fun _ H' => Q .non H', rt := Q } (start ["targets", "any_of", "done", "target"] vs) H := by
  obtain ⟨tp, dp, ys, m, dn, rfl, hT, hD, hlt, q⟩ := h
  unfold t_is_over
  repeat kaf_pre
  refine forL hT (fun i σ' H' => H' = H ∧ (∃ v, σ' = [some (.ref tp), some (.bl m), some (.ref dp), v]) ∧ (∀ t ∈ ys.take i, dn.getD t false = !m)) ⟨rfl, ⟨_, rfl⟩, by simp⟩ (fun i σ' H' _ h => by rw [h.1]; exact hT) ?_ ?_
  · rintro i x σ' H' hi ⟨rfl, ⟨v, rfl⟩, hp⟩
    obtain ⟨t, ht, rfl⟩ := at_map hi
    have hm : t ∈ ys := List.mem_of_getElem? ht
    have hd : (dn.map V.bl)[t]? = some (V.bl (dn.getD t false)) := map_at (getD_at false (hlt t hm))
    have nxt : dn.getD t false = !m → ∀ t ∈ ys.take (i + 1), dn.getD t false = !m := fun e u hu => by
      rw [take_end ht] at hu
      rcases List.mem_append.mp hu with hu | hu
      · exact hp u hu
      · rw [List.mem_singleton.mp hu]; exact e
    cases m <;> cases e : dn.getD t false <;> rw [e] at hd <;> repeat kaf_pre
    · rw [over_at hm e] at q; exact q
    · exact ⟨rfl, ⟨_, rfl⟩, nxt e⟩
    · exact ⟨rfl, ⟨_, rfl⟩, nxt e⟩
    · rw [over_at hm e] at q; exact q
  · rintro σ' H' ⟨rfl, ⟨v, rfl⟩, hp⟩
    repeat kaf_pre
    rw [List.length_map, List.take_length] at hp
    rw [over_end hp] at q
    exact q
/- slots of stuck_tasks: 0 phases, 1 awaited, 2 modes, 3 hopeful, 4 grows, 5 task, 6 phase -/
def t_stuck_tasks (K : PySem.W.Frag) : TS :=
  (tSeq (tAsg (tLc (iAny K (tVar 0)) (gName 6) tYes (tOp (rNeA K) (tVar 6) (tC (.str "waiting"))) [6]) (gName 3))
  (tSeq (tAsg (tC (.bl true)) (gName 4))
  (tSeq (tWhile (tTru K (tVar 4)) (tSeq (tAsg (tC (.bl false)) (gName 4))
  (tFor (iRng1 (tCons (tCB (rLen K) (tCons (tVar 0) tNil)) tNil)) (gName 5) (tIfS (tAnd (tNot (tTru K (tOp (rIx K) (tVar 3) (tVar 5)))) (tTru K (tCall (spOver K) [] E0 (tCons (tOp (rIx K) (tVar 1) (tVar 5)) (tCons (tOp (rIx K) (tVar 2) (tVar 5)) (tCons (tVar 3) tNil)))))) (tSeq (tAsg (tC (.bl true)) (gSub (tVar 3) (tVar 5) rSetL))
  (tAsg (tC (.bl true)) (gName 4))) tNext))))
  (tRet (tLc (iRng1 (tCons (tCB (rLen K) (tCons (tVar 0) tNil)) tNil)) (gName 5) (tNot (tTru K (tOp (rIx K) (tVar 3) (tVar 5)))) (tVar 5) [5])))))
/-- the hopeful tasks -/
inductive Hop (ph : List Str) (aw : List (List Nat)) (md : List Bool) : Nat → Prop
  | free {i : Nat} {p : Str} : ph[i]? = some p → p ≠ "waiting" → Hop ph aw md i
  | all {i : Nat} {ys : List Nat} : md[i]? = some false → aw[i]? = some ys → (∀ t ∈ ys, Hop ph aw md t) → Hop ph aw md i
  | any {i t : Nat} {ys : List Nat} : md[i]? = some true → aw[i]? = some ys → t ∈ ys → Hop ph aw md t → Hop ph aw md i
structure Wf (ph : List Str) (aw : List (List Nat)) (md : List Bool) : Prop where
  la : aw.length = ph.length
  lm : md.length = ph.length
  lt : ∀ ys ∈ aw, ∀ t ∈ ys, t < ph.length
  sz : ph.length ≤ 100
/-- lists of ints stand at the places of xs -/
def Ins (K : PySem.W.Frag) (H : Hp) (xs : List V) (aw : List (List Nat)) : Prop := xs.length = aw.length ∧ ∀ (i : Nat) ys, aw[i]? = some ys → ∃ q, xs[i]? = some (.ref q) ∧ SqL K H q (ys.map iv)
theorem Ins.same {K : PySem.W.Frag} {H H' : Hp} {xs : List V} {aw : List (List Nat)} (h : Ins K H xs aw) (s : Same H H') : Ins K H' xs aw :=
  ⟨h.1, fun i ys e => let ⟨q, a, b⟩ := h.2 i ys e; ⟨q, a, s.seq b⟩⟩
theorem hop_over {ph : List Str} {aw : List (List Nat)} {md : List Bool} {i : Nat} {ys : List Nat} {m : Bool} {hp : List Bool} (hm : md[i]? = some m) (ha : aw[i]? = some ys) (s : ∀ i, hp.getD i false = true → Hop ph aw md i)
    (h : isOver ys m hp = true) : Hop ph aw md i := by
  unfold isOver at h
  cases m with
  | false =>
    simp only [Bool.false_eq_true, if_false, List.all_eq_true] at h
    exact .all hm ha fun t ht => s t (h t ht)
  | true =>
    simp only [if_true, List.any_eq_true] at h
    obtain ⟨t, ht, e⟩ := h
    exact .any hm ha ht (s t e)
/-- what is closed holds all that is hopeful -/
theorem hop_closed {ph : List Str} {aw : List (List Nat)} {md : List Bool} {hp : List Bool} (w : Wf ph aw md) (hl : hp.length = ph.length) (hb : ∀ (i : Nat) p, ph[i]? = some p → p ≠ "waiting" → hp.getD i false = true)
    (hc : ∀ (i : Nat) ys m, aw[i]? = some ys → md[i]? = some m → hp.getD i false = false → isOver ys m hp = false) {i : Nat} (h : Hop ph aw md i) : hp.getD i false = true := by
  induction h with
  | free h1 h2 => exact hb _ _ h1 h2
  | @all i ys hm ha _ ih =>
    cases e : hp.getD i false with
    | true => rfl
    | false =>
      have h := hc i ys false ha hm e
      unfold isOver at h
      simp only [Bool.false_eq_true, if_false, List.all_eq_false] at h
      obtain ⟨t, ht, ne⟩ := h
      exact absurd (ih t ht) ne
  | @any i t ys hm ha ht _ ih =>
    cases e : hp.getD i false with
    | true => rfl
    | false =>
      have h := hc i ys true ha hm e
      unfold isOver at h
      simp only [if_true, List.any_eq_false] at h
      exact absurd ih (h t ht)
theorem getD_set {hp : List Bool} {k i : Nat} (hk : k < hp.length) : (hp.set k true).getD i false = if i = k then true else hp.getD i false := by
  rw [List.getD_eq_getElem?_getD, List.getD_eq_getElem?_getD, List.getElem?_set]
  by_cases e : i = k
  · subst e; simp [hk]
  · rw [if_neg (Ne.symm e), if_neg e]
theorem count_set {hp : List Bool} {k : Nat} (hk : k < hp.length) (e : hp.getD k false = false) : (hp.set k true).count false < hp.count false := by
  have e' : hp[k] = false := by rw [List.getD_eq_getElem?_getD, List.getElem?_eq_getElem hk] at e; exact e
  have pos : 0 < hp.count false := List.count_pos_iff.mpr (by rw [← e']; exact List.getElem_mem hk)
  have h : (hp.set k true).count false = hp.count false - (if hp[k] == false then 1 else 0) + (if true == false then 1 else 0) := List.count_set hk
  rw [h, e']
  simp
  omega
def Inv0 (ph : List Str) (aw : List (List Nat)) (md : List Bool) (hp : List Bool) : Prop :=
  hp.length = ph.length ∧ (∀ i, hp.getD i false = true → Hop ph aw md i) ∧ (∀ (i : Nat) p, ph[i]? = some p → p ≠ "waiting" → hp.getD i false = true)
def Closed (aw : List (List Nat)) (md : List Bool) (hp : List Bool) (k : Nat) : Prop := ∀ i, i < k → ∀ ys m, aw[i]? = some ys → md[i]? = some m → hp.getD i false = false → isOver ys m hp = false
def spStuck (K : PySem.W.Frag) : Sp := fun vs H Q _ => ∃ (p1 p2 p3 : Addr) (ph : List Str) (aw : List (List Nat)) (md : List Bool) (xs : List V), vs = [.ref p1, .ref p2, .ref p3] ∧ SqL K H p1 (ph.map V.str) ∧ SqL K H p2 xs ∧ Ins K H xs aw ∧ SqL K H p3 (md.map V.bl) ∧ Wf ph aw md ∧
  ∀ (hp : List Bool) (p : Addr) (H' : Hp), hp.length = ph.length → (∀ i, hp.getD i false = true ↔ Hop ph aw md i) → H p = none → Same H H' → H' p = some (.lst (((List.range ph.length).filter fun i => !hp.getD i false).map iv)) → Q (.ref p) H'
theorem len_stuck_tasks (K : PySem.W.Frag) {vs : List V} {H : Hp} {Q : VK} {E : XK} (h : spStuck K vs H Q E) : vs.length = 3 := by
  obtain ⟨p1, p2, p3, ph, aw, md, xs, rfl, _⟩ := h
  rfl
theorem rd_stuck_tasks (K : PySem.W.Frag) (vs : List V) (H : Hp) (Q : VK) (E : XK) (h : spStuck K vs H Q E) : t_stuck_tasks K { nx := fun _ H' => Q .non H', rt := Q } (start ["phases", "awaited", "modes", "hopeful", "grows", "task", "phase"] vs) H := by
  obtain ⟨p1, p2, p3, ph, aw, md, xs, rfl, h1, h2, hI, h3, w, q⟩ := h
  unfold t_stuck_tasks
  repeat kaf_pre
  refine lcLp h1 (fun _ => true) (fun x => .bl (!decide (x = .str "waiting"))) (by rw [List.length_map]; have := w.sz; omega) (fun i x Dd acc hi hD R r => ?_) (fun i x Dd acc hi _ hD R r => ?_) fun hA nA => ?_
  · exact r
  · obtain ⟨s, hs, rfl⟩ := at_map hi
    repeat kaf_pre
    rw [dS] at r
    exact r
  have f1 : ((ph.map V.str).filter fun _ => true).map (fun x => V.bl (!decide (x = .str "waiting"))) = (ph.map fun s => !decide (s = ("waiting" : Str))).map V.bl := by
    rw [List.filter_eq_self.mpr (fun _ _ => rfl), List.map_map, List.map_map]
    refine List.map_congr_left fun s _ => ?_
    show V.bl (!decide (V.str s = V.str "waiting")) = _
    rw [dS]
    rfl
  rw [f1]
  have len (hp : List Bool) : (hp.map V.bl).length = hp.length := List.length_map _
  repeat kaf_pre
  refine rd_while (m0 := 2 * (ph.map fun s => !decide (s = ("waiting" : Str))).count false + 1) (fun m σ' H' => ∃ (hp : List Bool) (g : Bool) (v5 v6 : Option V), m = 2 * hp.count false + (if g then 1 else 0) ∧ σ' = [some (.ref p1), some (.ref p2), some (.ref p3), some (.ref hA), some (.bl g), v5, v6] ∧
    Same H H' ∧ H' hA = some (.lst (hp.map V.bl)) ∧ Inv0 ph aw md hp ∧ (g = false → Closed aw md hp ph.length)) ⟨_, true, _, _, rfl, rfl, same_new nA, upd_same, ⟨by simp, fun i e => ?_, fun i p e ne => ?_⟩, fun z => by cases z⟩ ?_
  · rw [List.getD_eq_getElem?_getD, List.getElem?_map] at e
    cases hi : ph[i]? with
    | none => rw [hi] at e; cases e
    | some p =>
      rw [hi] at e
      exact .free hi (by simpa using e)
  · rw [List.getD_eq_getElem?_getD, List.getElem?_map, e]
    simpa using ne
  · rintro m σ' H' ⟨hp, g, v5, v6, rfl, rfl, s, hA', ⟨hl, sound, base⟩, cl⟩
    repeat kaf_pre
    cases g with
    | false =>
      repeat kaf_pre
      refine lcRp (n := ph.length) (by rw [List.length_map]) (fun i => !hp.getD i false) iv (by have := w.sz; omega) (fun i Dd acc hi hD R r => ?_) (fun i Dd acc hi _ hD R r => ?_) fun Dd hD => ?_
      · have g1 : (hp.map V.bl)[i]? = some (V.bl (hp.getD i false)) := map_at (getD_at false (by omega))
        have g2 := same_new (o := .lst acc) hD
        repeat kaf_pre
        exact r
      · repeat kaf_pre
        exact r
      · refine q hp Dd _ hl (fun i => ⟨sound i, fun hh => hop_closed w hl base (fun i ys m a b c => cl rfl i (by
            have := (List.getElem?_eq_some_iff.mp a).1
            rw [w.la] at this; exact this) ys m a b c) hh⟩) (s.free hD) (s.trans (same_new hD)) upd_same
    | true =>
      repeat kaf_pre
      refine rd_turn ?_
      repeat kaf_pre
      refine forR (n := ph.length) (by rw [List.length_map]) (by have := w.sz; omega) (fun k σ' H' => ∃ (hp2 : List Bool) (g : Bool) (v5 : Option V), σ' = [some (.ref p1), some (.ref p2), some (.ref p3), some (.ref hA), some (.bl g), v5, v6] ∧
        Same H H' ∧ H' hA = some (.lst (hp2.map V.bl)) ∧ Inv0 ph aw md hp2 ∧ (g = false → hp2 = hp ∧ Closed aw md hp k) ∧ (g = true → hp2.count false < hp.count false)) ⟨hp, false, v5, rfl, s, hA', ⟨hl, sound, base⟩, fun _ => ⟨rfl, fun i hi => absurd hi (Nat.not_lt_zero i)⟩, fun z => by cases z⟩ ?_ ?_
      · rintro k σ2 H2 hk ⟨hp2, g, v5, rfl, s2, hA2, ⟨hl2, sound2, base2⟩, c0, c1⟩
        have k2 : k < hp2.length := by omega
        have g1 : (hp2.map V.bl)[k]? = some (V.bl (hp2.getD k false)) := map_at (getD_at false k2)
        have keep : hp2.getD k false = true → ∃ (hp3 : List Bool) (g' : Bool) (v5 : Option V), ([some (.ref p1), some (.ref p2), some (.ref p3), some (.ref hA), some (.bl g), some (.int (k : Int)), v6] : L2.St) = [some (.ref p1), some (.ref p2), some (.ref p3), some (.ref hA), some (.bl g'), v5, v6] ∧
            Same H H2 ∧ H2 hA = some (.lst (hp3.map V.bl)) ∧ Inv0 ph aw md hp3 ∧ (g' = false → hp3 = hp ∧ Closed aw md hp (k + 1)) ∧ (g' = true → hp3.count false < hp.count false) := fun e => by
          refine ⟨hp2, g, _, rfl, s2, hA2, ⟨hl2, sound2, base2⟩, fun eg => ?_, c1⟩
          obtain ⟨e1, cl1⟩ := c0 eg
          refine ⟨e1, fun i hi ys m a b c => ?_⟩
          by_cases hik : i = k
          · subst hik; rw [e1] at e; rw [e] at c; cases c
          · exact cl1 i (by omega) ys m a b c
        have h2' := s2.seq h2
        have h3' := s2.seq h3
        obtain ⟨hx, hI2⟩ := hI.same s2
        have ka : k < aw.length := by rw [w.la]; exact hk
        have km : k < md.length := by rw [w.lm]; exact hk
        have ea := List.getElem?_eq_getElem ka
        have em := List.getElem?_eq_getElem km
        obtain ⟨qa, hq, hqa⟩ := hI2 k _ ea
        have g3 : (md.map V.bl)[k]? = some (V.bl md[k]) := map_at em
        cases e : hp2.getD k false with
        | true =>
          rw [e] at g1
          repeat kaf_pre
          exact keep e
        | false =>
          rw [e] at g1
          repeat kaf_pre
          refine ⟨qa, hA, aw[k], md[k], hp2, rfl, hqa, SqL.of hA2, fun t ht => by rw [hl2]; exact w.lt _ (List.getElem_mem ka) t ht, ?_⟩
          repeat kaf_pre
          cases eo : isOver aw[k] md[k] hp2 with
          | true =>
            repeat kaf_pre
            have hj : ixN (hp2.map V.bl).length (k : Int) = some k := by unfold ixN; rw [if_pos (by omega), if_pos (by rw [len]; omega)]; simp
            refine rd_setL hA2 hj ?_
            repeat kaf_pre
            refine ⟨hp2.set k true, true, _, rfl, same_mut s2 nA, (by rw [List.map_set]; exact upd_same), ⟨by rw [List.length_set]; exact hl2, fun i hi => ?_, fun i p a b => ?_⟩, (fun z => by cases z), fun _ => ?_⟩
            · rw [getD_set k2] at hi
              by_cases hik : i = k
              · subst hik; exact hop_over em ea sound2 eo
              · rw [if_neg hik] at hi; exact sound2 i hi
            · rw [getD_set k2]
              by_cases hik : i = k
              · rw [if_pos hik]
              · rw [if_neg hik]; exact base2 i p a b
            · have lt := count_set k2 e
              cases g with
              | false => rw [(c0 rfl).1] at lt ⊢; exact lt
              | true => exact Nat.lt_trans lt (c1 rfl)
          | false =>
            repeat kaf_pre
            refine ⟨hp2, g, _, rfl, s2, hA2, ⟨hl2, sound2, base2⟩, fun eg => ?_, c1⟩
            obtain ⟨e1, cl1⟩ := c0 eg
            refine ⟨e1, fun i hi ys m a b c => ?_⟩
            by_cases hik : i = k
            · subst hik
              rw [ea] at a; cases a
              rw [em] at b; cases b
              rw [e1] at eo; exact eo
            · exact cl1 i (by omega) ys m a b c
      · rintro σ2 H2 ⟨hp2, g, v5, rfl, s2, hA2, i2, c0, c1⟩
        cases g with
        | false =>
          obtain ⟨rfl, cl1⟩ := c0 rfl
          exact ⟨2 * hp2.count false + 0, by simp, hp2, false, _, _, rfl, rfl, s2, hA2, i2, fun _ => cl1⟩
        | true =>
          have := c1 rfl
          exact ⟨2 * hp2.count false + 1, by simp; omega, hp2, true, _, _, rfl, rfl, s2, hA2, i2, fun z => by cases z⟩
/- slots of _law_freed: 0 targets, 1 mode, 2 hopeful, 3 inside, 4 target -/
def t_law_freed (K : PySem.W.Frag) : TS :=
  (tSeq (tAsg (tLc (iAny K (tVar 0)) (gName 4) (tTest (tOp (rInA K) (tVar 4) (tVar 2))) (tVar 4) [4]) (gName 3))
  (tSeq (tIfS (tTru K (tVar 1)) (tRet (tOp rGtI (tCB (rLen K) (tCons (tVar 3) tNil)) (tC (.int 0)))) tNext)
  (tRet (tOp (rEqA K) (tCB (rLen K) (tCons (tVar 3) tNil)) (tCB (rLen K) (tCons (tVar 0) tNil))))))
/- slots of _law_rightly_stuck: 0 phases, 1 awaited, 2 modes, 3 actual, 4 task, 5 freed, 6 target -/
def t_law_rightly_stuck (K : PySem.W.Frag) : TS :=
  (tSeq (tFor (iAny K (tVar 3)) (gName 4) (tSeq (tAsg (tLc (iAny K (tOp (rIx K) (tVar 1) (tVar 4))) (gName 6) (tTest (tOp (rNotInA K) (tVar 6) (tVar 3))) (tVar 6) [6]) (gName 5))
  (tSeq (tIfS (tOr (tTest (tOp (rNeA K) (tOp (rIx K) (tVar 0) (tVar 4)) (tC (.str "waiting")))) (tTest (tOp (rEqA K) (tCB (rLen K) (tCons (tVar 5) tNil)) (tCB (rLen K) (tCons (tOp (rIx K) (tVar 1) (tVar 4)) tNil))))) (tRet (tC (.bl false))) tNext)
  (tIfS (tAnd (tTru K (tOp (rIx K) (tVar 2) (tVar 4))) (tTest (tOp rGtI (tCB (rLen K) (tCons (tVar 5) tNil)) (tC (.int 0))))) (tRet (tC (.bl false))) tNext))))
  (tRet (tC (.bl true))))
/-! ### the law's own look: freed, rightly stuck -/
theorem filt_in (ys hs : List Nat) : ((ys.map iv).filter fun x => inV x (hs.map iv)).map (fun x => x) = (ys.filter fun t => decide (t ∈ hs)).map iv := by
  rw [List.map_id', List.filter_map]
  refine congrArg _ (List.filter_congr fun t _ => ?_)
  exact in_iv t hs
theorem filt_out (ys hs : List Nat) : ((ys.map iv).filter fun x => !inV x (hs.map iv)).map (fun x => x) = (ys.filter fun t => !decide (t ∈ hs)).map iv := by
  rw [List.map_id', List.filter_map]
  refine congrArg _ (List.filter_congr fun t _ => ?_)
  show (!inV (iv t) (hs.map iv)) = _
  rw [in_iv t hs]
def freed (ys : List Nat) (m : Bool) (hs : List Nat) : Bool :=
  if m then decide (0 < ((ys.filter fun t => decide (t ∈ hs)).length : Int)) else decide (((ys.filter fun t => decide (t ∈ hs)).length : Int) = (ys.length : Int))
def spFreed (K : PySem.W.Frag) : Sp := fun vs H Q _ => ∃ (tp hp : Addr) (ys : List Nat) (m : Bool) (hs : List Nat), vs = [.ref tp, .bl m, .ref hp] ∧ SqL K H tp (ys.map iv) ∧ SqL K H hp (hs.map iv) ∧ ys.length ≤ 1000 ∧
  ∀ H', Same H H' → Q (.bl (freed ys m hs)) H'
theorem len_law_freed (K : PySem.W.Frag) {vs : List V} {H : Hp} {Q : VK} {E : XK} (h : spFreed K vs H Q E) : vs.length = 3 := by
  obtain ⟨tp, hp, ys, m, hs, rfl, _⟩ := h
  rfl
theorem rd_law_freed (K : PySem.W.Frag) (vs : List V) (H : Hp) (Q : VK) (E : XK) (h : spFreed K vs H Q E) : t_law_freed K { nx := fun _ H' => Q .non H', rt := Q } (start ["targets", "mode", "hopeful", "inside", "target"] vs) H := by
  obtain ⟨tp, hp, ys, m, hs, rfl, h1, h2, hz, q⟩ := h
  unfold t_law_freed
  repeat kaf_pre
  refine lcLp h1 (fun x => inV x (hs.map iv)) (fun x => x) (by rw [List.length_map]; omega) (fun i x Dd acc hi hD R r => ?_) (fun i x Dd acc hi _ hD R r => ?_) fun hA nA => ?_
  · obtain ⟨t, ht, rfl⟩ := at_map hi
    have s := same_new (o := HO.lst acc) hD
    repeat kaf_pre
    exact r
  · repeat kaf_pre
    exact r
  · have s := same_new (o := HO.lst (((ys.map iv).filter fun x => inV x (hs.map iv)).map (fun x => x))) nA
    repeat kaf_pre
    cases m
    · repeat kaf_pre
      have q' := q _ s
      unfold freed at q'
      simp only [filt_in, List.length_map] at *
      exact q'
    · repeat kaf_pre
      have q' := q _ s
      unfold freed at q'
      simp only [filt_in, List.length_map] at *
      exact q'
/-- what is asked of the stuck tasks -/
def Right (ph : List Str) (aw : List (List Nat)) (md : List Bool) (act : List Nat) : Prop := ∀ t ∈ act, ∃ ys m, aw[t]? = some ys ∧ md[t]? = some m ∧ ph[t]? = some "waiting" ∧
  (ys.filter fun u => !decide (u ∈ act)).length ≠ ys.length ∧ (m = true → (ys.filter fun u => !decide (u ∈ act)).length = 0) ∧ ys.length ≤ 1000
def spRight (K : PySem.W.Frag) : Sp := fun vs H Q _ => ∃ (p1 p2 p3 ap : Addr) (ph : List Str) (aw : List (List Nat)) (md : List Bool) (xs : List V) (act : List Nat), vs = [.ref p1, .ref p2, .ref p3, .ref ap] ∧ SqL K H p1 (ph.map V.str) ∧ SqL K H p2 xs ∧ Ins K H xs aw ∧ SqL K H p3 (md.map V.bl) ∧
  SqL K H ap (act.map iv) ∧ Right ph aw md act ∧ ∀ H', Same H H' → Q (.bl true) H'
theorem len_law_rightly_stuck (K : PySem.W.Frag) {vs : List V} {H : Hp} {Q : VK} {E : XK} (h : spRight K vs H Q E) : vs.length = 4 := by
  obtain ⟨p1, p2, p3, ap, ph, aw, md, xs, act, rfl, _⟩ := h
  rfl
theorem rd_law_rightly_stuck (K : PySem.W.Frag) (vs : List V) (H : Hp) (Q : VK) (E : XK) (h : spRight K vs H Q E) : t_law_rightly_stuck K { nx := fun _ H' => Q .non H', rt := Q } (start ["phases", "awaited", "modes", "actual", "task", "freed", "target"] vs) H := by
  obtain ⟨p1, p2, p3, ap, ph, aw, md, xs, act, rfl, h1, h2, hI, h3, h4, R, q⟩ := h
  unfold t_law_rightly_stuck
  repeat kaf_pre
  refine forL h4 (fun k σ' H' => Same H H' ∧ ∃ v4 v5 v6, σ' = [some (.ref p1), some (.ref p2), some (.ref p3), some (.ref ap), v4, v5, v6]) ⟨Same.refl H, _, _, _, rfl⟩ (fun i σ' H' _ h => h.1.seq h4) ?_ ?_
  · rintro i x σ' H1 hi ⟨s1, v4, v5, v6, rfl⟩
    obtain ⟨t, ht, rfl⟩ := at_map hi
    obtain ⟨ys, m, ha, hm, hp, r1, r2, hz⟩ := R t (List.mem_of_getElem? ht)
    obtain ⟨_, hI2⟩ := hI.same s1
    obtain ⟨q1, hx, hq1⟩ := hI2 t ys ha
    have g1 := map_at (f := V.str) hp
    have g2 := map_at (f := V.bl) hm
    repeat kaf_pre
    refine lcLp hq1 (fun x => !inV x (act.map iv)) (fun x => x) (by rw [List.length_map]; omega) (fun i x Dd acc hi hD R r => ?_) (fun i x Dd acc hi _ hD R r => ?_) fun hA nA => ?_
    · obtain ⟨t, ht, rfl⟩ := at_map hi
      have s := same_new (o := HO.lst acc) hD
      repeat kaf_pre
      exact r
    · repeat kaf_pre
      exact r
    · rw [filt_out]
      have s2 := same_new (o := HO.lst ((ys.filter fun t => !decide (t ∈ act)).map iv)) nA
      repeat kaf_pre
      rw [List.length_map, List.length_map]
      repeat kaf_pre
      cases m
      · repeat kaf_pre
        exact ⟨s1.trans s2, _, _, _, rfl⟩
      · have := r2 rfl
        repeat kaf_pre
        rw [List.length_map]
        repeat kaf_pre
        exact ⟨s1.trans s2, _, _, _, rfl⟩
  · rintro σ' H1 ⟨s1, v4, v5, v6, rfl⟩
    repeat kaf_pre
    exact q _ s1
/-! ### the law's search: rounds -/
section
variable (ph : List Str) (aw : List (List Nat)) (md : List Bool) (act : List Nat)
def stepH (hs : List Nat) (t : Nat) : List Nat := if t ∉ hs ∧ t ∉ act ∧ freed (aw.getD t []) (md.getD t false) hs = true then hs ++ [t] else hs
def roundH (hs : List Nat) : Nat → List Nat
  | 0 => hs
  | k + 1 => stepH aw md act (roundH hs k) k
def runH (n : Nat) (hs : List Nat) : Nat → List Nat
  | 0 => hs
  | k + 1 => roundH aw md act (runH n hs k) n
def hope0 : List Nat := (List.range ph.length).filter fun t => !decide (ph.getD t "" = ("waiting" : Str))
end
section
variable {ph : List Str} {aw : List (List Nat)} {md : List Bool} {act hs : List Nat}
theorem freed_true {ys : List Nat} {m : Bool} : freed ys m hs = true ↔ if m then ∃ t ∈ ys, t ∈ hs else ∀ t ∈ ys, t ∈ hs := by
  unfold freed
  cases m
  · simp only [Bool.false_eq_true, if_false, decide_eq_true_eq]
    constructor
    · intro h
      have h' : (ys.filter fun t => decide (t ∈ hs)).length = ys.length := by omega
      have e := List.filter_eq_self.mp ((List.filter_sublist).eq_of_length h')
      exact fun t ht => of_decide_eq_true (e t ht)
    · intro h
      rw [List.filter_eq_self.mpr fun t ht => decide_eq_true (h t ht)]
  · simp only [if_true, decide_eq_true_eq]
    constructor
    · intro h
      have h' : 0 < (ys.filter fun t => decide (t ∈ hs)).length := by omega
      obtain ⟨t, ht⟩ := List.exists_mem_of_length_pos h'
      have := List.mem_filter.mp ht
      exact ⟨t, this.1, of_decide_eq_true this.2⟩
    · rintro ⟨t, h1, h2⟩
      have := List.length_pos_of_mem ((List.mem_filter (p := fun t => decide (t ∈ hs))).mpr ⟨h1, decide_eq_true h2⟩)
      omega
theorem step_pre (t : Nat) : ∃ r, stepH aw md act hs t = hs ++ r := by
  unfold stepH
  split
  · exact ⟨[t], rfl⟩
  · exact ⟨[], by simp⟩
theorem round_pre : ∀ k, ∃ r, roundH aw md act hs k = hs ++ r
  | 0 => ⟨[], by simp [roundH]⟩
  | k + 1 => by
    obtain ⟨r, e⟩ := round_pre k
    obtain ⟨r2, e2⟩ := step_pre (aw := aw) (md := md) (act := act) (hs := roundH aw md act hs k) k
    exact ⟨r ++ r2, by rw [roundH, e2, e, List.append_assoc]⟩
theorem round_len (k : Nat) : hs.length ≤ (roundH aw md act hs k).length := by
  obtain ⟨r, e⟩ := round_pre (aw := aw) (md := md) (act := act) (hs := hs) k
  rw [e, List.length_append]; omega
/-- a round that adds nothing: nothing can be added -/
theorem round_same : ∀ k, (roundH aw md act hs k).length = hs.length → roundH aw md act hs k = hs ∧ ∀ t, t < k → ¬ (t ∉ hs ∧ t ∉ act ∧ freed (aw.getD t []) (md.getD t false) hs = true)
  | 0, _ => ⟨rfl, fun t ht => absurd ht (Nat.not_lt_zero t)⟩
  | k + 1, h => by
    have h1 := round_len (aw := aw) (md := md) (act := act) (hs := hs) k
    have h2 : (roundH aw md act hs k).length ≤ (roundH aw md act hs (k + 1)).length := by
      obtain ⟨r, e⟩ := step_pre (aw := aw) (md := md) (act := act) (hs := roundH aw md act hs k) k
      rw [roundH, e, List.length_append]; omega
    obtain ⟨e, ih⟩ := round_same k (by omega)
    have e2 : ¬ (k ∉ hs ∧ k ∉ act ∧ freed (aw.getD k []) (md.getD k false) hs = true) := by
      intro c
      rw [roundH, e, stepH, if_pos c, List.length_append] at h
      simp at h
    refine ⟨by rw [roundH, e, stepH, if_neg e2], fun t ht => ?_⟩
    by_cases hk : t = k
    · rw [hk]; exact e2
    · exact ih t (by omega)
/-- what the search holds -/
structure Good (ph : List Str) (aw : List (List Nat)) (md : List Bool) (hs : List Nat) : Prop where
  nd : hs.Nodup
  hop : ∀ t ∈ hs, t < ph.length ∧ Hop ph aw md t
theorem good_step (w : Wf ph aw md) {t : Nat} (ht : t < ph.length) (g : Good ph aw md hs) : Good ph aw md (stepH aw md act hs t) := by
  unfold stepH
  split
  · rename_i c
    have ka : t < aw.length := by rw [w.la]; exact ht
    have km : t < md.length := by rw [w.lm]; exact ht
    have ea := getD_at (l := aw) [] ka
    have em := getD_at (l := md) false km
    refine ⟨List.nodup_append.mpr ⟨g.nd, by simp, fun a ha b hb => ?_⟩, fun u hu => ?_⟩
    · rw [List.mem_singleton] at hb
      subst hb
      exact fun z => c.1 (z ▸ ha)
    · rcases List.mem_append.mp hu with hu | hu
      · exact g.hop u hu
      · rw [List.mem_singleton.mp hu]
        refine ⟨ht, ?_⟩
        have f := freed_true.mp c.2.2
        cases e : md.getD t false with
        | false =>
          rw [e] at f em
          exact .all em ea fun v hv => (g.hop v (f v hv)).2
        | true =>
          rw [e] at f em
          obtain ⟨v, h1, h2⟩ := f
          exact .any em ea h1 (g.hop v h2).2
  · exact g
theorem good_round (w : Wf ph aw md) (g : Good ph aw md hs) : ∀ k, k ≤ ph.length → Good ph aw md (roundH aw md act hs k)
  | 0, _ => g
  | k + 1, h => good_step w (by omega) (good_round w g k (by omega))
theorem good_run (w : Wf ph aw md) (g : Good ph aw md hs) : ∀ k, Good ph aw md (runH aw md act ph.length hs k)
  | 0 => g
  | k + 1 => good_round w (good_run w g k) _ (Nat.le_refl _)
theorem good0 : Good ph aw md (hope0 ph) := by
  refine ⟨List.filter_sublist.nodup List.nodup_range, fun t ht => ?_⟩
  obtain ⟨h1, h2⟩ := List.mem_filter.mp ht
  have h1' := List.mem_range.mp h1
  exact ⟨h1', .free (getD_at ("" : Str) h1') (by simpa using h2)⟩
theorem sub_round {t : Nat} (h : t ∈ hs) (k : Nat) : t ∈ roundH aw md act hs k := by
  obtain ⟨r, e⟩ := round_pre (aw := aw) (md := md) (act := act) (hs := hs) k
  rw [e]; exact List.mem_append_left _ h
theorem sub_run {t n : Nat} (h : t ∈ hs) : ∀ k, t ∈ runH aw md act n hs k
  | 0 => h
  | k + 1 => sub_round (sub_run h k) _
/-- the hopeful tasks, the stuck ones -/
def hopL (ph : List Str) (hp : List Bool) : List Nat := (List.range ph.length).filter fun i => hp.getD i false
theorem len_split {α : Type} (p : α → Bool) : ∀ l : List α, (l.filter p).length + (l.filter fun i => !p i).length = l.length
  | [] => rfl
  | a :: l => by
    have ih := len_split p l
    rw [List.filter_cons, List.filter_cons]
    cases p a <;> simp <;> omega
theorem split_len (ph : List Str) (hp : List Bool) : (hopL ph hp).length + ((List.range ph.length).filter fun i => !hp.getD i false).length = ph.length := by
  have h := len_split (fun i => hp.getD i false) (List.range ph.length)
  rw [List.length_range] at h
  exact h
theorem good_len {hp : List Bool} (hH : ∀ i, hp.getD i false = true ↔ Hop ph aw md i) (g : Good ph aw md hs) : hs.length ≤ (hopL ph hp).length := by
  refine List.Nodup.length_le_of_subset g.nd fun t ht => ?_
  have := g.hop t ht
  exact List.mem_filter.mpr ⟨List.mem_range.mpr this.1, (hH t).mpr this.2⟩
theorem run_grows (w : Wf ph aw md) {hp : List Bool} (hH : ∀ i, hp.getD i false = true ↔ Hop ph aw md i) (ha : act = (List.range ph.length).filter fun i => !hp.getD i false) :
    ∀ k, k ≤ (runH aw md act ph.length (hope0 ph) k).length ∨ (hopL ph hp).length ≤ (runH aw md act ph.length (hope0 ph) k).length
  | 0 => .inl (Nat.zero_le _)
  | k + 1 => by
    have ih := run_grows w hH ha k
    have g := good_run (act := act) w (good0 (ph := ph) (aw := aw) (md := md)) k
    have l1 := round_len (aw := aw) (md := md) (act := act) (hs := runH aw md act ph.length (hope0 ph) k) ph.length
    by_cases e : (roundH aw md act (runH aw md act ph.length (hope0 ph) k) ph.length).length = (runH aw md act ph.length (hope0 ph) k).length
    · refine .inr ?_
      obtain ⟨e1, no⟩ := round_same _ e
      show _ ≤ (roundH aw md act (runH aw md act ph.length (hope0 ph) k) ph.length).length
      rw [e1]
      refine List.Nodup.length_le_of_subset (List.filter_sublist.nodup List.nodup_range) fun t ht => ?_
      have hop := (hH t).mp (List.mem_filter.mp ht).2
      have off : ∀ t, Hop ph aw md t → t ∉ act := fun t h z => by
        rw [ha] at z
        have := (List.mem_filter.mp z).2
        rw [(hH t).mpr h] at this
        exact absurd this (by decide)
      clear ht
      induction hop with
      | @free i p h1 h2 =>
        refine sub_run (List.mem_filter.mpr ⟨List.mem_range.mpr (List.getElem?_eq_some_iff.mp h1).1, ?_⟩) k
        rw [List.getD_eq_getElem?_getD, h1]
        simpa using h2
      | @all i ys hm hy hall ih =>
        have hi : i < ph.length := by have := (List.getElem?_eq_some_iff.mp hm).1; rw [w.lm] at this; exact this
        refine Classical.byContradiction fun z => no i hi ⟨z, off i (.all hm hy hall), freed_true.mpr ?_⟩
        rw [List.getD_eq_getElem?_getD, List.getD_eq_getElem?_getD, hm, hy]
        exact ih
      | @any i t ys hm hy ht hh ih =>
        have hi : i < ph.length := by have := (List.getElem?_eq_some_iff.mp hm).1; rw [w.lm] at this; exact this
        refine Classical.byContradiction fun z => no i hi ⟨z, off i (.any hm hy ht hh), freed_true.mpr ?_⟩
        rw [List.getD_eq_getElem?_getD, List.getD_eq_getElem?_getD, hm, hy]
        exact ⟨t, ht, ih⟩
    · show _ ≤ (roundH aw md act (runH aw md act ph.length (hope0 ph) k) ph.length).length ∨ _ ≤ (roundH aw md act (runH aw md act ph.length (hope0 ph) k) ph.length).length
      omega
theorem run_all (w : Wf ph aw md) {hp : List Bool} (hH : ∀ i, hp.getD i false = true ↔ Hop ph aw md i) (ha : act = (List.range ph.length).filter fun i => !hp.getD i false) :
    (runH aw md act ph.length (hope0 ph) ph.length).length + act.length = ph.length := by
  have h1 := run_grows w hH ha ph.length
  have h2 := good_len hH (good_run (act := act) w (good0 (ph := ph) (aw := aw) (md := md)) ph.length)
  have h3 := split_len ph hp
  rw [ha] at *
  omega
end
/-! ### _law_answered -/
def Full (ph : List Str) (aw : List (List Nat)) : Prop := (∀ (i : Nat) ys, aw[i]? = some ys → ph[i]? = some "waiting" → ys ≠ []) ∧ ∀ ys ∈ aw, ys.length ≤ 1000
theorem right_of {ph : List Str} {aw : List (List Nat)} {md : List Bool} {act : List Nat} {hp : List Bool} (w : Wf ph aw md) (f : Full ph aw) (hl : hp.length = ph.length) (hH : ∀ i, hp.getD i false = true ↔ Hop ph aw md i)
    (ha : act = (List.range ph.length).filter fun i => !hp.getD i false) : Right ph aw md act := by
  intro t ht
  have ht0 := ht
  rw [ha] at ht
  obtain ⟨h1, h2⟩ := List.mem_filter.mp ht
  have h1 := List.mem_range.mp h1
  have h2 : hp.getD t false = false := by simpa using h2
  have no : ¬ Hop ph aw md t := fun z => by rw [(hH t).mpr z] at h2; cases h2
  have ka : t < aw.length := by rw [w.la]; exact h1
  have km : t < md.length := by rw [w.lm]; exact h1
  have ea := List.getElem?_eq_getElem ka
  have em := List.getElem?_eq_getElem km
  have ep := List.getElem?_eq_getElem h1
  have ew : ph[t] = ("waiting" : Str) := Classical.byContradiction fun z => no (.free ep z)
  have ew' : ph[t]? = some ("waiting" : Str) := by rw [ep, ew]
  have mem : ∀ u ∈ aw[t], u ∈ act ↔ ¬ Hop ph aw md u := fun u hu => by
    rw [ha]
    constructor
    · intro z
      have := (List.mem_filter.mp z).2
      intro y
      rw [(hH u).mpr y] at this
      exact absurd this (by decide)
    · intro z
      refine List.mem_filter.mpr ⟨List.mem_range.mpr (w.lt _ (List.getElem_mem ka) u hu), ?_⟩
      cases e : hp.getD u false with
      | true => exact absurd ((hH u).mp e) z
      | false => rfl
  refine ⟨aw[t], md[t], ea, em, ew', ?_, ?_, f.2 _ (List.getElem_mem ka)⟩
  · intro z
    have e := List.filter_eq_self.mp ((List.filter_sublist).eq_of_length z)
    have all : ∀ u ∈ aw[t], Hop ph aw md u := fun u hu => Classical.byContradiction fun y => by
      have := e u hu
      rw [decide_eq_true ((mem u hu).mpr y)] at this
      exact absurd this (by decide)
    cases m : md[t] with
    | false => rw [m] at em; exact no (.all em ea all)
    | true =>
      rw [m] at em
      have ne := f.1 t _ ea ew'
      obtain ⟨u, hu⟩ := List.exists_mem_of_ne_nil _ ne
      exact no (.any em ea hu (all u hu))
  · intro m
    rw [m] at em
    refine List.length_eq_zero_iff.mpr (List.filter_eq_nil_iff.mpr fun u hu => ?_)
    have : u ∈ act := (mem u hu).mpr fun y => no (.any em ea hu y)
    simp [this]
def spAnswered (K : PySem.W.Frag) : Sp := fun vs H Q _ => ∃ (p1 p2 p3 ap : Addr) (ph : List Str) (aw : List (List Nat)) (md : List Bool) (xs : List V) (act : List Nat) (hp : List Bool), vs = [.ref p1, .ref p2, .ref p3, .ref ap] ∧ SqL K H p1 (ph.map V.str) ∧ SqL K H p2 xs ∧ Ins K H xs aw ∧ SqL K H p3 (md.map V.bl) ∧
  H ap = some (.lst (act.map iv)) ∧ Wf ph aw md ∧ Full ph aw ∧ hp.length = ph.length ∧ (∀ i, hp.getD i false = true ↔ Hop ph aw md i) ∧ (act = (List.range ph.length).filter fun i => !hp.getD i false) ∧ ∀ H', Same H H' → Q (.bl true) H'
theorem len_law_answered (K : PySem.W.Frag) {vs : List V} {H : Hp} {Q : VK} {E : XK} (h : spAnswered K vs H Q E) : vs.length = 4 := by
  obtain ⟨p1, p2, p3, ap, ph, aw, md, xs, act, hp, rfl, _⟩ := h
  rfl
theorem sorted_range (n : Nat) (p : Nat → Bool) : ((List.range n).filter p).Pairwise (· < ·) := List.Pairwise.filter _ List.pairwise_lt_range
/- slots of _law_answered: 0 phases, 1 awaited, 2 modes, 3 actual, 4 k, 5 hopeful, 6 task -/
def t_law_answered (K : PySem.W.Frag) : TS :=
  (tSeq (tIfS (tNot (tTru K (tCB (rIsi K) (tCons (tVar 3) (tCons (tC (.ty "list")) tNil))))) (tRet (tC (.bl false))) tNext)
  (tSeq (tFor (iRng1 (tCons (tCB (rLen K) (tCons (tVar 3) tNil)) tNil)) (gName 4) (tSeq (tIfS (tOr (tNot (tTru K (tCall (spIsNum) [] E0 (tCons (tOp (rIx K) (tVar 3) (tVar 4)) tNil)))) (tNot (tTest (tChain rLeI rLtI (tC (.int 0)) (tOp (rIx K) (tVar 3) (tVar 4)) (tCB (rLen K) (tCons (tVar 0) tNil)))))) (tRet (tC (.bl false))) tNext)
  (tIfS (tAnd (tTest (tOp rGtI (tVar 4) (tC (.int 0)))) (tTest (tOp rLeI (tOp (rIx K) (tVar 3) (tVar 4)) (tOp (rIx K) (tVar 3) (tOp rSubI (tVar 4) (tC (.int 1))))))) (tRet (tC (.bl false))) tNext)))
  (tSeq (tIfS (tNot (tTru K (tCall (spRight K) [] E0 (tCons (tVar 0) (tCons (tVar 1) (tCons (tVar 2) (tCons (tVar 3) tNil))))))) (tRet (tC (.bl false))) tNext)
  (tSeq (tAsg (tLc (iRng1 (tCons (tCB (rLen K) (tCons (tVar 0) tNil)) tNil)) (gName 6) (tTest (tOp (rNeA K) (tOp (rIx K) (tVar 0) (tVar 6)) (tC (.str "waiting")))) (tVar 6) [6]) (gName 5))
  (tSeq (tFor (iRng1 (tCons (tCB (rLen K) (tCons (tVar 0) tNil)) tNil)) (gName 4) (tFor (iRng1 (tCons (tCB (rLen K) (tCons (tVar 0) tNil)) tNil)) (gName 6) (tIfS (tAnd (tTest (tOp (rNotInA K) (tVar 6) (tVar 5))) (tAnd (tTest (tOp (rNotInA K) (tVar 6) (tVar 3))) (tTru K (tCall (spFreed K) [] E0 (tCons (tOp (rIx K) (tVar 1) (tVar 6)) (tCons (tOp (rIx K) (tVar 2) (tVar 6)) (tCons (tVar 5) tNil))))))) (tDrop (tBM K "list" rAppend (tVar 5) (tCons (tVar 6) tNil))) tNext)))
  (tRet (tOp (rEqA K) (tOp (rAddA K) (tCB (rLen K) (tCons (tVar 5) tNil)) (tCB (rLen K) (tCons (tVar 3) tNil))) (tCB (rLen K) (tCons (tVar 0) tNil)))))))))
theorem rd_law_answered (K : PySem.W.Frag) (vs : List V) (H : Hp) (Q : VK) (E : XK) (h : spAnswered K vs H Q E) : t_law_answered K { nx := fun _ H' => Q .non H', rt := Q } (start ["phases", "awaited", "modes", "actual", "k", "hopeful", "task"] vs) H := by
  obtain ⟨p1, p2, p3, ap, ph, aw, md, xs, act, hp, rfl, h1, h2, hI, h3, h4, w, f, hl, hH, ha, q⟩ := h
  have R := right_of w f hl hH ha
  have srt : act.Pairwise (· < ·) := by rw [ha]; exact sorted_range _ _
  have bnd : ∀ t ∈ act, t < ph.length := fun t ht => by rw [ha] at ht; exact List.mem_range.mp (List.mem_filter.mp ht).1
  have lp : (ph.map V.str).length = ph.length := List.length_map _
  have la : (act.map iv).length = act.length := List.length_map _
  have sz := w.sz
  have lz : act.length ≤ ph.length := by
    rw [ha]
    have := List.length_filter_le (fun i => !hp.getD i false) (List.range ph.length)
    rw [List.length_range] at this; exact this
  unfold t_law_answered
  repeat kaf_pre
  refine forR (n := act.length) (by rw [la]) (by omega) (fun k σ' H' => H' = H ∧ ∃ v4 v5 v6, σ' = [some (.ref p1), some (.ref p2), some (.ref p3), some (.ref ap), v4, v5, v6]) ⟨rfl, _, _, _, rfl⟩ ?_ ?_
  · rintro k σ' H' hk ⟨rfl, v4, v5, v6, rfl⟩
    have g1 : (act.map iv)[k]? = some (iv act[k]) := map_at (List.getElem?_eq_getElem hk)
    have b1 := bnd _ (List.getElem_mem hk)
    repeat kaf_pre
    refine ⟨_, rfl, ?_⟩
    repeat kaf_pre
    refine rd_ite (fun c => ?_) (fun c => ?_)
    · have e1 : (k : Int) - 1 = ((k - 1 : Nat) : Int) := by omega
      have hk1 : k - 1 < act.length := by omega
      have g2 : (act.map iv)[k - 1]? = some (iv act[k - 1]) := map_at (List.getElem?_eq_getElem hk1)
      have lt : act[k - 1] < act[k] := List.pairwise_iff_getElem.mp srt (k - 1) k hk1 hk (by omega)
      repeat kaf_pre
      rw [e1]
      repeat kaf_pre
      exact ⟨rfl, _, _, _, rfl⟩
    · repeat kaf_pre
      exact ⟨rfl, _, _, _, rfl⟩
  · rintro σ' H' ⟨rfl, v4, v5, v6, rfl⟩
    repeat kaf_pre
    refine ⟨p1, p2, p3, ap, ph, aw, md, xs, act, rfl, h1, h2, hI, h3, SqL.of h4, R, fun H1 s1 => ?_⟩
    repeat kaf_pre
    refine lcRp (n := ph.length) (by rw [lp]) (fun t => !decide (ph.getD t "" = ("waiting" : Str))) iv (by omega) (fun i Dd acc hi hD R r => ?_) (fun i Dd acc hi _ hD R r => ?_) fun hA nA => ?_
    · have g1 : (ph.map V.str)[i]? = some (V.str (ph.getD i "")) := map_at (getD_at _ hi)
      have g2 := same_new (o := .lst acc) hD
      repeat kaf_pre
      exact r
    · repeat kaf_pre
      exact r
    · have s2 := s1.trans (same_new (o := .lst (((List.range ph.length).filter fun t => !decide (ph.getD t "" = ("waiting" : Str))).map iv)) nA)
      have nA0 : H' hA = none := s1.free nA
      repeat kaf_pre
      refine forR (n := ph.length) (by rw [lp]) (by omega) (fun k σ' H2 => Same H' H2 ∧ H2 hA = some (.lst ((runH aw md act ph.length (hope0 ph) k).map iv)) ∧ ∃ v4 v6, σ' = [some (.ref p1), some (.ref p2), some (.ref p3), some (.ref ap), v4, some (.ref hA), v6]) ⟨s2, upd_same, _, _, rfl⟩ ?_ ?_
      · rintro k σ2 H2 hk ⟨s3, h5, v4, v6, rfl⟩
        repeat kaf_pre
        refine forR (n := ph.length) (by rw [lp]) (by omega) (fun t σ' H2 => Same H' H2 ∧ H2 hA = some (.lst ((roundH aw md act (runH aw md act ph.length (hope0 ph) k) t).map iv)) ∧ ∃ v6, σ' = [some (.ref p1), some (.ref p2), some (.ref p3), some (.ref ap), some (.int (k : Int)), some (.ref hA), v6]) ⟨s3, h5, _, rfl⟩ ?_ ?_
        · rintro t σ3 H3 ht ⟨s4, h6, v6, rfl⟩
          have ka : t < aw.length := by rw [w.la]; exact ht
          have km : t < md.length := by rw [w.lm]; exact ht
          have ea := getD_at (l := aw) [] ka
          have em := getD_at (l := md) false km
          obtain ⟨_, hI2⟩ := hI.same s4
          obtain ⟨q1, hx, hq1⟩ := hI2 t _ ea
          have g2 := map_at (f := V.bl) em
          have same : stepH aw md act (roundH aw md act (runH aw md act ph.length (hope0 ph) k) t) t = roundH aw md act (runH aw md act ph.length (hope0 ph) k) t → ∀ H4, Same H3 H4 → Same H' H4 ∧ H4 hA = some (.lst ((roundH aw md act (runH aw md act ph.length (hope0 ph) k) (t + 1)).map iv)) ∧ ∃ v6, ([some (.ref p1), some (.ref p2), some (.ref p3), some (.ref ap), some (.int (k : Int)), some (.ref hA), some (.int (t : Int))] : L2.St) = [some (.ref p1), some (.ref p2), some (.ref p3), some (.ref ap), some (.int (k : Int)), some (.ref hA), v6] := fun e H4 s5 => by
            refine ⟨s4.trans s5, ?_, _, rfl⟩
            rw [roundH, e]
            exact s5 _ _ h6
          repeat kaf_pre
          rw [in_iv]
          repeat kaf_pre
          refine rd_nite (fun c1 => ?_) (fun c1 => ?_)
          · repeat kaf_pre
            rw [in_iv]
            repeat kaf_pre
            refine rd_nite (fun c2 => ?_) (fun c2 => ?_)
            · repeat kaf_pre
              refine ⟨q1, hA, _, _, _, rfl, hq1, SqL.of h6, f.2 _ (List.mem_of_getElem? ea), fun H4 s5 => ?_⟩
              repeat kaf_pre
              refine rd_iteB (fun c3 => ?_) (fun c3 => ?_)
              · have e : stepH aw md act (roundH aw md act (runH aw md act ph.length (hope0 ph) k) t) t = roundH aw md act (runH aw md act ph.length (hope0 ph) k) t ++ [t] := if_pos ⟨c1, c2, c3⟩
                have g := good_round (act := act) w (good_run (act := act) w (good0 (ph := ph) (aw := aw) (md := md)) k) t (by omega)
                have gl := good_len hH g
                have hz : (hopL ph hp).length ≤ ph.length := by have := split_len ph hp; omega
                have h6' := s5 _ _ h6
                repeat kaf_pre
                refine rd_append h6' (size_lt (by rw [List.length_map]; omega)) ?_
                refine ⟨same_mut (s4.trans s5) nA0, ?_, _, rfl⟩
                rw [roundH, e, List.map_append]
                exact upd_same
              · have e : stepH aw md act (roundH aw md act (runH aw md act ph.length (hope0 ph) k) t) t = roundH aw md act (runH aw md act ph.length (hope0 ph) k) t := if_neg fun z => by rw [c3] at z; exact absurd z.2.2 (by decide)
                repeat kaf_pre
                exact same e _ s5
            · repeat kaf_pre
              exact same (if_neg fun z => z.2.1 c2) _ (Same.refl _)
          · repeat kaf_pre
            exact same (if_neg fun z => z.1 c1) _ (Same.refl _)
        · rintro σ3 H3 ⟨s4, h6, v6, rfl⟩
          exact ⟨s4, h6, _, _, rfl⟩
      · rintro σ3 H3 ⟨s4, h6, v4, v6, rfl⟩
        have e := run_all (act := act) w hH ha
        repeat kaf_pre
        rw [List.length_map, List.length_map, List.length_map, decide_eq_true (by omega)]
        exact q _ s4
/-! ### what is handed over: three lists -/
def InsT (st : Addr) (H : Hp) (xs : List V) (aw : List (List Nat)) : Prop := xs.length = aw.length ∧ ∀ (i : Nat) ys, aw[i]? = some ys → ∃ q, xs[i]? = some (.ref q) ∧ H q = some (.lst (ys.map iv)) ∧ q ≠ st
structure Gv (st : Addr) (H : Hp) (k p1 : Addr) (ph : List Str) (aw : List (List Nat)) (md : List Bool) : Prop where
  ex : ∃ p2 p3 xs, H k = some (.lst [.ref p1, .ref p2, .ref p3]) ∧ H p1 = some (.lst (ph.map V.str)) ∧ H p2 = some (.lst xs) ∧ H p3 = some (.lst (md.map V.bl)) ∧ k ≠ st ∧ p1 ≠ st ∧ p2 ≠ st ∧ p3 ≠ st ∧ InsT st H xs aw
theorem InsT.keep {st : Addr} {H H' : Hp} {xs : List V} {aw : List (List Nat)} (h : InsT st H xs aw) (f : ∀ b o, b ≠ st → H b = some o → H' b = some o) : InsT st H' xs aw :=
  ⟨h.1, fun i ys e => let ⟨q, a, b, c⟩ := h.2 i ys e; ⟨q, a, f _ _ c b, c⟩⟩
theorem InsT.ins {K : PySem.W.Frag} {st : Addr} {H : Hp} {xs : List V} {aw : List (List Nat)} (h : InsT st H xs aw) : Ins K H xs aw := ⟨h.1, fun i ys e => let ⟨q, a, b, _⟩ := h.2 i ys e; ⟨q, a, SqL.of b⟩⟩
theorem Gv.keep {st : Addr} {H H' : Hp} {k p1 : Addr} {ph : List Str} {aw : List (List Nat)} {md : List Bool} (h : Gv st H k p1 ph aw md) (f : ∀ b o, b ≠ st → H b = some o → H' b = some o) : Gv st H' k p1 ph aw md := by
  obtain ⟨p2, p3, xs, a1, a2, a3, a4, n1, n2, n3, n4, i⟩ := h.ex
  exact ⟨p2, p3, xs, f _ _ n1 a1, f _ _ n2 a2, f _ _ n3 a3, f _ _ n4 a4, n1, n2, n3, n4, i.keep f⟩
def NS (ys : List V) : Prop := ∀ s, ys[0]? ≠ some (.str s)
theorem Gv.change {st : Addr} {H H' : Hp} {k p1 : Addr} {ph ph' : List Str} {aw : List (List Nat)} {md : List Bool} (h : Gv st H k p1 ph aw md) (f : ∀ b ys, NS ys → H b = some (.lst ys) → H' b = some (.lst ys)) (h1 : H' p1 = some (.lst (ph'.map V.str))) : Gv st H' k p1 ph' aw md := by
  obtain ⟨p2, p3, xs, a1, a2, a3, a4, n1, n2, n3, n4, hl, hi⟩ := h.ex
  refine ⟨p2, p3, xs, f _ _ (fun s z => by cases z) a1, h1, f _ _ (fun s z => ?_) a3, f _ _ (fun s z => ?_) a4, n1, n2, n3, n4, hl, fun i ys e => ?_⟩
  · have h0 : 0 < aw.length := by rw [← hl]; exact (List.getElem?_eq_some_iff.mp z).1
    obtain ⟨q, e, _⟩ := hi 0 _ (List.getElem?_eq_getElem h0)
    rw [e] at z; cases z
  · obtain ⟨t, _, e⟩ := at_map z
    cases e
  · obtain ⟨q, e1, e2, e3⟩ := hi i ys e
    refine ⟨q, e1, f _ _ (fun s z => ?_) e2, e3⟩
    obtain ⟨t, _, e⟩ := at_map z
    cases e
theorem rp_map {K : PySem.W.Frag} {H : Hp} {α : Type} {d : Nat} {a : Addr} {f : α → V} {g : α → PyData} {l : List α} (h : H a = some (.lst (l.map f))) (hz : l.length ≤ 1000000) (he : ∀ x ∈ l, Rp K H d (f x) (g x)) : Rp K H (d + 1) (.ref a) (.list (l.map g)) := by
  refine ⟨a, _, rfl, SqL.of h, .base (.lst h), by simp, by simpa using hz, fun i v e h1 h2 => ?_⟩
  obtain ⟨t, ht, rfl⟩ := at_map h1
  obtain ⟨u, hu, rfl⟩ := at_map h2
  rw [ht] at hu
  cases hu
  exact he t (List.mem_of_getElem? ht)
theorem rp_ins {K : PySem.W.Frag} {st : Addr} {H : Hp} {a : Addr} {xs : List V} {aw : List (List Nat)} (h : H a = some (.lst xs)) (hi : InsT st H xs aw) (hz : aw.length ≤ 1000000) (hy : ∀ ys ∈ aw, ys.length ≤ 1000) :
    Rp K H 2 (.ref a) (.list (aw.map fun ys => PyData.list (ys.map fun (t : Nat) => PyData.int (t : Int)))) := by
  refine ⟨a, xs, rfl, SqL.of h, .base (.lst h), by rw [List.length_map]; exact hi.1, by rw [hi.1]; exact hz, fun i v e h1 h2 => ?_⟩
  obtain ⟨ys, hys, rfl⟩ := at_map h2
  obtain ⟨q, e1, e2, _⟩ := hi.2 i ys hys
  rw [e1] at h1
  cases h1
  exact rp_map e2 (by have := hy ys (List.mem_of_getElem? hys); omega) fun t _ => rfl
def spAsked (K : PySem.W.Frag) : Sp := fun vs H Q _ => ∃ (st g g1 k k1 : Addr) (ph : List Str) (aw : List (List Nat)) (md : List Bool), vs = [.ref g, .ref k] ∧ Gv st H g g1 ph aw md ∧ Gv st H k k1 ph aw md ∧ Wf ph aw md ∧ Full ph aw ∧ ∀ H', Same H H' → Q (.bl true) H'
theorem len_law_asked (K : PySem.W.Frag) {vs : List V} {H : Hp} {Q : VK} {E : XK} (h : spAsked K vs H Q E) : vs.length = 2 := by
  obtain ⟨st, g, g1, k, k1, ph, aw, md, rfl, _⟩ := h
  rfl
/- slots of _law_asked: 0 given, 1 kept, 2 actual, 3 k -/
def t_law_asked (K : PySem.W.Frag) : TS :=
  (tSeq (tAsg (tCall (spStuck K) [] E0 (tCons (tOp (rIx K) (tVar 0) (tC (.int 0))) (tCons (tOp (rIx K) (tVar 0) (tC (.int 1))) (tCons (tOp (rIx K) (tVar 0) (tC (.int 2))) tNil)))) (gName 2))
  (tSeq (tFor (iRng1 (tCons (tC (.int 3)) tNil)) (gName 3) (tIfS (tNot (tTru K (tCall (spSame K 3) [] E0 (tCons (tOp (rIx K) (tVar 0) (tVar 3)) (tCons (tOp (rIx K) (tVar 1) (tVar 3)) tNil))))) (tRet (tC (.bl false))) tNext))
  (tRet (tCall (spAnswered K) [] E0 (tCons (tOp (rIx K) (tVar 1) (tC (.int 0))) (tCons (tOp (rIx K) (tVar 1) (tC (.int 1))) (tCons (tOp (rIx K) (tVar 1) (tC (.int 2))) (tCons (tVar 2) tNil))))))))
/- slots of _law_some_targets: 0 state, 1 size, 2 least, 3 k -/
def t_law_some_targets (K : PySem.W.Frag) : TS :=
  (tRet (tLc (iRng1 (tCons (tOp (rAddA K) (tVar 2) (tCall (spDraw) [] E0 (tCons (tVar 0) (tCons (tOp rSubI (tC (.int 4)) (tVar 2)) tNil)))) tNil)) (gName 3) tYes (tCall (spDraw) [] E0 (tCons (tVar 0) (tCons (tVar 1) tNil))) [3]))
theorem rd_law_asked (K : PySem.W.Frag) (vs : List V) (H : Hp) (Q : VK) (E : XK) (h : spAsked K vs H Q E) : t_law_asked K { nx := fun _ H' => Q .non H', rt := Q } (start ["given", "kept", "actual", "k"] vs) H := by
  obtain ⟨st, g, g1, k, k1, ph, aw, md, rfl, hg, hk, w, f, q⟩ := h
  have sz := w.sz
  have la := w.la
  have lm := w.lm
  unfold t_law_asked
  obtain ⟨g2, g3, xs, a1, a2, a3, a4, _, _, _, _, i1⟩ := hg.ex
  repeat kaf_pre
  refine ⟨g1, g2, g3, ph, aw, md, xs, rfl, SqL.of a2, SqL.of a3, i1.ins, SqL.of a4, w, fun hp p H1 hl hH np s1 hp1 => ?_⟩
  have hg' := hg.keep fun b o _ e => s1 b o e
  have hk' := hk.keep fun b o _ e => s1 b o e
  repeat kaf_pre
  refine forR (n := 3) rfl (by decide) (fun i σ' H' => H' = H1 ∧ ∃ v, σ' = [some (.ref g), some (.ref k), some (.ref p), v]) ⟨rfl, _, rfl⟩ ?_ ?_
  · rintro i σ' H' hi ⟨rfl, v, rfl⟩
    obtain ⟨g2, g3, xs, a1, a2, a3, a4, _, _, _, _, i1⟩ := hg'.ex
    obtain ⟨k2, k3, ys, b1, b2, b3, b4, _, _, _, _, i2⟩ := hk'.ex
    have hi' : i = 0 ∨ i = 1 ∨ i = 2 := by omega
    rcases hi' with rfl | rfl | rfl
    · repeat kaf_pre
      refine ⟨_, _, _, rfl, rp_map (d := 1) (g := PyData.str) a2 (by omega) fun _ _ => rfl, rp_map (d := 1) (g := PyData.str) b2 (by omega) fun _ _ => rfl, ?_⟩
      repeat kaf_pre
      exact ⟨rfl, _, rfl⟩
    · repeat kaf_pre
      refine ⟨_, _, _, rfl, rp_ins a3 i1 (by omega) f.2, rp_ins b3 i2 (by omega) f.2, ?_⟩
      repeat kaf_pre
      exact ⟨rfl, _, rfl⟩
    · repeat kaf_pre
      refine ⟨_, _, _, rfl, rp_map (d := 1) (g := PyData.bool) a4 (by omega) fun _ _ => rfl, rp_map (d := 1) (g := PyData.bool) b4 (by omega) fun _ _ => rfl, ?_⟩
      repeat kaf_pre
      exact ⟨rfl, _, rfl⟩
  · rintro σ' H' ⟨rfl, v, rfl⟩
    obtain ⟨k2, k3, ys, b1, b2, b3, b4, _, _, _, _, i2⟩ := hk'.ex
    repeat kaf_pre
    exact ⟨k1, k2, k3, p, ph, aw, md, ys, _, hp, rfl, SqL.of b2, SqL.of b3, i2.ins, SqL.of b4, hp1, w, f, hl, hH, rfl, fun H2 s2 => q H2 (s1.trans s2)⟩
/-! ### the law's makers -/
def spSome (K : PySem.W.Frag) : Sp := fun vs H Q _ => ∃ (st sc : Addr) (ns : List Int) (a : Nat) (b c d : Int) (n l : Nat), vs = [.ref st, .int (n : Int), .int (l : Int)] ∧ H st = some (StO sc a b c d) ∧ H sc = some (.lst (ns.map V.int)) ∧ 0 < n ∧ n ≤ 100 ∧ l ≤ 1 ∧
  ∀ (ys : List Nat) (p : Addr) (a' : Nat) (b' c' d' : Int) (H' : Hp), H' st = some (StO sc a' b' c' d') → But [st] H H' → H p = none → H' p = some (.lst (ys.map iv)) → l ≤ ys.length → ys.length ≤ 4 → (∀ t ∈ ys, t < n) → Q (.ref p) H'
theorem len_law_some_targets (K : PySem.W.Frag) {vs : List V} {H : Hp} {Q : VK} {E : XK} (h : spSome K vs H Q E) : vs.length = 3 := by
  obtain ⟨st, sc, ns, a, b, c, d, n, l, rfl, _⟩ := h
  rfl
theorem rd_law_some_targets (K : PySem.W.Frag) (vs : List V) (H : Hp) (Q : VK) (E : XK) (h : spSome K vs H Q E) : t_law_some_targets K { nx := fun _ H' => Q .non H', rt := Q } (start ["state", "size", "least", "k"] vs) H := by
  obtain ⟨st, sc, ns, a, b, c, d, n, l, rfl, hst, hsc, n0, n1, l1, q⟩ := h
  have ne := st_ne hst hsc
  unfold t_law_some_targets
  repeat kaf_pre
  refine ⟨st, _, sc, ns, a, b, c, d, rfl, by omega, by omega, hst, hsc, fun r a b c d H1 r0 r1 hst B1 => ?_⟩
  have hsc1 := But.off B1 _ _ ne hsc
  repeat kaf_pre
  refine lcR (n := l + r.toNat) (by omega) (by omega) fun Dd hD => ⟨fun i H' => ∃ (ys : List Nat) (a : Nat) (b c d : Int), ys.length = i ∧ (∀ t ∈ ys, t < n) ∧ H' st = some (StO sc a b c d) ∧ But [st] H H' ∧ H' Dd = some (.lst (ys.map iv)), ?_, ?_, ?_⟩
  · have nd : H Dd = none := (B1.back hst hD).2
    exact ⟨[], a, b, c, d, rfl, by simp, by rw [upd_ne (ne_of_none hst hD)]; exact hst, B1.new nd, upd_same⟩
  · rintro i H' hi ⟨ys, a, b, c, d, hl, hy, hst', B', hD'⟩
    have hsc' := But.off B' _ _ ne hsc
    refine ⟨wipe1 _ _ _, ?_⟩
    repeat kaf_pre
    refine ⟨st, _, sc, ns, a, b, c, d, rfl, by omega, by omega, hst', hsc', fun r a b c d H2 r0 r1 hst2 B2 => ?_⟩
    have nds : Dd ≠ st := fun z => by rw [z, hst] at hD; cases hD
    have hD2 := But.off B2 _ _ nds hD'
    refine ⟨_, hD2, size_lt (by rw [List.length_map]; omega), ys ++ [r.toNat], a, b, c, d, by simp [hl], fun t ht => ?_, by rw [upd_ne nds.symm]; exact hst2, ?_, ?_⟩
    · rcases List.mem_append.mp ht with ht | ht
      · exact hy t ht
      · rw [List.mem_singleton.mp ht]; omega
    · exact (B'.trans B2).new (B1.back hst hD).2
    · have er : iv r.toNat = V.int r := by show V.int (r.toNat : Int) = V.int r; rw [Int.toNat_of_nonneg r0]
      rw [List.map_append, List.map_cons, List.map_nil, er]
      exact upd_same
  · rintro H' ⟨ys, a, b, c, d, hl, hy, hst', B', hD'⟩
    have nds : Dd ≠ st := fun z => by rw [z, hst] at hD; cases hD
    exact q ys Dd a b c d H' hst' B' (B1.back hst hD).2 hD' (by omega) (by omega) hy
/-- a maker's answer: three lists that are new, tasks that are as they should be; the state drawn from -/
def Made (st sc : Addr) (H : Hp) (Q : VK) : Prop := ∀ (k k1 : Addr) (ph : List Str) (aw : List (List Nat)) (md : List Bool) (a' : Nat) (b' c' d' : Int) (H' : Hp),
  H' st = some (StO sc a' b' c' d') → But [st] H H' → Gv st H' k k1 ph aw md → Wf ph aw md → Full ph aw → Q (.ref k) H'
def spLine (K : PySem.W.Frag) : Sp := fun vs H Q _ => ∃ (st sc : Addr) (ns : List Int) (a : Nat) (b c d : Int) (n : Nat) (dn : Bool), vs = [.ref st, .int (n : Int), .bl dn] ∧ H st = some (StO sc a b c d) ∧ H sc = some (.lst (ns.map V.int)) ∧ 0 < n ∧ n ≤ 100 ∧ Made st sc H Q
theorem len_law_line_of_tasks (K : PySem.W.Frag) {vs : List V} {H : Hp} {Q : VK} {E : XK} (h : spLine K vs H Q E) : vs.length = 3 := by
  obtain ⟨st, sc, ns, a, b, c, d, n, dn, rfl, _⟩ := h
  rfl
def spDrawn (K : PySem.W.Frag) : Sp := fun vs H Q _ => ∃ (st sc : Addr) (ns : List Int) (a : Nat) (b c d : Int) (n : Nat), vs = [.ref st, .int (n : Int)] ∧ H st = some (StO sc a b c d) ∧ H sc = some (.lst (ns.map V.int)) ∧ n ≤ 100 ∧ Made st sc H Q
theorem len_law_drawn_tasks (K : PySem.W.Frag) {vs : List V} {H : Hp} {Q : VK} {E : XK} (h : spDrawn K vs H Q E) : vs.length = 2 := by
  obtain ⟨st, sc, ns, a, b, c, d, n, rfl, _⟩ := h
  rfl
/-- three new lists behind a new list of them -/
theorem InsT.more {st : Addr} {H : Hp} {xs : List V} {aw : List (List Nat)} {ys : List Nat} {q : Addr} (h : InsT st H xs aw) (e : H q = some (.lst (ys.map iv))) (n : q ≠ st) : InsT st H (xs ++ [.ref q]) (aw ++ [ys]) := by
  refine ⟨by simp [h.1], fun i zs hz => ?_⟩
  by_cases hi : i < aw.length
  · rw [List.getElem?_append_left hi] at hz
    rw [List.getElem?_append_left (by rw [h.1]; exact hi)]
    exact h.2 i zs hz
  · rw [List.getElem?_append_right (by omega)] at hz
    have e0 : i - aw.length = 0 := by
      have := (List.getElem?_eq_some_iff.mp hz).1
      simp at this; omega
    rw [e0] at hz
    have : ys = zs := Option.some.inj hz
    subst this
    refine ⟨q, ?_, e, n⟩
    rw [List.getElem?_append_right (by rw [h.1]; omega), h.1, e0]
    rfl
theorem InsT.put {st p : Addr} {H : Hp} {xs : List V} {aw : List (List Nat)} {o : HO} (h : InsT st H xs aw) (n : ∀ (i : Nat) (q : Addr), xs[i]? = some (V.ref q) → q ≠ p) : InsT st (upd H p o) xs aw :=
  ⟨h.1, fun i ys e => let ⟨q, a, b, c⟩ := h.2 i ys e; ⟨q, a, by rw [upd_ne (n i q a)]; exact b, c⟩⟩
/- slots of _law_line_of_tasks: 0 state, 1 size, 2 down, 3 phases, 4 awaited, 5 modes, 6 k, 7 target -/
def t_law_line_of_tasks (K : PySem.W.Frag) : TS :=
  (tSeq (tAsg (tOp rMulA (tLst (tCons (tC (.str "waiting")) tNil)) (tVar 1)) (gName 3))
  (tSeq (tAsg (tLst tNil) (gName 4))
  (tSeq (tAsg (tLst tNil) (gName 5))
  (tSeq (tFor (iRng1 (tCons (tVar 1) tNil)) (gName 6) (tSeq (tAsg (tCB rMin2 (tCons (tOp (rAddA K) (tCB rInt1 (tCons (tVar 6) tNil)) (tC (.int 1))) (tCons (tOp rSubI (tVar 1) (tC (.int 1))) tNil))) (gName 7))
  (tSeqC (tIfS (tTru K (tVar 2)) (tAsg (tCB rMax2 (tCons (tOp rSubI (tVar 6) (tC (.int 1))) (tCons (tC (.int 0)) tNil))) (gName 7)) tNext)
  (tSeq (tDrop (tBM K "list" rAppend (tVar 4) (tCons (tLst (tCons (tVar 7) tNil)) tNil)))
  (tDrop (tBM K "list" rAppend (tVar 5) (tCons (tOp (rEqA K) (tCall (spDraw) [] E0 (tCons (tVar 0) (tCons (tC (.int 2)) tNil))) (tC (.int 1))) tNil)))))))
  (tSeq (tAsg (tOp (rIx K) (tLst (tCons (tC (.str "running")) (tCons (tC (.str "ended")) (tCons (tC (.str "waiting")) tNil)))) (tCall (spDraw) [] E0 (tCons (tVar 0) (tCons (tC (.int 3)) tNil)))) (gSub (tVar 3) (tCall (spDraw) [] E0 (tCons (tVar 0) (tCons (tVar 1) tNil))) rSetL))
  (tRet (tLst (tCons (tVar 3) (tCons (tVar 4) (tCons (tVar 5) tNil))))))))))
theorem rd_law_line_of_tasks (K : PySem.W.Frag) (vs : List V) (H : Hp) (Q : VK) (E : XK) (h : spLine K vs H Q E) : t_law_line_of_tasks K { nx := fun _ H' => Q .non H', rt := Q } (start ["state", "size", "down", "phases", "awaited", "modes", "k", "target"] vs) H := by
  obtain ⟨st, sc, ns, a, b, c, d, n, dn, rfl, hst, hsc, n0, n1, q⟩ := h
  have ne := st_ne hst hsc
  unfold t_law_line_of_tasks
  repeat kaf_pre
  refine ⟨size_of (by simp), fun w1 nw => ?_⟩
  repeat kaf_pre
  refine rd_rep upd_same (by omega) (by omega) (size_of (by simp; omega)) fun p1 np1 => ?_
  have e1 : (List.replicate (n : Int).toNat [V.str "waiting"]).flatten = (List.replicate n ("waiting" : Str)).map V.str := by
    rw [Int.toNat_natCast, List.map_replicate]
    induction n with
    | zero => rfl
    | succ k ih =>
      rw [List.replicate_succ, List.flatten_cons, List.replicate_succ, List.singleton_append]
      congr 1
      cases k with
      | zero => rfl
      | succ k => exact ih (by omega) (by omega)
  rw [e1]
  repeat kaf_pre
  refine ⟨size_of (by simp), fun p2 np2 => ?_⟩
  repeat kaf_pre
  refine ⟨size_of (by simp), fun p3 np3 => ?_⟩
  have nw1 : p1 ≠ w1 := fun z => by rw [z, upd_same] at np1; cases np1
  have f1 : H p1 = none := by rw [upd_ne nw1] at np1; exact np1
  have s1 : Same H (upd (upd H w1 (.lst [.str "waiting"])) p1 (.lst ((List.replicate n ("waiting" : Str)).map V.str))) := same_mut (same_new nw) f1
  have f2 := s1.free np2
  have s2 := s1.trans (same_new (o := .lst []) np2)
  have f3 := s2.free np3
  have s3 := s2.trans (same_new (o := .lst []) np3)
  have n21 : p2 ≠ p1 := fun z => by rw [z, upd_same] at np2; cases np2
  have n32 : p3 ≠ p2 := fun z => by rw [z, upd_same] at np3; cases np3
  have n31 : p3 ≠ p1 := fun z => by rw [z, upd_ne n21.symm, upd_same] at np3; cases np3
  have x1 : p1 ≠ st := (ne_of_none hst f1).symm
  have x2 : p2 ≠ st := (ne_of_none hst f2).symm
  have x3 : p3 ≠ st := (ne_of_none hst f3).symm
  repeat kaf_pre
  refine forR (n := n) rfl (by omega) (fun k σ' H' => ∃ (v6 v7 : Option V) (xs : List V) (aw : List (List Nat)) (md : List Bool) (a : Nat) (b c d : Int), σ' = [some (.ref st), some (.int (n : Int)), some (.bl dn), some (.ref p1), some (.ref p2), some (.ref p3), v6, v7] ∧
      H' st = some (StO sc a b c d) ∧ But [st] H H' ∧ H' p1 = some (.lst ((List.replicate n ("waiting" : Str)).map V.str)) ∧ H' p2 = some (.lst xs) ∧ H' p3 = some (.lst (md.map V.bl)) ∧ InsT st H' xs aw ∧ aw.length = k ∧ md.length = k ∧
      (∀ ys ∈ aw, ys ≠ [] ∧ ys.length ≤ 1000 ∧ ∀ t ∈ ys, t < n) ∧ ∀ (i : Nat) (q : Addr), xs[i]? = some (V.ref q) → q ≠ p1 ∧ q ≠ p2 ∧ q ≠ p3)
    ⟨_, _, [], [], [], a, b, c, d, rfl, s3 _ _ hst, But.of s3, by rw [upd_ne n31.symm, upd_ne n21.symm]; exact upd_same, by rw [upd_ne n32.symm]; exact upd_same, upd_same, ⟨rfl, fun i ys e => by simp at e⟩, rfl, rfl, by simp, fun i q e => by simp at e⟩ ?_ ?_
  · rintro k σ' H1 hk ⟨v6, v7, xs, aw, md, a, b, c, d, rfl, hst1, B1, h1, h2, h3, hi, la, lm, hall, hoff⟩
    have hsc1 := But.off B1 _ _ ne hsc
    repeat kaf_pre
    refine rd_cut (fun σ' H' => H' = H1 ∧ ∃ t : Nat, t < n ∧ σ' = [some (.ref st), some (.int (n : Int)), some (.bl dn), some (.ref p1), some (.ref p2), some (.ref p3), some (.int (k : Int)), some (iv t)]) ?_ ?_
    · cases dn
      · repeat kaf_pre
        refine ⟨rfl, (if (n : Int) - 1 < (k : Int) + 1 then (n : Int) - 1 else (k : Int) + 1).toNat, by split <;> omega, ?_⟩
        have e : iv (if (n : Int) - 1 < (k : Int) + 1 then (n : Int) - 1 else (k : Int) + 1).toNat = V.int (if (n : Int) - 1 < (k : Int) + 1 then (n : Int) - 1 else (k : Int) + 1) := by
          show V.int (((if (n : Int) - 1 < (k : Int) + 1 then (n : Int) - 1 else (k : Int) + 1).toNat : Nat) : Int) = _
          rw [Int.toNat_of_nonneg (by split <;> omega)]
        rw [e]
        rfl
      · repeat kaf_pre
        refine ⟨rfl, (if (0 : Int) > (k : Int) - 1 then (0 : Int) else (k : Int) - 1).toNat, by split <;> omega, ?_⟩
        have e : iv (if (0 : Int) > (k : Int) - 1 then (0 : Int) else (k : Int) - 1).toNat = V.int (if (0 : Int) > (k : Int) - 1 then (0 : Int) else (k : Int) - 1) := by
          show V.int (((if (0 : Int) > (k : Int) - 1 then (0 : Int) else (k : Int) - 1).toNat : Nat) : Int) = _
          rw [Int.toNat_of_nonneg (by split <;> omega)]
        rw [e]
        rfl
    · rintro σ' H' ⟨rfl, t, ht, rfl⟩
      repeat kaf_pre
      refine ⟨size_of (by simp), fun q1 nq1 => ?_⟩
      have l2 : xs.length < 16000000 := by rw [hi.1]; omega
      have m1 : p1 ≠ q1 := ne_of_none h1 nq1
      have m2 : p2 ≠ q1 := ne_of_none h2 nq1
      have m3 : p3 ≠ q1 := ne_of_none h3 nq1
      have m4 : st ≠ q1 := ne_of_none hst1 nq1
      have m5 : sc ≠ q1 := ne_of_none hsc1 nq1
      have m6 : H q1 = none := (B1.back hst1 nq1).2
      repeat kaf_pre
      refine rd_append (by rw [upd_ne m2]; exact h2) (size_lt l2) ?_
      repeat kaf_pre
      have sx : sc ≠ p2 := fun z => by rw [z] at hsc; rw [f2] at hsc; cases hsc
      refine ⟨st, _, sc, ns, a, b, c, d, rfl, by omega, by omega, by rw [upd_ne x2.symm, upd_ne m4]; exact hst1, by rw [upd_ne sx, upd_ne m5]; exact hsc1, fun r a b c d H2 r0 r1 hst2 B2 => ?_⟩
      have h3' := But.off B2 _ _ x3 (show upd (upd H' q1 (.lst [iv t])) p2 (.lst (xs ++ [.ref q1])) p3 = _ by rw [upd_ne n32, upd_ne m3]; exact h3)
      repeat kaf_pre
      refine rd_append h3' (size_lt (by rw [List.length_map]; omega)) ?_
      have hi1 : InsT st (upd H' q1 (.lst ([t].map iv))) xs aw := hi.put fun i q e => by
        intro z
        have hlt := (List.getElem?_eq_some_iff.mp e).1
        obtain ⟨q', e1, e2, _⟩ := hi.2 i _ (List.getElem?_eq_getElem (by rw [← hi.1]; exact hlt))
        rw [e] at e1
        cases e1
        rw [z, nq1] at e2; cases e2
      have hi2 := (hi1.more (ys := [t]) (q := q1) upd_same m4.symm)
      have hi3 := hi2.put (p := p2) (o := .lst (xs ++ [.ref q1])) fun i q e => by
        by_cases hl : i < xs.length
        · rw [List.getElem?_append_left hl] at e
          exact (hoff i q e).2.1
        · rw [List.getElem?_append_right (by omega)] at e
          have : i - xs.length = 0 := by have := (List.getElem?_eq_some_iff.mp e).1; simp at this; omega
          rw [this] at e; cases e; exact m2.symm
      have hi4 := hi3.keep (H' := H2) fun b o n e => But.off B2 b o n e
      have off2 : ∀ (i : Nat) (q : Addr), (xs ++ [V.ref q1])[i]? = some (.ref q) → q ≠ p1 ∧ q ≠ p2 ∧ q ≠ p3 := fun i q e => by
        by_cases hl : i < xs.length
        · rw [List.getElem?_append_left hl] at e
          exact hoff i q e
        · rw [List.getElem?_append_right (by omega)] at e
          have : i - xs.length = 0 := by have := (List.getElem?_eq_some_iff.mp e).1; simp at this; omega
          rw [this] at e; cases e; exact ⟨m1.symm, m2.symm, m3.symm⟩
      have hi5 := hi4.put (p := p3) (o := .lst (md.map V.bl ++ [.bl (decide (r = 1))])) fun i q e => (off2 i q e).2.2
      refine ⟨_, _, _, aw ++ [[t]], md ++ [decide (r = 1)], a, b, c, d, rfl, by rw [upd_ne x3.symm]; exact hst2, ?_, ?_, ?_, by rw [List.map_append]; exact upd_same, hi5, by simp [la], by simp [lm], fun ys hys => ?_, off2⟩
      · exact ((((B1.new m6).new f2).trans B2).new f3)
      · rw [upd_ne n31.symm]
        exact But.off B2 _ _ x1 (by rw [upd_ne n21.symm, upd_ne m1]; exact h1)
      · rw [upd_ne n32.symm]
        exact But.off B2 _ _ x2 upd_same
      · rcases List.mem_append.mp hys with hys | hys
        · exact hall ys hys
        · rw [List.mem_singleton.mp hys]
          exact ⟨by simp, by simp, fun u hu => by rw [List.mem_singleton.mp hu]; exact ht⟩
  · rintro σ' H1 ⟨v6, v7, xs, aw, md, a, b, c, d, rfl, hst1, B1, h1, h2, h3, hi, la, lm, hall, hoff⟩
    have hsc1 := But.off B1 _ _ ne hsc
    repeat kaf_pre
    refine ⟨size_of (by simp), fun m0 nm => ?_⟩
    have y0 : st ≠ m0 := ne_of_none hst1 nm
    have y1 : sc ≠ m0 := ne_of_none hsc1 nm
    have y2 : p1 ≠ m0 := ne_of_none h1 nm
    have y3 : p2 ≠ m0 := ne_of_none h2 nm
    have y4 : p3 ≠ m0 := ne_of_none h3 nm
    have fm := (B1.back hst1 nm).2
    repeat kaf_pre
    refine ⟨st, _, sc, ns, a, b, c, d, rfl, by omega, by omega, by rw [upd_ne y0]; exact hst1, by rw [upd_ne y1]; exact hsc1, fun r a b c d H2 r0 r1 hst2 B2 => ?_⟩
    have hm2 := But.off B2 _ _ y0.symm (upd_same (H := H1) (a := m0) (o := .lst [.str "running", .str "ended", .str "waiting"]))
    have BB := (B1.new (o := .lst [.str "running", .str "ended", .str "waiting"]) fm).trans B2
    obtain ⟨rs, hrs⟩ : ∃ rs : Str, atI [V.str "running", .str "ended", .str "waiting"] r = some (.str rs) := by
      have : r = 0 ∨ r = 1 ∨ r = 2 := by omega
      rcases this with rfl | rfl | rfl
      · exact ⟨_, rfl⟩
      · exact ⟨_, rfl⟩
      · exact ⟨_, rfl⟩
    refine rd_ixL (SqL.of hm2) hrs ?_
    repeat kaf_pre
    have hsc2 := But.off BB _ _ ne hsc
    refine ⟨st, _, sc, ns, a, b, c, d, rfl, by omega, by omega, hst2, hsc2, fun r a b c d H3 r0 r1 hst3 B3 => ?_⟩
    have h1' := But.off B3 _ _ x1 (But.off B2 _ _ x1 (by rw [upd_ne y2]; exact h1))
    have h2' := But.off B3 _ _ x2 (But.off B2 _ _ x2 (by rw [upd_ne y3]; exact h2))
    have h3' := But.off B3 _ _ x3 (But.off B2 _ _ x3 (by rw [upd_ne y4]; exact h3))
    have hj : ixN ((List.replicate n ("waiting" : Str)).map V.str).length r = some r.toNat := by
      unfold ixN
      rw [if_pos r0, if_pos (by simp; omega)]
    refine rd_setL h1' hj ?_
    repeat kaf_pre
    refine ⟨size_of (by simp), fun k nk => ?_⟩
    have hiA : InsT st (upd H1 m0 (.lst [.str "running", .str "ended", .str "waiting"])) xs aw := hi.put fun i q e => by
      intro z
      have hlt := (List.getElem?_eq_some_iff.mp e).1
      obtain ⟨q', e1, e2, _⟩ := hi.2 i _ (List.getElem?_eq_getElem (by rw [← hi.1]; exact hlt))
      rw [e] at e1
      cases e1
      rw [z, nm] at e2; cases e2
    have hiB := (hiA.keep (H' := H2) fun b o n e => But.off B2 b o n e).keep (H' := H3) fun b o n e => But.off B3 b o n e
    have eset : ((List.replicate n ("waiting" : Str)).map V.str).set r.toNat (.str rs) = ((List.replicate n ("waiting" : Str)).set r.toNat rs).map V.str := by rw [List.map_set]
    rw [eset] at nk ⊢
    have k1 : k ≠ p1 := fun z => by rw [z, upd_same] at nk; cases nk
    have nk' : H3 k = none := by rw [upd_ne k1] at nk; exact nk
    have k2 : k ≠ p2 := fun z => by rw [z, h2'] at nk'; cases nk'
    have k3 : k ≠ p3 := fun z => by rw [z, h3'] at nk'; cases nk'
    have k4 : k ≠ st := fun z => by rw [z, hst3] at nk'; cases nk'
    have BC := (BB.trans B3)
    have fk := (BC.back hst3 nk').2
    refine q k p1 ((List.replicate n ("waiting" : Str)).set r.toNat rs) aw md a b c d _ (by rw [upd_ne k4.symm, upd_ne x1.symm]; exact hst3) ((BC.new f1).new fk) ?_ ?_ ?_
    · refine ⟨p2, p3, xs, upd_same, by rw [upd_ne k1.symm]; exact upd_same, by rw [upd_ne k2.symm, upd_ne n21]; exact h2', by rw [upd_ne k3.symm, upd_ne n31]; exact h3', k4, x1, x2, x3, ?_⟩
      refine (hiB.put (p := p1) fun i q e => (hoff i q e).1).put (p := k) fun i q e => ?_
      intro z
      have hlt := (List.getElem?_eq_some_iff.mp e).1
      obtain ⟨q', e1, e2, _⟩ := hiB.2 i _ (List.getElem?_eq_getElem (by rw [← hi.1]; exact hlt))
      rw [e] at e1
      cases e1
      rw [z, nk'] at e2; cases e2
    · exact ⟨by simp [la], by simp [lm], fun ys hy t ht => by simp; exact (hall ys hy).2.2 t ht, by simp; omega⟩
    · exact ⟨fun i ys e _ => (hall ys (List.mem_of_getElem? e)).1, fun ys hy => (hall ys hy).2.1⟩
/- slots of _law_drawn_tasks: 0 state, 1 size, 2 phases, 3 awaited, 4 modes, 5 k, 6 phase, 7 least -/
def t_law_drawn_tasks (K : PySem.W.Frag) : TS :=
  (tSeq (tAsg (tLst tNil) (gName 2))
  (tSeq (tAsg (tLst tNil) (gName 3))
  (tSeq (tAsg (tLst tNil) (gName 4))
  (tSeq (tFor (iRng1 (tCons (tVar 1) tNil)) (gName 5) (tSeq (tAsg (tOp (rIx K) (tLst (tCons (tC (.str "waiting")) (tCons (tC (.str "waiting")) (tCons (tC (.str "running")) (tCons (tC (.str "ended")) tNil))))) (tCall (spDraw) [] E0 (tCons (tVar 0) (tCons (tC (.int 4)) tNil)))) (gName 6))
  (tSeq (tAsg (tC (.int 0)) (gName 7))
  (tSeqC (tIfS (tTest (tOp (rEqA K) (tVar 6) (tC (.str "waiting")))) (tAsg (tC (.int 1)) (gName 7)) tNext)
  (tSeq (tDrop (tBM K "list" rAppend (tVar 2) (tCons (tVar 6) tNil)))
  (tSeq (tDrop (tBM K "list" rAppend (tVar 3) (tCons (tCall (spSome K) [] E0 (tCons (tVar 0) (tCons (tVar 1) (tCons (tVar 7) tNil)))) tNil)))
  (tDrop (tBM K "list" rAppend (tVar 4) (tCons (tOp (rEqA K) (tCall (spDraw) [] E0 (tCons (tVar 0) (tCons (tC (.int 2)) tNil))) (tC (.int 1))) tNil)))))))))
  (tRet (tLst (tCons (tVar 2) (tCons (tVar 3) (tCons (tVar 4) tNil)))))))))
theorem InsT.clear {st p : Addr} {H : Hp} {xs : List V} {aw : List (List Nat)} {o : HO} (h : InsT st H xs aw) (n : H p = none) : InsT st (upd H p o) xs aw := by
  refine ⟨h.1, fun i ys e => ?_⟩
  obtain ⟨q, a, b, c⟩ := h.2 i ys e
  exact ⟨q, a, by rw [upd_ne (ne_of_none b n)]; exact b, c⟩
/-- a list of other things changes -/
theorem InsT.other {st p : Addr} {H : Hp} {xs zs : List V} {aw : List (List Nat)} {o : HO} (h : InsT st H xs aw) (hp : H p = some (.lst zs)) (hz : ∀ ys : List Nat, zs ≠ ys.map iv) : InsT st (upd H p o) xs aw := by
  refine ⟨h.1, fun i ys e => ?_⟩
  obtain ⟨q, a, b, c⟩ := h.2 i ys e
  refine ⟨q, a, ?_, c⟩
  rw [upd_ne fun z => ?_]
  · exact b
  · rw [z, hp] at b
    exact hz ys (HO.lst.inj (Option.some.inj b))
theorem rd_law_drawn_tasks (K : PySem.W.Frag) (vs : List V) (H : Hp) (Q : VK) (E : XK) (h : spDrawn K vs H Q E) : t_law_drawn_tasks K { nx := fun _ H' => Q .non H', rt := Q } (start ["state", "size", "phases", "awaited", "modes", "k", "phase", "least"] vs) H := by
  obtain ⟨st, sc, ns, a, b, c, d, n, rfl, hst, hsc, n1, q⟩ := h
  have ne := st_ne hst hsc
  unfold t_law_drawn_tasks
  repeat kaf_pre
  refine ⟨size_of (by simp), fun p1 f1 => ?_⟩
  repeat kaf_pre
  refine ⟨size_of (by simp), fun p2 np2 => ?_⟩
  repeat kaf_pre
  refine ⟨size_of (by simp), fun p3 np3 => ?_⟩
  have s1 : Same H (upd H p1 (.lst [])) := same_new f1
  have f2 := s1.free np2
  have s2 := s1.trans (same_new (o := .lst []) np2)
  have f3 := s2.free np3
  have s3 := s2.trans (same_new (o := .lst []) np3)
  have n21 : p2 ≠ p1 := fun z => by rw [z, upd_same] at np2; cases np2
  have n32 : p3 ≠ p2 := fun z => by rw [z, upd_same] at np3; cases np3
  have n31 : p3 ≠ p1 := fun z => by rw [z, upd_ne n21.symm, upd_same] at np3; cases np3
  have x1 : p1 ≠ st := (ne_of_none hst f1).symm
  have x2 : p2 ≠ st := (ne_of_none hst f2).symm
  have x3 : p3 ≠ st := (ne_of_none hst f3).symm
  have y1 : sc ≠ p1 := ne_of_none hsc f1
  have y2 : sc ≠ p2 := ne_of_none hsc f2
  have y3 : sc ≠ p3 := ne_of_none hsc f3
  repeat kaf_pre
  refine forR (n := n) rfl (by omega) (fun k σ' H' => ∃ (v5 v6 v7 : Option V) (ph : List Str) (xs : List V) (aw : List (List Nat)) (md : List Bool) (a : Nat) (b c d : Int), σ' = [some (.ref st), some (.int (n : Int)), some (.ref p1), some (.ref p2), some (.ref p3), v5, v6, v7] ∧
      H' st = some (StO sc a b c d) ∧ But [st] H H' ∧ H' p1 = some (.lst (ph.map V.str)) ∧ H' p2 = some (.lst xs) ∧ H' p3 = some (.lst (md.map V.bl)) ∧ InsT st H' xs aw ∧ ph.length = k ∧ aw.length = k ∧ md.length = k ∧
      (∀ ys ∈ aw, ys.length ≤ 1000 ∧ ∀ t ∈ ys, t < n) ∧ (∀ (i : Nat) ys, aw[i]? = some ys → ph[i]? = some "waiting" → ys ≠ []) ∧ ∀ (i : Nat) (q : Addr), xs[i]? = some (V.ref q) → q ≠ p1 ∧ q ≠ p2 ∧ q ≠ p3)
    ⟨_, _, _, [], [], [], [], a, b, c, d, rfl, s3 _ _ hst, But.of s3, by rw [upd_ne n31.symm, upd_ne n21.symm]; exact upd_same, by rw [upd_ne n32.symm]; exact upd_same, upd_same, ⟨rfl, fun i ys e => by simp at e⟩, rfl, rfl, rfl, by simp, fun i ys e => by simp at e, fun i q e => by simp at e⟩ ?_ ?_
  · rintro k σ' H1 hk ⟨v5, v6, v7, ph, xs, aw, md, a, b, c, d, rfl, hst1, B1, h1, h2, h3, hi, lp, la, lm, hall, hne, hoff⟩
    have hsc1 := But.off B1 _ _ ne hsc
    repeat kaf_pre
    refine ⟨size_of (by simp), fun m0 nm => ?_⟩
    have z0 : st ≠ m0 := ne_of_none hst1 nm
    have z1 : sc ≠ m0 := ne_of_none hsc1 nm
    have z2 : p1 ≠ m0 := ne_of_none h1 nm
    have z3 : p2 ≠ m0 := ne_of_none h2 nm
    have z4 : p3 ≠ m0 := ne_of_none h3 nm
    have fm := (B1.back hst1 nm).2
    repeat kaf_pre
    refine ⟨st, _, sc, ns, a, b, c, d, rfl, by omega, by omega, by rw [upd_ne z0]; exact hst1, by rw [upd_ne z1]; exact hsc1, fun r a b c d H2 r0 r1 hst2 B2 => ?_⟩
    have hm2 := But.off B2 _ _ z0.symm (upd_same (H := H1) (a := m0) (o := .lst [.str "waiting", .str "waiting", .str "running", .str "ended"]))
    have BB := (B1.new (o := .lst [.str "waiting", .str "waiting", .str "running", .str "ended"]) fm).trans B2
    have hi2 := (hi.clear (o := .lst [.str "waiting", .str "waiting", .str "running", .str "ended"]) nm).keep (H' := H2) fun b o n e => But.off B2 b o n e
    have h12 := But.off B2 _ _ x1 (show upd H1 m0 _ p1 = _ by rw [upd_ne z2]; exact h1)
    have h22 := But.off B2 _ _ x2 (show upd H1 m0 _ p2 = _ by rw [upd_ne z3]; exact h2)
    have h32 := But.off B2 _ _ x3 (show upd H1 m0 _ p3 = _ by rw [upd_ne z4]; exact h3)
    have hsc2 := But.off BB _ _ ne hsc
    obtain ⟨rs, hrs⟩ : ∃ rs : Str, atI [V.str "waiting", .str "waiting", .str "running", .str "ended"] r = some (.str rs) := by
      have : r = 0 ∨ r = 1 ∨ r = 2 ∨ r = 3 := by omega
      rcases this with rfl | rfl | rfl | rfl
      · exact ⟨_, rfl⟩
      · exact ⟨_, rfl⟩
      · exact ⟨_, rfl⟩
      · exact ⟨_, rfl⟩
    refine rd_ixL (SqL.of hm2) hrs ?_
    repeat kaf_pre
    refine rd_cut (fun σ' H' => H' = H2 ∧ ∃ l : Nat, l ≤ 1 ∧ (rs = "waiting" → l = 1) ∧ σ' = [some (.ref st), some (.int (n : Int)), some (.ref p1), some (.ref p2), some (.ref p3), some (.int (k : Int)), some (.str rs), some (.int (l : Int))]) ?_ ?_
    · repeat kaf_pre
      refine rd_ite (fun cw => ?_) (fun cw => ?_)
      · repeat kaf_pre
        exact ⟨rfl, 1, by omega, fun _ => rfl, rfl⟩
      · repeat kaf_pre
        exact ⟨rfl, 0, by omega, fun z => absurd z cw, rfl⟩
    · rintro σ' H' ⟨rfl, l, l1, lw, rfl⟩
      repeat kaf_pre
      refine rd_append h12 (size_lt (by rw [List.length_map]; omega)) ?_
      repeat kaf_pre
      have np (ys : List Nat) : ph.map V.str ≠ ys.map iv ∨ ph = [] := by
        cases ph with
        | nil => exact .inr rfl
        | cons s r => exact .inl fun z => by cases ys with
          | nil => cases z
          | cons y r2 => cases z
      have offU : ∀ (i : Nat) ys, aw[i]? = some ys → ∃ q, xs[i]? = some (.ref q) ∧ H' q = some (.lst (ys.map iv)) ∧ q ≠ st := hi2.2
      have hi3 : InsT st (upd H' p1 (.lst (ph.map V.str ++ [.str rs]))) xs aw := hi2.put fun i q e => (hoff i q e).1
      refine ⟨st, sc, ns, a, b, c, d, n, l, rfl, by rw [upd_ne x1.symm]; exact hst2, by rw [upd_ne y1]; exact hsc2, by omega, n1, l1, fun ys q1 a b c d H3 hst3 B3 nq hq hl1 hl2 hyn => ?_⟩
      have nq' := nq
      have q_p1 : q1 ≠ p1 := fun z => by rw [z, upd_same] at nq; cases nq
      rw [upd_ne q_p1] at nq
      have q_st : q1 ≠ st := fun z => by rw [z, hst2] at nq; cases nq
      have q_p2 : q1 ≠ p2 := fun z => by rw [z, h22] at nq; cases nq
      have q_p3 : q1 ≠ p3 := fun z => by rw [z, h32] at nq; cases nq
      have h23 := But.off B3 _ _ x2 (show upd H' p1 _ p2 = _ by rw [upd_ne n21]; exact h22)
      have h33 := But.off B3 _ _ x3 (show upd H' p1 _ p3 = _ by rw [upd_ne n31]; exact h32)
      have h13 := But.off B3 _ _ x1 (upd_same (H := H') (a := p1) (o := .lst (ph.map V.str ++ [.str rs])))
      have hi4 := (hi3.keep (H' := H3) fun b o n e => But.off B3 b o n e).more hq q_st
      have off2 : ∀ (i : Nat) (q : Addr), (xs ++ [V.ref q1])[i]? = some (.ref q) → q ≠ p1 ∧ q ≠ p2 ∧ q ≠ p3 := fun i q e => by
        by_cases hl : i < xs.length
        · rw [List.getElem?_append_left hl] at e
          exact hoff i q e
        · rw [List.getElem?_append_right (by omega)] at e
          have : i - xs.length = 0 := by have := (List.getElem?_eq_some_iff.mp e).1; simp at this; omega
          rw [this] at e; cases e; exact ⟨q_p1, q_p2, q_p3⟩
      have hi5 := hi4.put (p := p2) (o := .lst (xs ++ [.ref q1])) fun i q e => (off2 i q e).2.1
      have l2 : xs.length < 16000000 := by rw [hi.1]; omega
      repeat kaf_pre
      refine rd_append h23 (size_lt l2) ?_
      repeat kaf_pre
      have hsc3 := But.off B3 _ _ ne (show upd H' p1 _ sc = _ by rw [upd_ne y1]; exact hsc2)
      refine ⟨st, _, sc, ns, a, b, c, d, rfl, by omega, by omega, by rw [upd_ne x2.symm]; exact hst3, by rw [upd_ne y2]; exact hsc3, fun r a b c d H4 r0 r1 hst4 B4 => ?_⟩
      have hi6 := (hi5.keep (H' := H4) fun b o n e => But.off B4 b o n e).put (p := p3) (o := .lst (md.map V.bl ++ [.bl (decide (r = 1))])) fun i q e => (off2 i q e).2.2
      repeat kaf_pre
      refine rd_append (But.off B4 _ _ x3 (show upd H3 p2 _ p3 = _ by rw [upd_ne n32]; exact h33)) (size_lt (by rw [List.length_map]; omega)) ?_
      refine ⟨_, _, _, ph ++ [rs], _, aw ++ [ys], md ++ [decide (r = 1)], a, b, c, d, rfl, by rw [upd_ne x3.symm]; exact hst4, ((((((BB.new f1).trans B3).new f2).trans B4).new f3)), ?_, ?_, by rw [List.map_append]; exact upd_same, hi6, by simp [lp], by simp [la], by simp [lm], fun zs hz => ?_, fun i zs e1 e2 => ?_, off2⟩
      · rw [upd_ne n31.symm, List.map_append]
        exact But.off B4 _ _ x1 (by rw [upd_ne n21.symm]; exact h13)
      · rw [upd_ne n32.symm]
        exact But.off B4 _ _ x2 upd_same
      · rcases List.mem_append.mp hz with hz | hz
        · exact hall zs hz
        · rw [List.mem_singleton.mp hz]
          exact ⟨by omega, hyn⟩
      · by_cases hik : i < k
        · rw [List.getElem?_append_left (by omega)] at e1 e2
          exact hne i zs e1 e2
        · rw [List.getElem?_append_right (by omega)] at e1 e2
          have e0 : i - aw.length = 0 := by have := (List.getElem?_eq_some_iff.mp e1).1; simp at this; omega
          have e0' : i - ph.length = 0 := by omega
          rw [e0] at e1
          rw [e0'] at e2
          cases e1
          have : rs = "waiting" := Option.some.inj e2
          have := lw this
          intro z
          rw [z] at hl1
          simp at hl1
          omega
  · rintro σ' H1 ⟨v5, v6, v7, ph, xs, aw, md, a, b, c, d, rfl, hst1, B1, h1, h2, h3, hi, lp, la, lm, hall, hne, hoff⟩
    repeat kaf_pre
    refine ⟨size_of (by simp), fun k nk => ?_⟩
    have k4 : k ≠ st := fun z => by rw [z, hst1] at nk; cases nk
    refine q k p1 ph aw md a b c d _ (by rw [upd_ne k4.symm]; exact hst1) (B1.new (B1.back hst1 nk).2) ⟨p2, p3, xs, upd_same, ?_, ?_, ?_, k4, x1, x2, x3, hi.clear nk⟩ ⟨by omega, by omega, fun ys hy t ht => by rw [lp]; exact (hall ys hy).2 t ht, by omega⟩ ⟨hne, fun ys hy => (hall ys hy).1⟩
    · rw [upd_ne (ne_of_none h1 nk)]; exact h1
    · rw [upd_ne (ne_of_none h2 nk)]; exact h2
    · rw [upd_ne (ne_of_none h3 nk)]; exact h3
/- slots of law: 0 script, 1 state, 2 shape, 3 size, 4 kept, 5 given, 6 place, 7 phases, 8 handed, 9 targets -/
def t_law (K : PySem.W.Frag) : TS :=
  (tSeq (tAsg (tCall (spStart K) [] E0 (tCons (tVar 0) tNil)) (gName 1))
  (tSeq (tAsg (tCall (spDraw) [] E0 (tCons (tVar 1) (tCons (tC (.int 4)) tNil))) (gName 2))
  (tSeq (tAsg (tOp rSubI (tC (.int 16)) (tCall (spDraw) [] E0 (tCons (tVar 1) (tCons (tC (.int 17)) tNil)))) (gName 3))
  (tSeqC (tIfS (tTest (tOp rGtI (tVar 2) (tC (.int 1)))) (tAsg (tCall (spLine K) [] E0 (tCons (tVar 1) (tCons (tOp (rAddA K) (tVar 3) (tC (.int 12))) (tCons (tOp (rEqA K) (tVar 2) (tC (.int 3))) tNil)))) (gName 4)) (tAsg (tCall (spDrawn K) [] E0 (tCons (tVar 1) (tCons (tVar 3) tNil))) (gName 4)))
  (tSeq (tAsg (tLst (tCons (tCB (rListOf K) (tCons (tOp (rIx K) (tVar 4) (tC (.int 0))) tNil)) (tCons (tLc (iAny K (tOp (rIx K) (tVar 4) (tC (.int 1)))) (gName 9) tYes (tCB (rListOf K) (tCons (tVar 9) tNil)) [9]) (tCons (tCB (rListOf K) (tCons (tOp (rIx K) (tVar 4) (tC (.int 2))) tNil)) tNil)))) (gName 5))
  (tSeq (tIfS (tNot (tTru K (tCall (spAsked K) [] E0 (tCons (tVar 5) (tCons (tVar 4) tNil))))) (tRet (tC (.bl false))) tNext)
  (tSeqC (tIfS (tTest (tOp rGtI (tCB (rLen K) (tCons (tOp (rIx K) (tVar 4) (tC (.int 0))) tNil)) (tC (.int 0)))) (tSeq (tAsg (tCall (spDraw) [] E0 (tCons (tVar 1) (tCons (tCB (rLen K) (tCons (tOp (rIx K) (tVar 4) (tC (.int 0))) tNil)) tNil))) (gName 6))
  (tSeq (tAsg (tOp (rIx K) (tVar 4) (tC (.int 0))) (gName 7))
  (tSeq (tAsg (tOp (rIx K) (tVar 5) (tC (.int 0))) (gName 8))
  (tSeq (tAsg (tC (.str "ended")) (gSub (tVar 7) (tVar 6) rSetL))
  (tAsg (tC (.str "ended")) (gSub (tVar 8) (tVar 6) rSetL)))))) tNext)
  (tRet (tCall (spAsked K) [] E0 (tCons (tVar 5) (tCons (tVar 4) tNil)))))))))))
def spLaw (K : PySem.W.Frag) : Sp := fun vs H Q _ => ∃ (a : Addr) (ns : List Int), vs = [.ref a] ∧ SqL K H a (ns.map V.int) ∧ ns.length ≤ 63 ∧ ∀ H', Q (.bl true) H'
theorem len_law (K : PySem.W.Frag) {vs : List V} {H : Hp} {Q : VK} {E : XK} (h : spLaw K vs H Q E) : vs.length = 1 := by
  obtain ⟨a, ns, rfl, _⟩ := h
  rfl
theorem rd_law (K : PySem.W.Frag) (vs : List V) (H : Hp) (Q : VK) (E : XK) (h : spLaw K vs H Q E) : t_law K { nx := fun _ H' => Q .non H', rt := Q } (start ["script", "state", "shape", "size", "kept", "given", "place", "phases", "handed", "targets"] vs) H := by
  obtain ⟨s, ns, rfl, hs, _, q⟩ := h
  unfold t_law
  repeat kaf_pre
  refine ⟨s, ns, rfl, hs, fun st sc H1 nst nsc hst hsc s1 => ?_⟩
  have ne := st_ne hst hsc
  repeat kaf_pre
  refine ⟨st, _, sc, ns, 0, 0, 0, 0, rfl, by omega, by omega, hst, hsc, fun shape a b c d H2 r0 r1 hst B2 => ?_⟩
  have hsc2 := But.off B2 _ _ ne hsc
  repeat kaf_pre
  refine ⟨st, _, sc, ns, a, b, c, d, rfl, by omega, by omega, hst, hsc2, fun size a b c d H3 z0 z1 hst B3 => ?_⟩
  have hsc3 := But.off B3 _ _ ne hsc2
  repeat kaf_pre
  refine rd_cut (fun σ' H' => ∃ (k k1 : Addr) (ph : List Str) (aw : List (List Nat)) (md : List Bool) (a : Nat) (b c d : Int), H' st = some (StO sc a b c d) ∧ H' sc = some (.lst (ns.map V.int)) ∧ Gv st H' k k1 ph aw md ∧ Wf ph aw md ∧ Full ph aw ∧
    σ' = [some (.ref s), some (.ref st), some (.int shape), some (.int (16 - size)), some (.ref k), none, none, none, none, none]) ?_ ?_
  · have mk : ∀ H, H sc = some (.lst (ns.map V.int)) → Made st sc H (fun v H' => ∃ (k k1 : Addr) (ph : List Str) (aw : List (List Nat)) (md : List Bool) (a : Nat) (b c d : Int), v = .ref k ∧ H' st = some (StO sc a b c d) ∧ H' sc = some (.lst (ns.map V.int)) ∧ Gv st H' k k1 ph aw md ∧ Wf ph aw md ∧ Full ph aw) :=
      fun H hsc k k1 ph aw md a b c d H' h1 B h2 h3 h4 => ⟨k, k1, ph, aw, md, a, b, c, d, rfl, h1, But.off B _ _ ne hsc, h2, h3, h4⟩
    repeat kaf_pre
    refine rd_ite (fun cs => ?_) (fun cs => ?_)
    · repeat kaf_pre
      have e : (16 - size + 12 : Int) = ((28 - size.toNat : Nat) : Int) := by omega
      rw [e]
      refine ⟨st, sc, ns, a, b, c, d, 28 - size.toNat, _, rfl, hst, hsc3, by omega, by omega, fun k k1 ph aw md a b c d H' h1 B h2 h3 h4 => ?_⟩
      repeat kaf_pre
      exact ⟨k, k1, ph, aw, md, a, b, c, d, h1, But.off B _ _ ne hsc3, h2, h3, h4, rfl⟩
    · repeat kaf_pre
      have e : V.int (16 - size) = V.int ((16 - size.toNat : Nat) : Int) := by congr 1; omega
      have sp : ∀ R : VK, Made st sc H3 R → spDrawn K ([V.ref st, V.int (16 - size)] ++ []) H3 R E0 := fun R m => ⟨st, sc, ns, a, b, c, d, 16 - size.toNat, by rw [e]; rfl, hst, hsc3, by omega, m⟩
      refine sp _ fun k k1 ph aw md a b c d H' h1 B h2 h3 h4 => ?_
      repeat kaf_pre
      exact ⟨k, k1, ph, aw, md, a, b, c, d, h1, But.off B _ _ ne hsc3, h2, h3, h4, rfl⟩
  · rintro σ' H4 ⟨k, k1, ph, aw, md, a, b, c, d, hst, hsc, hk, w, f, rfl⟩
    have sz := w.sz
    obtain ⟨k2, k3, xs, b1, b2, b3, b4, e1, e2, e3, e4, hi⟩ := hk.ex
    repeat kaf_pre
    intro g1 ng1
    have S1 := same_new (o := .lst (ph.map V.str)) ng1
    have hk1 := hk.keep fun b o _ e => S1 b o e
    repeat kaf_pre
    refine lcL (xs := xs) (by kcf_m) fun g2 ng2 => ⟨fun i H' => ∃ zs : List V, H' g2 = some (.lst zs) ∧ Same (upd H4 g1 (.lst (ph.map V.str))) H' ∧ zs.length = i ∧ ∀ (j : Nat) ys, j < i → aw[j]? = some ys → ∃ r, zs[j]? = some (.ref r) ∧ H' r = some (.lst (ys.map iv)) ∧ r ≠ st ∧ r ≠ g2, ⟨[], upd_same, same_new ng2, rfl, fun j ys hj => absurd hj (Nat.not_lt_zero _)⟩, fun i H' _ h => ?_, ?_, ?_⟩
    · obtain ⟨zs, _, S, _⟩ := h
      exact S.seq (SqL.of (S1 _ _ b3))
    · rintro i x H' hx ⟨zs, hz, S, hl, hz2⟩
      refine ⟨wipe1 _ _ _, ?_⟩
      repeat kaf_pre
      have hlt := (List.getElem?_eq_some_iff.mp hx).1
      have hlt' : i < aw.length := by rw [← hi.1]; exact hlt
      have ha : aw[i]? = some aw[i] := List.getElem?_eq_getElem hlt'
      obtain ⟨r, e5, e6, e7⟩ := hi.2 i _ ha
      rw [hx] at e5
      cases e5
      have e8 := S _ _ (S1 _ _ e6)
      repeat kaf_pre
      intro r2 nr2
      have ng : g2 ≠ r2 := ne_of_none hz nr2
      refine ⟨zs, by rw [upd_ne ng]; exact hz, size_lt (by have := w.la; have := hi.1; omega), zs ++ [.ref r2], upd_same, same_mut (S.trans (same_new nr2)) ng2, by simp [hl], fun j ys hj ej => ?_⟩
      by_cases hji : j < i
      · obtain ⟨r, f1, f2, f3, f4⟩ := hz2 j ys hji ej
        refine ⟨r, by rw [List.getElem?_append_left (by omega)]; exact f1, ?_, f3, f4⟩
        rw [upd_ne f4, upd_ne (ne_of_none f2 nr2)]
        exact f2
      · have : j = i := by omega
        subst this
        rw [ha] at ej
        cases ej
        refine ⟨r2, by rw [List.getElem?_append_right (by omega), hl]; simp, by rw [upd_ne ng.symm]; exact upd_same, ?_, ng.symm⟩
        exact (ne_of_none (S _ _ (S1 _ _ hst)) nr2).symm
    · rintro H5 ⟨zs, hz, S, hl, hz2⟩
      have S2 : Same H4 H5 := S1.trans S
      have b1' := S2 _ _ b1
      have b4' := S2 _ _ b4
      repeat kaf_pre
      intro g3 ng3
      repeat kaf_pre
      refine ⟨size_of (by simp), fun g ng => ?_⟩
      have hg1 := S _ _ (upd_same (H := H4) (a := g1) (o := .lst (ph.map V.str)))
      have n3 : g3 ≠ g := fun z => by rw [← z, upd_same] at ng; cases ng
      have ng' : H5 g = none := by rw [upd_ne n3.symm] at ng; exact ng
      have S3 : Same H5 (upd (upd H5 g3 (.lst (md.map V.bl))) g (.lst [.ref g1, .ref g2, .ref g3])) := same_mut (same_new ng3) ng'
      have S4 := S2.trans S3
      have hst5 := S4 _ _ hst
      have ki : InsT st (upd (upd H5 g3 (.lst (md.map V.bl))) g (.lst [.ref g1, .ref g2, .ref g3])) zs aw := by
        refine ⟨by rw [hl, hi.1], fun j ys ej => ?_⟩
        obtain ⟨r, f1, f2, f3, _⟩ := hz2 j ys (by have := (List.getElem?_eq_some_iff.mp ej).1; rw [hi.1]; exact this) ej
        exact ⟨r, f1, S3 _ _ f2, f3⟩
      have hG : Gv st (upd (upd H5 g3 (.lst (md.map V.bl))) g (.lst [.ref g1, .ref g2, .ref g3])) g g1 ph aw md :=
        ⟨g2, g3, zs, upd_same, S3 _ _ hg1, S3 _ _ hz, by rw [upd_ne n3]; exact upd_same, (ne_of_none (S2 _ _ hst) ng').symm, (ne_of_none hst ng1).symm, (ne_of_none (S1 _ _ hst) ng2).symm, (ne_of_none (S2 _ _ hst) ng3).symm, ki⟩
      have hK := hk.keep fun b o _ e => S4 b o e
      have hsc5 := S4 _ _ hsc
      have k1g1 : k1 ≠ g1 := ne_of_none b2 ng1
      generalize upd (upd H5 g3 (.lst (md.map V.bl))) g (.lst [.ref g1, .ref g2, .ref g3]) = H6 at *
      repeat kaf_pre
      refine ⟨st, g, g1, k, k1, ph, aw, md, rfl, hG, hK, w, f, fun H7 S7 => ?_⟩
      have hG := hG.keep fun b o _ e => S7 b o e
      have hK := hK.keep fun b o _ e => S7 b o e
      have hst7 := S7 _ _ hst5
      have hsc7 := S7 _ _ hsc5
      obtain ⟨k2, k3, xs, b1, b2, b3, b4, e1, e2, e3, e4, hi⟩ := hK.ex
      repeat kaf_pre
      refine rd_cut (fun σ' H' => ∃ (ph : List Str) (v6 v7 v8 : Option V), Gv st H' g g1 ph aw md ∧ Gv st H' k k1 ph aw md ∧ Wf ph aw md ∧ Full ph aw ∧
        σ' = [some (.ref s), some (.ref st), some (.int shape), some (.int (16 - size)), some (.ref k), some (.ref g), v6, v7, v8, none]) ?_ ?_
      · repeat kaf_pre
        rw [List.length_map]
        refine rd_ite (fun cl => ?_) (fun cl => ?_)
        · repeat kaf_pre
          rw [List.length_map]
          refine ⟨st, _, sc, ns, a, b, c, d, rfl, by omega, by omega, hst7, hsc7, fun pl a b c d H8 p0 p1 hst8 B8 => ?_⟩
          have hG := hG.keep fun b o n e => But.off B8 b o n e
          have hK := hK.keep fun b o n e => But.off B8 b o n e
          obtain ⟨k2, k3, xs, b1, b2, b3, b4, e1, e2, e3, e4, hi⟩ := hK.ex
          obtain ⟨g2, g3, zs, c1, c2, c3, c4, e5, e6, e7, e8, hj⟩ := hG.ex
          repeat kaf_pre
          have hx (l : List Str) (h : l.length = ph.length) : ixN (l.map V.str).length pl = some pl.toNat := by unfold ixN; rw [if_pos p0, if_pos (by rw [List.length_map]; omega)]
          refine rd_setL b2 (hx ph rfl) ?_
          repeat kaf_pre
          refine rd_setL (by rw [upd_ne k1g1.symm]; exact c2) (hx ph rfl) ?_
          have e9 : (ph.map V.str).set pl.toNat (.str "ended") = (ph.set pl.toNat "ended").map V.str := by rw [List.map_set]
          rw [e9]
          have np : ∀ ys, NS ys → ph.map V.str ≠ ys := fun ys h z => by
            cases ph with
            | nil => simp at cl
            | cons s r => exact h s (by rw [← z]; rfl)
          have F : ∀ b ys, NS ys → H8 b = some (.lst ys) → upd (upd H8 k1 (.lst ((ph.set pl.toNat "ended").map V.str))) g1 (.lst ((ph.set pl.toNat "ended").map V.str)) b = some (.lst ys) := fun b ys h e => by
            rw [upd_ne fun z => ?_, upd_ne fun z => ?_]
            · exact e
            · rw [z, b2] at e; exact np ys h (HO.lst.inj (Option.some.inj e))
            · rw [z, c2] at e; exact np ys h (HO.lst.inj (Option.some.inj e))
          refine ⟨ph.set pl.toNat "ended", _, _, _, hG.change F upd_same, hK.change F (by rw [upd_ne k1g1]; exact upd_same), ⟨by rw [List.length_set]; exact w.la, by rw [List.length_set]; exact w.lm, by rw [List.length_set]; exact w.lt, by rw [List.length_set]; exact w.sz⟩, ⟨fun i ys ha hp => f.1 i ys ha ?_, f.2⟩, rfl⟩
          rw [List.getElem?_set] at hp
          split at hp
          · split at hp
            · cases hp
            · cases hp
          · exact hp
        · repeat kaf_pre
          exact ⟨ph, _, _, _, hG, hK, w, f, rfl⟩
      · rintro σ' H8 ⟨ph, v6, v7, v8, hG, hK, w, f, rfl⟩
        repeat kaf_pre
        exact ⟨st, g, g1, k, k1, ph, aw, md, rfl, hG, hK, w, f, fun H9 _ => q H9⟩
def topS (i : Nat) : Stmt := PySem.Challenge.pw_promisesowned_k48_stuck_by_phases.main.body.getD i (.Pass ⟨0, 0, 0, 0⟩)
abbrev S_law_start : Stmt := topS 4
theorem sc_law_start : FnScope ["script"] ["script"] (defScope S_law_start) := ⟨rfl, rfl, rfl, by decide +kernel, rfl, by decide +kernel, by decide +kernel⟩
abbrev S_law_draw : Stmt := topS 5
theorem sc_law_draw : FnScope ["state", "many", "value", "mixed"] ["state", "many"] (defScope S_law_draw) := ⟨rfl, rfl, rfl, by decide +kernel, rfl, by decide +kernel, by decide +kernel⟩
abbrev S_is_over : Stmt := topS 1
theorem sc_is_over : FnScope ["targets", "any_of", "done", "target"] ["targets", "any_of", "done"] (defScope S_is_over) := ⟨rfl, rfl, rfl, by decide +kernel, rfl, by decide +kernel, by decide +kernel⟩
abbrev S_stuck_tasks : Stmt := topS 2
theorem sc_stuck_tasks : FnScope ["phases", "awaited", "modes", "hopeful", "grows", "task", "phase"] ["phases", "awaited", "modes"] (defScope S_stuck_tasks) := ⟨rfl, rfl, rfl, by decide +kernel, rfl, by decide +kernel, by decide +kernel⟩
abbrev S_law_rightly_stuck : Stmt := topS 12
theorem sc_law_rightly_stuck : FnScope ["phases", "awaited", "modes", "actual", "task", "freed", "target"] ["phases", "awaited", "modes", "actual"] (defScope S_law_rightly_stuck) := ⟨rfl, rfl, rfl, by decide +kernel, rfl, by decide +kernel, by decide +kernel⟩
abbrev S_law_is_number : Stmt := topS 6
theorem sc_law_is_number : FnScope ["actual"] ["actual"] (defScope S_law_is_number) := ⟨rfl, rfl, rfl, by decide +kernel, rfl, by decide +kernel, by decide +kernel⟩
abbrev S_law_freed : Stmt := topS 11
theorem sc_law_freed : FnScope ["targets", "mode", "hopeful", "inside", "target"] ["targets", "mode", "hopeful"] (defScope S_law_freed) := ⟨rfl, rfl, rfl, by decide +kernel, rfl, by decide +kernel, by decide +kernel⟩
abbrev S_law_answered : Stmt := topS 13
theorem sc_law_answered : FnScope ["phases", "awaited", "modes", "actual", "k", "hopeful", "task"] ["phases", "awaited", "modes", "actual"] (defScope S_law_answered) := ⟨rfl, rfl, rfl, by decide +kernel, rfl, by decide +kernel, by decide +kernel⟩
abbrev S_law_same : Stmt := topS 7
theorem sc_law_same : FnScope ["actual", "expected", "k"] ["actual", "expected"] (defScope S_law_same) := ⟨rfl, rfl, rfl, by decide +kernel, rfl, by decide +kernel, by decide +kernel⟩
abbrev S_law_asked : Stmt := topS 14
theorem sc_law_asked : FnScope ["given", "kept", "actual", "k"] ["given", "kept"] (defScope S_law_asked) := ⟨rfl, rfl, rfl, by decide +kernel, rfl, by decide +kernel, by decide +kernel⟩
abbrev S_law_line_of_tasks : Stmt := topS 10
theorem sc_law_line_of_tasks : FnScope ["state", "size", "down", "phases", "awaited", "modes", "k", "target"] ["state", "size", "down"] (defScope S_law_line_of_tasks) := ⟨rfl, rfl, rfl, by decide +kernel, rfl, by decide +kernel, by decide +kernel⟩
abbrev S_law_some_targets : Stmt := topS 8
theorem sc_law_some_targets : FnScope ["state", "size", "least", "k"] ["state", "size", "least"] (defScope S_law_some_targets) := ⟨rfl, rfl, rfl, by decide +kernel, rfl, by decide +kernel, by decide +kernel⟩
abbrev S_law_drawn_tasks : Stmt := topS 9
theorem sc_law_drawn_tasks : FnScope ["state", "size", "phases", "awaited", "modes", "k", "phase", "least"] ["state", "size"] (defScope S_law_drawn_tasks) := ⟨rfl, rfl, rfl, by decide +kernel, rfl, by decide +kernel, by decide +kernel⟩
abbrev S_law : Stmt := topS 15
theorem sc_law : FnScope ["script", "state", "shape", "size", "kept", "given", "place", "phases", "handed", "targets"] ["script"] (defScope S_law) := ⟨rfl, rfl, rfl, by decide +kernel, rfl, by decide +kernel, by decide +kernel⟩
structure Txt (K : PySem.W.Frag) (mg : Str → Option Value) : Prop where
  b_bool : mg "bool" = none
  b_int : mg "int" = none
  b_isinstance : mg "isinstance" = none
  b_len : mg "len" = none
  b_list : mg "list" = none
  b_max : mg "max" = none
  b_min : mg "min" = none
  b_range : mg "range" = none
  b_str : mg "str" = none
  b_tuple : mg "tuple" = none
section
variable {P : Program} {w : World} {K : PySem.W.Frag} {mg : Str → Option Value} {base : Heap}
theorem ok_law_start {f : Addr} {fd : FuncData} (F : Fun K "_law_start" "_law_start" S_law_start f fd) (T : Txt K mg)  : FnOk P w K mg base CX0 1 f fd ["script"] (spStart K) := by
  refine F.ok sc_law_start (fun vs H Q E h => len_law_start K h) (fun cdv A outer s H vs Q E hr h => ⟨t_law_start K, ?_, rd_law_start K vs H Q E h⟩)
  exact (pss_one (ps_ret (pe_lst (pa_cons (pe_callTy call_listA (by rfl) T.b_list (by decide +kernel) (pa_cons (pv 0) pa_nil)) (pa_cons pe_int (pa_cons pe_int (pa_cons pe_int (pa_cons pe_int pa_nil))))))))
theorem ok_law_draw {f : Addr} {fd : FuncData} (F : Fun K "_law_draw" "_law_draw" S_law_draw f fd) (T : Txt K mg)  : FnOk P w K mg base CX0 1 f fd ["state", "many"] (spDraw) := by
  refine F.ok sc_law_draw (fun vs H Q E h => len_law_draw K h) (fun cdv A outer s H vs Q E hr h => ⟨t_law_draw K, ?_, rd_law_draw K vs H Q E h⟩)
  exact (pss_consC (ps_if (pt_cmpR (op_eqA hr.units) (pe_ix ix_seq (pv 0) pe_int (fun _ _ => rfl)) pe_int (nomark _)) (pss_cons (ps_if (pt_cmpR op_geA (pe_ix ix_seq (pv 0) pe_int (fun _ _ => rfl)) (pe_callB call_lenA (by rfl) T.b_len (by decide +kernel) (pa_cons (pe_ix ix_seq (pv 0) pe_int (fun _ _ => rfl)) pa_nil)) (nomark _)) (pss_one (ps_ret pe_int)) pss_nil)
  (pss_cons (ps_asg (pe_ix ix_seq (pe_ix ix_seq (pv 0) pe_int (fun _ _ => rfl)) (pe_ix ix_seq (pv 0) pe_int (fun _ _ => rfl)) (fun _ _ => rfl)) (pg_sub (pv 0) pe_int set_list))
  (pss_cons (ps_asg (pe_op op_addA (pe_ix ix_seq (pv 0) pe_int (fun _ _ => rfl)) pe_int) (pg_sub (pv 0) pe_int set_list))
  (pss_cons (ps_asg pe_int (pg_sub (pv 0) pe_int set_list))
  (pss_cons (ps_asg pe_int (pg_sub (pv 0) pe_int set_list))
  (pss_one (ps_if (pt_cmpR op_geA (pe_ix ix_seq (pv 0) pe_int (fun _ _ => rfl)) (pe_op op_powA pe_int pe_int) (nomark _)) (pss_cons (ps_asg pe_int (pg_sub (pv 0) pe_int set_list))
  (pss_one (ps_asg pe_int (pg_sub (pv 0) pe_int set_list)))) pss_nil))))))) pss_nil)
  (pss_cons (ps_asg (pe_op op_subA (pe_ix ix_seq (pv 0) pe_int (fun _ _ => rfl)) pe_int) (pg_sub (pv 0) pe_int set_list))
  (pss_cons (ps_if (pt_cmpR (op_eqA hr.units) (pe_ix ix_seq (pv 0) pe_int (fun _ _ => rfl)) pe_int (nomark _)) (pss_cons (ps_set (i := 2) sc_law_draw.nd rfl (Or.inl rfl) (pe_op op_modA (pe_callTy call_intA (by rfl) T.b_int (by decide +kernel) (pa_cons (pe_ix ix_seq (pv 0) pe_int (fun _ _ => rfl)) pa_nil)) (pv 1)))
  (pss_cons (ps_asg (pe_op op_divA (pe_callTy call_intA (by rfl) T.b_int (by decide +kernel) (pa_cons (pe_ix ix_seq (pv 0) pe_int (fun _ _ => rfl)) pa_nil)) (pv 1)) (pg_sub (pv 0) pe_int set_list))
  (pss_consC (ps_if (pt_cmpR (op_eqA hr.units) (pe_ix ix_seq (pv 0) pe_int (fun _ _ => rfl)) pe_int (nomark _)) (pss_one (ps_asg pe_int (pg_sub (pv 0) pe_int set_list))) pss_nil)
  (pss_one (ps_ret (pv 2)))))) pss_nil)
  (pss_cons (ps_set (i := 3) sc_law_draw.nd rfl (Or.inl rfl) (pe_op op_modA (pe_callTy call_intA (by rfl) T.b_int (by decide +kernel) (pa_cons (pe_op op_addA (pe_op op_addA (pe_op op_mulA (pe_ix ix_seq (pv 0) pe_int (fun _ _ => rfl)) pe_int) (pe_op op_mulA (pe_ix ix_seq (pv 0) pe_int (fun _ _ => rfl)) pe_int)) pe_int) pa_nil)) pe_int))
  (pss_cons (ps_set (i := 3) sc_law_draw.nd rfl (Or.inl rfl) (pe_op op_modA (pe_callTy call_intA (by rfl) T.b_int (by decide +kernel) (pa_cons (pe_op op_addA (pe_op op_addA (pe_op op_mulA (pv 3) pe_int) (pe_op op_divA (pv 3) pe_int)) pe_int) pa_nil)) pe_int))
  (pss_one (ps_ret (pe_op op_modA (pe_callTy call_intA (by rfl) T.b_int (by decide +kernel) (pa_cons (pv 3) pa_nil)) (pv 1)))))))))
theorem ok_is_over {f : Addr} {fd : FuncData} (F : Fun K "is_over" "is_over" S_is_over f fd) (T : Txt K mg)  : FnOk P w K mg base CX0 1 f fd ["targets", "any_of", "done"] (spOver K) := by
  refine F.ok sc_is_over (fun vs H Q E h => len_is_over K h) (fun cdv A outer s H vs Q E hr h => ⟨t_is_over K, ?_, rd_is_over K vs H Q E h⟩)
  exact (pss_cons (ps_for PassesOwn.never rfl (pi_any (pv 0)) (pg_name (i := 3) sc_is_over.nd rfl (Or.inl rfl)) (pss_cons (ps_if (PW.pt (pw_and (pt_tru (pv 1)) (pw_and1 (pt_tru (pe_ix ix_seq (pv 2) (pv 3) (fun _ _ => rfl)))))) (pss_one (ps_ret pe_bl)) pss_nil)
  (pss_one (ps_if (PW.pt (pw_and (pt_not (pt_tru (pv 1))) (pw_and1 (pt_not (pt_tru (pe_ix ix_seq (pv 2) (pv 3) (fun _ _ => rfl))))))) (pss_one (ps_ret pe_bl)) pss_nil))))
  (pss_one (ps_ret (pe_not (pv 1)))))
theorem ok_stuck_tasks {f : Addr} {fd : FuncData} (F : Fun K "stuck_tasks" "stuck_tasks" S_stuck_tasks f fd) (T : Txt K mg) (G_is_over : Cal P w K mg base CX0 "is_over" 1 ["targets", "any_of", "done"] (spOver K)) : FnOk P w K mg base CX0 2 f fd ["phases", "awaited", "modes"] (spStuck K) := by
  refine F.ok sc_stuck_tasks (fun vs H Q E h => len_stuck_tasks K h) (fun cdv A outer s H vs Q E hr h => ⟨t_stuck_tasks K, ?_, rd_stuck_tasks K vs H Q E h⟩)
  exact (pss_cons (ps_set (i := 3) sc_stuck_tasks.nd rfl (Or.inr rfl) (pe_lc (own := [("phase", 6)]) (g := gName 6) (tt := tYes) (te := (tOp (rNeA K) (tVar 6) (tC (.str "waiting")))) rfl sc_stuck_tasks.nd (pi_any (pv 0)) (blkOk_by (N := ["phases", "awaited", "modes", "hopeful", "grows", "task", "phase"]) (sc := defScope S_stuck_tasks) (by decide +kernel)) (fun _ _ _ _ _ => pg_name (i := 6) sc_stuck_tasks.nd rfl (Or.inl rfl)) (fun _ _ _ _ _ => pts_nil) (fun _ _ _ _ _ => (pe_cmpR (op_neA hr.units) (pv 6) pe_str (nomark _)))))
  (pss_cons (ps_set (i := 4) sc_stuck_tasks.nd rfl (Or.inl rfl) pe_bl)
  (pss_cons (ps_while PassesOwn.never (pt_tru (pv 4)) (pss_cons (ps_set (i := 4) sc_stuck_tasks.nd rfl (Or.inl rfl) pe_bl)
  (pss_one (ps_for PassesOwn.never rfl (pi_range1 (by rfl) T.b_range (pa_cons (pe_callB call_lenA (by rfl) T.b_len (by decide +kernel) (pa_cons (pv 0) pa_nil)) pa_nil)) (pg_name (i := 5) sc_stuck_tasks.nd rfl (Or.inl rfl)) (pss_one (ps_if (PW.pt (pw_and (pt_not (pt_tru (pe_ix ix_seq (pv 3) (pv 5) (fun _ _ => rfl)))) (pw_and1 (pt_tru (pe_cal G_is_over (hr.mono (by decide)) pass0 (pa_cons (pe_ix ix_seq (pv 1) (pv 5) (fun _ _ => rfl)) (pa_cons (pe_ix ix_seq (pv 2) (pv 5) (fun _ _ => rfl)) (pa_cons (pv 3) pa_nil)))))))) (pss_cons (ps_asg pe_bl (pg_sub (pv 3) (pv 5) set_list))
  (pss_one (ps_set (i := 4) sc_stuck_tasks.nd rfl (Or.inl rfl) pe_bl))) pss_nil))))))
  (pss_one (ps_ret (pe_lc (own := [("task", 5)]) (g := gName 5) (tt := (tNot (tTru K (tOp (rIx K) (tVar 3) (tVar 5))))) (te := (tVar 5)) rfl sc_stuck_tasks.nd (pi_range1 (by rfl) T.b_range (pa_cons (pe_callB call_lenA (by rfl) T.b_len (by decide +kernel) (pa_cons (pv 0) pa_nil)) pa_nil)) (blkOk_by (N := ["phases", "awaited", "modes", "hopeful", "grows", "task", "phase"]) (sc := defScope S_stuck_tasks) (by decide +kernel)) (fun _ _ _ _ _ => pg_name (i := 5) sc_stuck_tasks.nd rfl (Or.inl rfl)) (fun _ _ _ _ _ => (pts_one (pt_not (pt_tru (pe_ix ix_seq (pv 3) (pv 5) (fun _ _ => rfl)))))) (fun _ _ _ _ _ => (pv 5))))))))
theorem ok_law_rightly_stuck {f : Addr} {fd : FuncData} (F : Fun K "_law_rightly_stuck" "_law_rightly_stuck" S_law_rightly_stuck f fd) (T : Txt K mg)  : FnOk P w K mg base CX0 1 f fd ["phases", "awaited", "modes", "actual"] (spRight K) := by
  refine F.ok sc_law_rightly_stuck (fun vs H Q E h => len_law_rightly_stuck K h) (fun cdv A outer s H vs Q E hr h => ⟨t_law_rightly_stuck K, ?_, rd_law_rightly_stuck K vs H Q E h⟩)
  exact (pss_cons (ps_for PassesOwn.never rfl (pi_any (pv 3)) (pg_name (i := 4) sc_law_rightly_stuck.nd rfl (Or.inl rfl)) (pss_cons (ps_setLc (i := 5) (own := [("target", 6)]) (g := gName 6) (tt := (tTest (tOp (rNotInA K) (tVar 6) (tVar 3)))) (te := (tVar 6)) rfl sc_law_rightly_stuck.nd rfl rfl (sw_true rfl rfl rfl (by decide +kernel)) (pi_any (pe_ix ix_seq (pv 1) (pv 4) (fun _ _ => rfl))) (blkOk_by (N := ["phases", "awaited", "modes", "actual", "task", "freed", "target"]) (sc := defScope S_law_rightly_stuck) (by decide +kernel)) (fun _ _ _ _ _ => pg_name (i := 6) sc_law_rightly_stuck.nd rfl (Or.inl rfl)) (fun _ _ _ _ _ => (pts_one (pt_cmpR op_notInA (pv 6) (pv 3) rfl))) (fun _ _ _ _ _ => (pv 6)))
  (pss_cons (ps_if (PW.pt (pw_or (pt_cmpR (op_neA hr.units) (pe_ix ix_seq (pv 0) (pv 4) (fun _ _ => rfl)) pe_str (nomark _)) (pw_or1 (pt_cmpR (op_eqA hr.units) (pe_callB call_lenA (by rfl) T.b_len (by decide +kernel) (pa_cons (pv 5) pa_nil)) (pe_callB call_lenA (by rfl) T.b_len (by decide +kernel) (pa_cons (pe_ix ix_seq (pv 1) (pv 4) (fun _ _ => rfl)) pa_nil)) (nomark _))))) (pss_one (ps_ret pe_bl)) pss_nil)
  (pss_one (ps_if (PW.pt (pw_and (pt_tru (pe_ix ix_seq (pv 2) (pv 4) (fun _ _ => rfl))) (pw_and1 (pt_cmpR op_gtA (pe_callB call_lenA (by rfl) T.b_len (by decide +kernel) (pa_cons (pv 5) pa_nil)) pe_int (nomark _))))) (pss_one (ps_ret pe_bl)) pss_nil)))))
  (pss_one (ps_ret pe_bl)))
theorem ok_law_is_number {f : Addr} {fd : FuncData} (F : Fun K "_law_is_number" "_law_is_number" S_law_is_number f fd) (T : Txt K mg)  : FnOk P w K mg base CX0 1 f fd ["actual"] (spIsNum) := by
  refine F.ok sc_law_is_number (fun vs H Q E h => len_law_is_number K h) (fun cdv A outer s H vs Q E hr h => ⟨t_law_is_number K, ?_, rd_law_is_number K vs H Q E h⟩)
  exact (pss_one (ps_ret (pe_and (pe_callB call_isA (by rfl) T.b_isinstance (by decide +kernel) (pa_cons (pv 0) (pa_cons (pe_bltn (v := .ty "int") (by rfl) T.b_int (by decide +kernel) rfl) pa_nil))) (pe_one (pe_not (pe_callB call_isA (by rfl) T.b_isinstance (by decide +kernel) (pa_cons (pv 0) (pa_cons (pe_bltn (v := .ty "bool") (by rfl) T.b_bool (by decide +kernel) rfl) pa_nil))))))))
theorem ok_law_freed {f : Addr} {fd : FuncData} (F : Fun K "_law_freed" "_law_freed" S_law_freed f fd) (T : Txt K mg)  : FnOk P w K mg base CX0 1 f fd ["targets", "mode", "hopeful"] (spFreed K) := by
  refine F.ok sc_law_freed (fun vs H Q E h => len_law_freed K h) (fun cdv A outer s H vs Q E hr h => ⟨t_law_freed K, ?_, rd_law_freed K vs H Q E h⟩)
  exact (pss_cons (ps_setLc (i := 3) (own := [("target", 4)]) (g := gName 4) (tt := (tTest (tOp (rInA K) (tVar 4) (tVar 2)))) (te := (tVar 4)) rfl sc_law_freed.nd rfl rfl (sw_true rfl rfl rfl (by decide +kernel)) (pi_any (pv 0)) (blkOk_by (N := ["targets", "mode", "hopeful", "inside", "target"]) (sc := defScope S_law_freed) (by decide +kernel)) (fun _ _ _ _ _ => pg_name (i := 4) sc_law_freed.nd rfl (Or.inl rfl)) (fun _ _ _ _ _ => (pts_one (pt_cmpR op_inA (pv 4) (pv 2) rfl))) (fun _ _ _ _ _ => (pv 4)))
  (pss_cons (ps_if (pt_tru (pv 1)) (pss_one (ps_ret (pe_cmpR op_gtA (pe_callB call_lenA (by rfl) T.b_len (by decide +kernel) (pa_cons (pv 3) pa_nil)) pe_int (nomark _)))) pss_nil)
  (pss_one (ps_ret (pe_cmpR (op_eqA hr.units) (pe_callB call_lenA (by rfl) T.b_len (by decide +kernel) (pa_cons (pv 3) pa_nil)) (pe_callB call_lenA (by rfl) T.b_len (by decide +kernel) (pa_cons (pv 0) pa_nil)) (nomark _))))))
theorem ok_law_answered {f : Addr} {fd : FuncData} (F : Fun K "_law_answered" "_law_answered" S_law_answered f fd) (T : Txt K mg) (G_law_rightly_stuck : Cal P w K mg base CX0 "_law_rightly_stuck" 1 ["phases", "awaited", "modes", "actual"] (spRight K)) (G_law_is_number : Cal P w K mg base CX0 "_law_is_number" 1 ["actual"] (spIsNum)) (G_law_freed : Cal P w K mg base CX0 "_law_freed" 1 ["targets", "mode", "hopeful"] (spFreed K)) : FnOk P w K mg base CX0 2 f fd ["phases", "awaited", "modes", "actual"] (spAnswered K) := by
  refine F.ok sc_law_answered (fun vs H Q E h => len_law_answered K h) (fun cdv A outer s H vs Q E hr h => ⟨t_law_answered K, ?_, rd_law_answered K vs H Q E h⟩)
  exact (pss_cons (ps_if (pt_not (pt_tru (pe_callB call_isA (by rfl) T.b_isinstance (by decide +kernel) (pa_cons (pv 3) (pa_cons (pe_bltn (v := .ty "list") (by rfl) T.b_list (by decide +kernel) rfl) pa_nil))))) (pss_one (ps_ret pe_bl)) pss_nil)
  (pss_cons (ps_for PassesOwn.never rfl (pi_range1 (by rfl) T.b_range (pa_cons (pe_callB call_lenA (by rfl) T.b_len (by decide +kernel) (pa_cons (pv 3) pa_nil)) pa_nil)) (pg_name (i := 4) sc_law_answered.nd rfl (Or.inl rfl)) (pss_cons (ps_if (PW.pt (pw_or (pt_not (pt_tru (pe_cal G_law_is_number (hr.mono (by decide)) pass0 (pa_cons (pe_ix ix_seq (pv 3) (pv 4) (fun _ _ => rfl)) pa_nil)))) (pw_or1 (pt_not (pt_chain op_leA op_ltA pe_int (pe_ix ix_seq (pv 3) (pv 4) (fun _ _ => rfl)) (pe_callB call_lenA (by rfl) T.b_len (by decide +kernel) (pa_cons (pv 0) pa_nil))))))) (pss_one (ps_ret pe_bl)) pss_nil)
  (pss_one (ps_if (PW.pt (pw_and (pt_cmpR op_gtA (pv 4) pe_int (nomark _)) (pw_and1 (pt_cmpR op_leA (pe_ix ix_seq (pv 3) (pv 4) (fun _ _ => rfl)) (pe_ix ix_seq (pv 3) (pe_op op_subA (pv 4) pe_int) (fun _ _ => rfl)) (nomark _))))) (pss_one (ps_ret pe_bl)) pss_nil))))
  (pss_cons (ps_if (pt_not (pt_tru (pe_cal G_law_rightly_stuck (hr.mono (by decide)) pass0 (pa_cons (pv 0) (pa_cons (pv 1) (pa_cons (pv 2) (pa_cons (pv 3) pa_nil))))))) (pss_one (ps_ret pe_bl)) pss_nil)
  (pss_cons (ps_setLc (i := 5) (own := [("task", 6)]) (g := gName 6) (tt := (tTest (tOp (rNeA K) (tOp (rIx K) (tVar 0) (tVar 6)) (tC (.str "waiting"))))) (te := (tVar 6)) rfl sc_law_answered.nd rfl rfl (sw_true rfl rfl rfl (by decide +kernel)) (pi_range1 (by rfl) T.b_range (pa_cons (pe_callB call_lenA (by rfl) T.b_len (by decide +kernel) (pa_cons (pv 0) pa_nil)) pa_nil)) (blkOk_by (N := ["phases", "awaited", "modes", "actual", "k", "hopeful", "task"]) (sc := defScope S_law_answered) (by decide +kernel)) (fun _ _ _ _ _ => pg_name (i := 6) sc_law_answered.nd rfl (Or.inl rfl)) (fun _ _ _ _ _ => (pts_one (pt_cmpR (op_neA hr.units) (pe_ix ix_seq (pv 0) (pv 6) (fun _ _ => rfl)) pe_str (nomark _)))) (fun _ _ _ _ _ => (pv 6)))
  (pss_cons (ps_for PassesOwn.never rfl (pi_range1 (by rfl) T.b_range (pa_cons (pe_callB call_lenA (by rfl) T.b_len (by decide +kernel) (pa_cons (pv 0) pa_nil)) pa_nil)) (pg_name (i := 4) sc_law_answered.nd rfl (Or.inl rfl)) (pss_one (ps_for PassesOwn.never rfl (pi_range1 (by rfl) T.b_range (pa_cons (pe_callB call_lenA (by rfl) T.b_len (by decide +kernel) (pa_cons (pv 0) pa_nil)) pa_nil)) (pg_name (i := 6) sc_law_answered.nd rfl (Or.inl rfl)) (pss_one (ps_if (PW.pt (pw_and (pt_cmpR op_notInA (pv 6) (pv 5) rfl) (pw_and (pt_cmpR op_notInA (pv 6) (pv 3) rfl) (pw_and1 (pt_tru (pe_cal G_law_freed (hr.mono (by decide)) pass0 (pa_cons (pe_ix ix_seq (pv 1) (pv 6) (fun _ _ => rfl)) (pa_cons (pe_ix ix_seq (pv 2) (pv 6) (fun _ _ => rfl)) (pa_cons (pv 5) pa_nil))))))))) (pss_one (ps_expr (pe_bm PySem.F.plainAttrs_list PySem.F.slot_list_append PySem.F.type_list_append mt_append (pv 5) (pa_cons (pv 6) pa_nil)))) pss_nil)))))
  (pss_one (ps_ret (pe_cmpR (op_eqA hr.units) (pe_op op_addA (pe_callB call_lenA (by rfl) T.b_len (by decide +kernel) (pa_cons (pv 5) pa_nil)) (pe_callB call_lenA (by rfl) T.b_len (by decide +kernel) (pa_cons (pv 3) pa_nil))) (pe_callB call_lenA (by rfl) T.b_len (by decide +kernel) (pa_cons (pv 0) pa_nil)) (nomark _)))))))))
theorem ok_law_same {f : Addr} {fd : FuncData} (F : Fun K "_law_same" "_law_same" S_law_same f fd) (T : Txt K mg) (gm : mg "_law_same" = some (.ref f)) (B : Binds K fd ["actual", "expected"] []) (G_law_is_number : Cal P w K mg base CX0 "_law_is_number" 1 ["actual"] (spIsNum)) : ∀ d : Nat, FnOk P w K mg base CX0 (d + 2) f fd ["actual", "expected"] (spSame K d)
  | 0 => ⟨fun vs H Q E h => h.elim, fun A outer s H args us vs Q E _ _ _ _ h => h.elim⟩
  | d + 1 => by
    have G_self : Cal P w K mg base CX0 "_law_same" (d + 2) ["actual", "expected"] (spSame K d) := ⟨_, _, ok_law_same F T gm B G_law_is_number d, gm, F.kp, B⟩
    refine F.ok sc_law_same (fun vs H Q E h => len_law_same K h) (fun cdv A outer s H vs Q E hr h => ⟨t_law_same K (spSame K d), ?_, rd_law_same K d vs H Q E h⟩)
    exact (pss_cons (ps_if (pt_cmpR op_isNA (pv 1) pe_non (nomark _)) (pss_one (ps_ret (pe_cmpR op_isNA (pv 0) pe_non (nomark _)))) pss_nil)
  (pss_cons (ps_if (pt_tru (pe_callB call_isA (by rfl) T.b_isinstance (by decide +kernel) (pa_cons (pv 1) (pa_cons (pe_bltn (v := .ty "bool") (by rfl) T.b_bool (by decide +kernel) rfl) pa_nil)))) (pss_one (ps_ret (pe_and (pe_callB call_isA (by rfl) T.b_isinstance (by decide +kernel) (pa_cons (pv 0) (pa_cons (pe_bltn (v := .ty "bool") (by rfl) T.b_bool (by decide +kernel) rfl) pa_nil))) (pe_one (pe_cmpR (op_eqA hr.units) (pv 0) (pv 1) (nomark _)))))) pss_nil)
  (pss_cons (ps_if (pt_tru (pe_callB call_isA (by rfl) T.b_isinstance (by decide +kernel) (pa_cons (pv 1) (pa_cons (pe_bltn (v := .ty "int") (by rfl) T.b_int (by decide +kernel) rfl) pa_nil)))) (pss_one (ps_ret (pe_and (pe_cal G_law_is_number (hr.mono (by omega)) pass0 (pa_cons (pv 0) pa_nil)) (pe_one (pe_cmpR (op_eqA hr.units) (pv 0) (pv 1) (nomark _)))))) pss_nil)
  (pss_cons (ps_if (pt_tru (pe_callB call_isA (by rfl) T.b_isinstance (by decide +kernel) (pa_cons (pv 1) (pa_cons (pe_bltn (v := .ty "str") (by rfl) T.b_str (by decide +kernel) rfl) pa_nil)))) (pss_one (ps_ret (pe_and (pe_callB call_isA (by rfl) T.b_isinstance (by decide +kernel) (pa_cons (pv 0) (pa_cons (pe_bltn (v := .ty "str") (by rfl) T.b_str (by decide +kernel) rfl) pa_nil))) (pe_one (pe_cmpR (op_eqA hr.units) (pv 0) (pv 1) (nomark _)))))) pss_nil)
  (pss_consC (ps_if (pt_tru (pe_callB call_isA (by rfl) T.b_isinstance (by decide +kernel) (pa_cons (pv 1) (pa_cons (pe_bltn (v := .ty "list") (by rfl) T.b_list (by decide +kernel) rfl) pa_nil)))) (pss_one (ps_if (PW.pt (pw_or (pt_not (pt_tru (pe_callB call_isA (by rfl) T.b_isinstance (by decide +kernel) (pa_cons (pv 0) (pa_cons (pe_bltn (v := .ty "list") (by rfl) T.b_list (by decide +kernel) rfl) pa_nil))))) (pw_or1 (pt_cmpR (op_neA hr.units) (pe_callB call_lenA (by rfl) T.b_len (by decide +kernel) (pa_cons (pv 0) pa_nil)) (pe_callB call_lenA (by rfl) T.b_len (by decide +kernel) (pa_cons (pv 1) pa_nil)) (nomark _))))) (pss_one (ps_ret pe_bl)) pss_nil)) (pss_one (ps_if (PW.pt (pw_or (pt_not (pt_tru (pe_callB call_isA (by rfl) T.b_isinstance (by decide +kernel) (pa_cons (pv 1) (pa_cons (pe_bltn (v := .ty "tuple") (by rfl) T.b_tuple (by decide +kernel) rfl) pa_nil))))) (pw_or (pt_not (pt_tru (pe_callB call_isA (by rfl) T.b_isinstance (by decide +kernel) (pa_cons (pv 0) (pa_cons (pe_bltn (v := .ty "tuple") (by rfl) T.b_tuple (by decide +kernel) rfl) pa_nil))))) (pw_or1 (pt_cmpR (op_neA hr.units) (pe_callB call_lenA (by rfl) T.b_len (by decide +kernel) (pa_cons (pv 0) pa_nil)) (pe_callB call_lenA (by rfl) T.b_len (by decide +kernel) (pa_cons (pv 1) pa_nil)) (nomark _)))))) (pss_one (ps_ret pe_bl)) pss_nil)))
  (pss_cons (ps_for PassesOwn.never rfl (pi_range1 (by rfl) T.b_range (pa_cons (pe_callB call_lenA (by rfl) T.b_len (by decide +kernel) (pa_cons (pv 1) pa_nil)) pa_nil)) (pg_name (i := 2) sc_law_same.nd rfl (Or.inl rfl)) (pss_one (ps_if (pt_not (pt_tru (pe_cal G_self (hr.mono (by omega)) pass0 (pa_cons (pe_ix ix_seq (pv 0) (pv 2) (fun _ _ => rfl)) (pa_cons (pe_ix ix_seq (pv 1) (pv 2) (fun _ _ => rfl)) pa_nil))))) (pss_one (ps_ret pe_bl)) pss_nil)))
  (pss_one (ps_ret pe_bl))))))))
theorem ok_law_asked {f : Addr} {fd : FuncData} (F : Fun K "_law_asked" "_law_asked" S_law_asked f fd) (T : Txt K mg) (G_stuck_tasks : Cal P w K mg base CX0 "stuck_tasks" 2 ["phases", "awaited", "modes"] (spStuck K)) (G_law_answered : Cal P w K mg base CX0 "_law_answered" 2 ["phases", "awaited", "modes", "actual"] (spAnswered K)) (G_law_same : Cal P w K mg base CX0 "_law_same" 5 ["actual", "expected"] (spSame K 3)) : FnOk P w K mg base CX0 6 f fd ["given", "kept"] (spAsked K) := by
  refine F.ok sc_law_asked (fun vs H Q E h => len_law_asked K h) (fun cdv A outer s H vs Q E hr h => ⟨t_law_asked K, ?_, rd_law_asked K vs H Q E h⟩)
  exact (pss_cons (ps_set (i := 2) sc_law_asked.nd rfl (Or.inl rfl) (pe_cal G_stuck_tasks (hr.mono (by decide)) pass0 (pa_cons (pe_ix ix_seq (pv 0) pe_int (fun _ _ => rfl)) (pa_cons (pe_ix ix_seq (pv 0) pe_int (fun _ _ => rfl)) (pa_cons (pe_ix ix_seq (pv 0) pe_int (fun _ _ => rfl)) pa_nil)))))
  (pss_cons (ps_for PassesOwn.never rfl (pi_range1 (by rfl) T.b_range (pa_cons pe_int pa_nil)) (pg_name (i := 3) sc_law_asked.nd rfl (Or.inl rfl)) (pss_one (ps_if (pt_not (pt_tru (pe_cal G_law_same (hr.mono (by decide)) pass0 (pa_cons (pe_ix ix_seq (pv 0) (pv 3) (fun _ _ => rfl)) (pa_cons (pe_ix ix_seq (pv 1) (pv 3) (fun _ _ => rfl)) pa_nil))))) (pss_one (ps_ret pe_bl)) pss_nil)))
  (pss_one (ps_ret (pe_cal G_law_answered (hr.mono (by decide)) pass0 (pa_cons (pe_ix ix_seq (pv 1) pe_int (fun _ _ => rfl)) (pa_cons (pe_ix ix_seq (pv 1) pe_int (fun _ _ => rfl)) (pa_cons (pe_ix ix_seq (pv 1) pe_int (fun _ _ => rfl)) (pa_cons (pv 2) pa_nil)))))))))
theorem ok_law_line_of_tasks {f : Addr} {fd : FuncData} (F : Fun K "_law_line_of_tasks" "_law_line_of_tasks" S_law_line_of_tasks f fd) (T : Txt K mg) (G_law_draw : Cal P w K mg base CX0 "_law_draw" 1 ["state", "many"] (spDraw)) : FnOk P w K mg base CX0 2 f fd ["state", "size", "down"] (spLine K) := by
  refine F.ok sc_law_line_of_tasks (fun vs H Q E h => len_law_line_of_tasks K h) (fun cdv A outer s H vs Q E hr h => ⟨t_law_line_of_tasks K, ?_, rd_law_line_of_tasks K vs H Q E h⟩)
  exact (pss_cons (ps_set (i := 3) sc_law_line_of_tasks.nd rfl (Or.inl rfl) (pe_op op_mulA (pe_lst (pa_cons pe_str pa_nil)) (pv 1)))
  (pss_cons (ps_set (i := 4) sc_law_line_of_tasks.nd rfl (Or.inl rfl) (pe_lst pa_nil))
  (pss_cons (ps_set (i := 5) sc_law_line_of_tasks.nd rfl (Or.inl rfl) (pe_lst pa_nil))
  (pss_cons (ps_for PassesOwn.never rfl (pi_range1 (by rfl) T.b_range (pa_cons (pv 1) pa_nil)) (pg_name (i := 6) sc_law_line_of_tasks.nd rfl (Or.inl rfl)) (pss_cons (ps_set (i := 7) sc_law_line_of_tasks.nd rfl (Or.inl rfl) (pe_callB (call_minA rfl) (by rfl) T.b_min (by decide +kernel) (pa_cons (pe_op op_addA (pe_callTy call_intA (by rfl) T.b_int (by decide +kernel) (pa_cons (pv 6) pa_nil)) pe_int) (pa_cons (pe_op op_subA (pv 1) pe_int) pa_nil))))
  (pss_consC (ps_if (pt_tru (pv 2)) (pss_one (ps_set (i := 7) sc_law_line_of_tasks.nd rfl (Or.inl rfl) (pe_callB (call_maxA rfl) (by rfl) T.b_max (by decide +kernel) (pa_cons (pe_op op_subA (pv 6) pe_int) (pa_cons pe_int pa_nil))))) pss_nil)
  (pss_cons (ps_expr (pe_bm PySem.F.plainAttrs_list PySem.F.slot_list_append PySem.F.type_list_append mt_append (pv 4) (pa_cons (pe_lst (pa_cons (pv 7) pa_nil)) pa_nil)))
  (pss_one (ps_expr (pe_bm PySem.F.plainAttrs_list PySem.F.slot_list_append PySem.F.type_list_append mt_append (pv 5) (pa_cons (pe_cmpR (op_eqA hr.units) (pe_cal G_law_draw (hr.mono (by decide)) pass0 (pa_cons (pv 0) (pa_cons pe_int pa_nil))) pe_int (nomark _)) pa_nil))))))))
  (pss_cons (ps_asg (pe_ix ix_seq (pe_lst (pa_cons pe_str (pa_cons pe_str (pa_cons pe_str pa_nil)))) (pe_cal G_law_draw (hr.mono (by decide)) pass0 (pa_cons (pv 0) (pa_cons pe_int pa_nil))) (fun _ _ => rfl)) (pg_sub (pv 3) (pe_cal G_law_draw (hr.mono (by decide)) pass0 (pa_cons (pv 0) (pa_cons (pv 1) pa_nil))) set_list))
  (pss_one (ps_ret (pe_lst (pa_cons (pv 3) (pa_cons (pv 4) (pa_cons (pv 5) pa_nil)))))))))))
theorem ok_law_some_targets {f : Addr} {fd : FuncData} (F : Fun K "_law_some_targets" "_law_some_targets" S_law_some_targets f fd) (T : Txt K mg) (G_law_draw : Cal P w K mg base CX0 "_law_draw" 1 ["state", "many"] (spDraw)) : FnOk P w K mg base CX0 2 f fd ["state", "size", "least"] (spSome K) := by
  refine F.ok sc_law_some_targets (fun vs H Q E h => len_law_some_targets K h) (fun cdv A outer s H vs Q E hr h => ⟨t_law_some_targets K, ?_, rd_law_some_targets K vs H Q E h⟩)
  exact (pss_one (ps_ret (pe_lc (own := [("k", 3)]) (g := gName 3) (tt := tYes) (te := (tCall (spDraw) [] E0 (tCons (tVar 0) (tCons (tVar 1) tNil)))) rfl sc_law_some_targets.nd (pi_range1 (by rfl) T.b_range (pa_cons (pe_op op_addA (pv 2) (pe_cal G_law_draw (hr.mono (by decide)) pass0 (pa_cons (pv 0) (pa_cons (pe_op op_subA pe_int (pv 2)) pa_nil)))) pa_nil)) (blkOk_by (N := ["state", "size", "least", "k"]) (sc := defScope S_law_some_targets) (by decide +kernel)) (fun _ _ _ _ _ => pg_name (i := 3) sc_law_some_targets.nd rfl (Or.inl rfl)) (fun _ _ _ _ _ => pts_nil) (fun _ _ _ _ _ => (pe_cal G_law_draw (hr.mono (by decide)) pass0 (pa_cons (pv 0) (pa_cons (pv 1) pa_nil)))))))
theorem ok_law_drawn_tasks {f : Addr} {fd : FuncData} (F : Fun K "_law_drawn_tasks" "_law_drawn_tasks" S_law_drawn_tasks f fd) (T : Txt K mg) (G_law_draw : Cal P w K mg base CX0 "_law_draw" 1 ["state", "many"] (spDraw)) (G_law_some_targets : Cal P w K mg base CX0 "_law_some_targets" 2 ["state", "size", "least"] (spSome K)) : FnOk P w K mg base CX0 3 f fd ["state", "size"] (spDrawn K) := by
  refine F.ok sc_law_drawn_tasks (fun vs H Q E h => len_law_drawn_tasks K h) (fun cdv A outer s H vs Q E hr h => ⟨t_law_drawn_tasks K, ?_, rd_law_drawn_tasks K vs H Q E h⟩)
  exact (pss_cons (ps_set (i := 2) sc_law_drawn_tasks.nd rfl (Or.inl rfl) (pe_lst pa_nil))
  (pss_cons (ps_set (i := 3) sc_law_drawn_tasks.nd rfl (Or.inl rfl) (pe_lst pa_nil))
  (pss_cons (ps_set (i := 4) sc_law_drawn_tasks.nd rfl (Or.inl rfl) (pe_lst pa_nil))
  (pss_cons (ps_for PassesOwn.never rfl (pi_range1 (by rfl) T.b_range (pa_cons (pv 1) pa_nil)) (pg_name (i := 5) sc_law_drawn_tasks.nd rfl (Or.inl rfl)) (pss_cons (ps_set (i := 6) sc_law_drawn_tasks.nd rfl (Or.inl rfl) (pe_ix ix_seq (pe_lst (pa_cons pe_str (pa_cons pe_str (pa_cons pe_str (pa_cons pe_str pa_nil))))) (pe_cal G_law_draw (hr.mono (by decide)) pass0 (pa_cons (pv 0) (pa_cons pe_int pa_nil))) (fun _ _ => rfl)))
  (pss_cons (ps_set (i := 7) sc_law_drawn_tasks.nd rfl (Or.inl rfl) pe_int)
  (pss_consC (ps_if (pt_cmpR (op_eqA hr.units) (pv 6) pe_str (nomark _)) (pss_one (ps_set (i := 7) sc_law_drawn_tasks.nd rfl (Or.inl rfl) pe_int)) pss_nil)
  (pss_cons (ps_expr (pe_bm PySem.F.plainAttrs_list PySem.F.slot_list_append PySem.F.type_list_append mt_append (pv 2) (pa_cons (pv 6) pa_nil)))
  (pss_cons (ps_expr (pe_bm PySem.F.plainAttrs_list PySem.F.slot_list_append PySem.F.type_list_append mt_append (pv 3) (pa_cons (pe_cal G_law_some_targets (hr.mono (by decide)) pass0 (pa_cons (pv 0) (pa_cons (pv 1) (pa_cons (pv 7) pa_nil)))) pa_nil)))
  (pss_one (ps_expr (pe_bm PySem.F.plainAttrs_list PySem.F.slot_list_append PySem.F.type_list_append mt_append (pv 4) (pa_cons (pe_cmpR (op_eqA hr.units) (pe_cal G_law_draw (hr.mono (by decide)) pass0 (pa_cons (pv 0) (pa_cons pe_int pa_nil))) pe_int (nomark _)) pa_nil))))))))))
  (pss_one (ps_ret (pe_lst (pa_cons (pv 2) (pa_cons (pv 3) (pa_cons (pv 4) pa_nil))))))))))
theorem ok_law {f : Addr} {fd : FuncData} (F : Fun K "law" "law" S_law f fd) (T : Txt K mg) (G_law_start : Cal P w K mg base CX0 "_law_start" 1 ["script"] (spStart K)) (G_law_draw : Cal P w K mg base CX0 "_law_draw" 1 ["state", "many"] (spDraw)) (G_law_asked : Cal P w K mg base CX0 "_law_asked" 6 ["given", "kept"] (spAsked K)) (G_law_line_of_tasks : Cal P w K mg base CX0 "_law_line_of_tasks" 2 ["state", "size", "down"] (spLine K)) (G_law_drawn_tasks : Cal P w K mg base CX0 "_law_drawn_tasks" 3 ["state", "size"] (spDrawn K)) : FnOk P w K mg base CX0 7 f fd ["script"] (spLaw K) := by
  refine F.ok sc_law (fun vs H Q E h => len_law K h) (fun cdv A outer s H vs Q E hr h => ⟨t_law K, ?_, rd_law K vs H Q E h⟩)
  exact (pss_cons (ps_set (i := 1) sc_law.nd rfl (Or.inl rfl) (pe_cal G_law_start (hr.mono (by decide)) pass0 (pa_cons (pv 0) pa_nil)))
  (pss_cons (ps_set (i := 2) sc_law.nd rfl (Or.inl rfl) (pe_cal G_law_draw (hr.mono (by decide)) pass0 (pa_cons (pv 1) (pa_cons pe_int pa_nil))))
  (pss_cons (ps_set (i := 3) sc_law.nd rfl (Or.inl rfl) (pe_op op_subA pe_int (pe_cal G_law_draw (hr.mono (by decide)) pass0 (pa_cons (pv 1) (pa_cons pe_int pa_nil)))))
  (pss_consC (ps_if (pt_cmpR op_gtA (pv 2) pe_int (nomark _)) (pss_one (ps_set (i := 4) sc_law.nd rfl (Or.inl rfl) (pe_cal G_law_line_of_tasks (hr.mono (by decide)) pass0 (pa_cons (pv 1) (pa_cons (pe_op op_addA (pv 3) pe_int) (pa_cons (pe_cmpR (op_eqA hr.units) (pv 2) pe_int (nomark _)) pa_nil)))))) (pss_one (ps_set (i := 4) sc_law.nd rfl (Or.inl rfl) (pe_cal G_law_drawn_tasks (hr.mono (by decide)) pass0 (pa_cons (pv 1) (pa_cons (pv 3) pa_nil))))))
  (pss_cons (ps_set (i := 5) sc_law.nd rfl (Or.inl rfl) (pe_lst (pa_cons (pe_callTy call_listA (by rfl) T.b_list (by decide +kernel) (pa_cons (pe_ix ix_seq (pv 4) pe_int (fun _ _ => rfl)) pa_nil)) (pa_cons (pe_lc (own := [("targets", 9)]) (g := gName 9) (tt := tYes) (te := (tCB (rListOf K) (tCons (tVar 9) tNil))) rfl sc_law.nd (pi_any (pe_ix ix_seq (pv 4) pe_int (fun _ _ => rfl))) (blkOk_by (N := ["script", "state", "shape", "size", "kept", "given", "place", "phases", "handed", "targets"]) (sc := defScope S_law) (by decide +kernel)) (fun _ _ _ _ _ => pg_name (i := 9) sc_law.nd rfl (Or.inl rfl)) (fun _ _ _ _ _ => pts_nil) (fun _ _ _ _ _ => (pe_callTy call_listA (by rfl) T.b_list (by decide +kernel) (pa_cons (pv 9) pa_nil)))) (pa_cons (pe_callTy call_listA (by rfl) T.b_list (by decide +kernel) (pa_cons (pe_ix ix_seq (pv 4) pe_int (fun _ _ => rfl)) pa_nil)) pa_nil)))))
  (pss_cons (ps_if (pt_not (pt_tru (pe_cal G_law_asked (hr.mono (by decide)) pass0 (pa_cons (pv 5) (pa_cons (pv 4) pa_nil))))) (pss_one (ps_ret pe_bl)) pss_nil)
  (pss_consC (ps_if (pt_cmpR op_gtA (pe_callB call_lenA (by rfl) T.b_len (by decide +kernel) (pa_cons (pe_ix ix_seq (pv 4) pe_int (fun _ _ => rfl)) pa_nil)) pe_int (nomark _)) (pss_cons (ps_set (i := 6) sc_law.nd rfl (Or.inl rfl) (pe_cal G_law_draw (hr.mono (by decide)) pass0 (pa_cons (pv 1) (pa_cons (pe_callB call_lenA (by rfl) T.b_len (by decide +kernel) (pa_cons (pe_ix ix_seq (pv 4) pe_int (fun _ _ => rfl)) pa_nil)) pa_nil))))
  (pss_cons (ps_set (i := 7) sc_law.nd rfl (Or.inl rfl) (pe_ix ix_seq (pv 4) pe_int (fun _ _ => rfl)))
  (pss_cons (ps_set (i := 8) sc_law.nd rfl (Or.inl rfl) (pe_ix ix_seq (pv 5) pe_int (fun _ _ => rfl)))
  (pss_cons (ps_asg pe_str (pg_sub (pv 7) (pv 6) set_list))
  (pss_one (ps_asg pe_str (pg_sub (pv 8) (pv 6) set_list))))))) pss_nil)
  (pss_one (ps_ret (pe_cal G_law_asked (hr.mono (by decide)) pass0 (pa_cons (pv 5) (pa_cons (pv 4) pa_nil))))))))))))
end
theorem all_mk {l : PySem.W.OpenLaw} {w : World} {K : PySem.W.Frag} {h : Heap} {mg : Str → Option Value} {fa f0 f1 f2 f3 f4 f5 f6 f7 f8 f9 f10 f11 f12 f13 : Addr} (X : K.In h) (G : h.Ns mainGlobals mg) (hfa : mg "law" = some (.ref fa))
    {od0 an0 od1 an1 od2 an2 od3 an3 od4 an4 od5 an5 od6 an6 od7 an7 od8 an8 od9 an9 od10 an10 od11 an11 od12 an12 od13 an13 : Option Addr} {sl0 sl1 sl2 sl3 sl4 sl5 sl6 sl7 sl8 sl9 sl10 sl11 sl12 sl13 : Array (Option Value)} {oc0 kV0 dc0 pm0 cd0 ct0 oc1 kV1 dc1 pm1 cd1 ct1 oc2 kV2 dc2 pm2 cd2 ct2 oc3 kV3 dc3 pm3 cd3 ct3 oc4 kV4 dc4 pm4 cd4 ct4 oc5 kV5 dc5 pm5 cd5 ct5 oc6 kV6 dc6 pm6 cd6 ct6 oc7 kV7 dc7 pm7 cd7 ct7 oc8 kV8 dc8 pm8 cd8 ct8 oc9 kV9 dc9 pm9 cd9 ct9 oc10 kV10 dc10 pm10 cd10 ct10 oc11 kV11 dc11 pm11 cd11 ct11 oc12 kV12 dc12 pm12 cd12 ct12 oc13 kV13 dc13 pm13 cd13 ct13 : Value}
    (a0 : PySem.W.nsIn K mainGlobals "_law_start" = some (some (.ref f0))) (l0 : K.lookup f0 = some ⟨oc0, od0, .func (PySem.W.fnOf "_law_start" "_law_start" (defArgs S_law_start) (defBody S_law_start) (defScope S_law_start) .none kV0 dc0 pm0 an0 cd0 ct0), sl0⟩) (c0 : PySem.W.codeIn K cd0 "_law_start" = true) (k0 : PySem.W.keepIn K (.ref f0) = true)
    (a1 : PySem.W.nsIn K mainGlobals "_law_draw" = some (some (.ref f1))) (l1 : K.lookup f1 = some ⟨oc1, od1, .func (PySem.W.fnOf "_law_draw" "_law_draw" (defArgs S_law_draw) (defBody S_law_draw) (defScope S_law_draw) .none kV1 dc1 pm1 an1 cd1 ct1), sl1⟩) (c1 : PySem.W.codeIn K cd1 "_law_draw" = true) (k1 : PySem.W.keepIn K (.ref f1) = true)
    (a2 : PySem.W.nsIn K mainGlobals "is_over" = some (some (.ref f2))) (l2 : K.lookup f2 = some ⟨oc2, od2, .func (PySem.W.fnOf "is_over" "is_over" (defArgs S_is_over) (defBody S_is_over) (defScope S_is_over) .none kV2 dc2 pm2 an2 cd2 ct2), sl2⟩) (c2 : PySem.W.codeIn K cd2 "is_over" = true) (k2 : PySem.W.keepIn K (.ref f2) = true)
    (a3 : PySem.W.nsIn K mainGlobals "stuck_tasks" = some (some (.ref f3))) (l3 : K.lookup f3 = some ⟨oc3, od3, .func (PySem.W.fnOf "stuck_tasks" "stuck_tasks" (defArgs S_stuck_tasks) (defBody S_stuck_tasks) (defScope S_stuck_tasks) .none kV3 dc3 pm3 an3 cd3 ct3), sl3⟩) (c3 : PySem.W.codeIn K cd3 "stuck_tasks" = true) (k3 : PySem.W.keepIn K (.ref f3) = true)
    (a4 : PySem.W.nsIn K mainGlobals "_law_rightly_stuck" = some (some (.ref f4))) (l4 : K.lookup f4 = some ⟨oc4, od4, .func (PySem.W.fnOf "_law_rightly_stuck" "_law_rightly_stuck" (defArgs S_law_rightly_stuck) (defBody S_law_rightly_stuck) (defScope S_law_rightly_stuck) .none kV4 dc4 pm4 an4 cd4 ct4), sl4⟩) (c4 : PySem.W.codeIn K cd4 "_law_rightly_stuck" = true) (k4 : PySem.W.keepIn K (.ref f4) = true)
    (a5 : PySem.W.nsIn K mainGlobals "_law_is_number" = some (some (.ref f5))) (l5 : K.lookup f5 = some ⟨oc5, od5, .func (PySem.W.fnOf "_law_is_number" "_law_is_number" (defArgs S_law_is_number) (defBody S_law_is_number) (defScope S_law_is_number) .none kV5 dc5 pm5 an5 cd5 ct5), sl5⟩) (c5 : PySem.W.codeIn K cd5 "_law_is_number" = true) (k5 : PySem.W.keepIn K (.ref f5) = true)
    (a6 : PySem.W.nsIn K mainGlobals "_law_freed" = some (some (.ref f6))) (l6 : K.lookup f6 = some ⟨oc6, od6, .func (PySem.W.fnOf "_law_freed" "_law_freed" (defArgs S_law_freed) (defBody S_law_freed) (defScope S_law_freed) .none kV6 dc6 pm6 an6 cd6 ct6), sl6⟩) (c6 : PySem.W.codeIn K cd6 "_law_freed" = true) (k6 : PySem.W.keepIn K (.ref f6) = true)
    (a7 : PySem.W.nsIn K mainGlobals "_law_answered" = some (some (.ref f7))) (l7 : K.lookup f7 = some ⟨oc7, od7, .func (PySem.W.fnOf "_law_answered" "_law_answered" (defArgs S_law_answered) (defBody S_law_answered) (defScope S_law_answered) .none kV7 dc7 pm7 an7 cd7 ct7), sl7⟩) (c7 : PySem.W.codeIn K cd7 "_law_answered" = true) (k7 : PySem.W.keepIn K (.ref f7) = true)
    (a8 : PySem.W.nsIn K mainGlobals "_law_same" = some (some (.ref f8))) (l8 : K.lookup f8 = some ⟨oc8, od8, .func (PySem.W.fnOf "_law_same" "_law_same" (defArgs S_law_same) (defBody S_law_same) (defScope S_law_same) .none kV8 dc8 pm8 an8 cd8 ct8), sl8⟩) (c8 : PySem.W.codeIn K cd8 "_law_same" = true) (k8 : PySem.W.keepIn K (.ref f8) = true)
    (a9 : PySem.W.nsIn K mainGlobals "_law_asked" = some (some (.ref f9))) (l9 : K.lookup f9 = some ⟨oc9, od9, .func (PySem.W.fnOf "_law_asked" "_law_asked" (defArgs S_law_asked) (defBody S_law_asked) (defScope S_law_asked) .none kV9 dc9 pm9 an9 cd9 ct9), sl9⟩) (c9 : PySem.W.codeIn K cd9 "_law_asked" = true) (k9 : PySem.W.keepIn K (.ref f9) = true)
    (a10 : PySem.W.nsIn K mainGlobals "_law_line_of_tasks" = some (some (.ref f10))) (l10 : K.lookup f10 = some ⟨oc10, od10, .func (PySem.W.fnOf "_law_line_of_tasks" "_law_line_of_tasks" (defArgs S_law_line_of_tasks) (defBody S_law_line_of_tasks) (defScope S_law_line_of_tasks) .none kV10 dc10 pm10 an10 cd10 ct10), sl10⟩) (c10 : PySem.W.codeIn K cd10 "_law_line_of_tasks" = true) (k10 : PySem.W.keepIn K (.ref f10) = true)
    (a11 : PySem.W.nsIn K mainGlobals "_law_some_targets" = some (some (.ref f11))) (l11 : K.lookup f11 = some ⟨oc11, od11, .func (PySem.W.fnOf "_law_some_targets" "_law_some_targets" (defArgs S_law_some_targets) (defBody S_law_some_targets) (defScope S_law_some_targets) .none kV11 dc11 pm11 an11 cd11 ct11), sl11⟩) (c11 : PySem.W.codeIn K cd11 "_law_some_targets" = true) (k11 : PySem.W.keepIn K (.ref f11) = true)
    (a12 : PySem.W.nsIn K mainGlobals "_law_drawn_tasks" = some (some (.ref f12))) (l12 : K.lookup f12 = some ⟨oc12, od12, .func (PySem.W.fnOf "_law_drawn_tasks" "_law_drawn_tasks" (defArgs S_law_drawn_tasks) (defBody S_law_drawn_tasks) (defScope S_law_drawn_tasks) .none kV12 dc12 pm12 an12 cd12 ct12), sl12⟩) (c12 : PySem.W.codeIn K cd12 "_law_drawn_tasks" = true) (k12 : PySem.W.keepIn K (.ref f12) = true)
    (a13 : PySem.W.nsIn K mainGlobals "law" = some (some (.ref f13))) (l13 : K.lookup f13 = some ⟨oc13, od13, .func (PySem.W.fnOf "law" "law" (defArgs S_law) (defBody S_law) (defScope S_law) .none kV13 dc13 pm13 an13 cd13 ct13), sl13⟩) (c13 : PySem.W.codeIn K cd13 "law" = true) (k13 : PySem.W.keepIn K (.ref f13) = true)
    (z_bool : PySem.W.nsIn K mainGlobals "bool" = some none)
    (z_int : PySem.W.nsIn K mainGlobals "int" = some none)
    (z_isinstance : PySem.W.nsIn K mainGlobals "isinstance" = some none)
    (z_len : PySem.W.nsIn K mainGlobals "len" = some none)
    (z_list : PySem.W.nsIn K mainGlobals "list" = some none)
    (z_max : PySem.W.nsIn K mainGlobals "max" = some none)
    (z_min : PySem.W.nsIn K mainGlobals "min" = some none)
    (z_range : PySem.W.nsIn K mainGlobals "range" = some none)
    (z_str : PySem.W.nsIn K mainGlobals "str" = some none)
    (z_tuple : PySem.W.nsIn K mainGlobals "tuple" = some none) :
    ∃ fd : FuncData, (∀ (s : Shared) (v : Value), BindsTo s fd ⟨[v], []⟩ [("script", v)]) ∧ ∀ base : Heap, K.In base → base.Ns mainGlobals mg → FnOk l.prog w K mg base CX0 7 fa fd ["script"] (spLaw K) := by
  have e := hfa.symm.trans (PySem.W.mg_of X G a13)
  cases e
  have T : Txt K mg := ⟨PySem.W.mg_none_of X G z_bool, PySem.W.mg_none_of X G z_int, PySem.W.mg_none_of X G z_isinstance, PySem.W.mg_none_of X G z_len, PySem.W.mg_none_of X G z_list, PySem.W.mg_none_of X G z_max, PySem.W.mg_none_of X G z_min, PySem.W.mg_none_of X G z_range, PySem.W.mg_none_of X G z_str, PySem.W.mg_none_of X G z_tuple⟩
  have F_law_start := fun_mk (st := S_law_start) l0 c0 k0
  have B_law_start := F_law_start.binds (ps := ["script"]) fun _ _ _ _ _ _ us hl => match us, hl with | [_], _ => rfl
  have F_law_draw := fun_mk (st := S_law_draw) l1 c1 k1
  have B_law_draw := F_law_draw.binds (ps := ["state", "many"]) fun _ _ _ _ _ _ us hl => match us, hl with | [_, _], _ => rfl
  have F_is_over := fun_mk (st := S_is_over) l2 c2 k2
  have B_is_over := F_is_over.binds (ps := ["targets", "any_of", "done"]) fun _ _ _ _ _ _ us hl => match us, hl with | [_, _, _], _ => rfl
  have F_stuck_tasks := fun_mk (st := S_stuck_tasks) l3 c3 k3
  have B_stuck_tasks := F_stuck_tasks.binds (ps := ["phases", "awaited", "modes"]) fun _ _ _ _ _ _ us hl => match us, hl with | [_, _, _], _ => rfl
  have F_law_rightly_stuck := fun_mk (st := S_law_rightly_stuck) l4 c4 k4
  have B_law_rightly_stuck := F_law_rightly_stuck.binds (ps := ["phases", "awaited", "modes", "actual"]) fun _ _ _ _ _ _ us hl => match us, hl with | [_, _, _, _], _ => rfl
  have F_law_is_number := fun_mk (st := S_law_is_number) l5 c5 k5
  have B_law_is_number := F_law_is_number.binds (ps := ["actual"]) fun _ _ _ _ _ _ us hl => match us, hl with | [_], _ => rfl
  have F_law_freed := fun_mk (st := S_law_freed) l6 c6 k6
  have B_law_freed := F_law_freed.binds (ps := ["targets", "mode", "hopeful"]) fun _ _ _ _ _ _ us hl => match us, hl with | [_, _, _], _ => rfl
  have F_law_answered := fun_mk (st := S_law_answered) l7 c7 k7
  have B_law_answered := F_law_answered.binds (ps := ["phases", "awaited", "modes", "actual"]) fun _ _ _ _ _ _ us hl => match us, hl with | [_, _, _, _], _ => rfl
  have F_law_same := fun_mk (st := S_law_same) l8 c8 k8
  have B_law_same := F_law_same.binds (ps := ["actual", "expected"]) fun _ _ _ _ _ _ us hl => match us, hl with | [_, _], _ => rfl
  have F_law_asked := fun_mk (st := S_law_asked) l9 c9 k9
  have B_law_asked := F_law_asked.binds (ps := ["given", "kept"]) fun _ _ _ _ _ _ us hl => match us, hl with | [_, _], _ => rfl
  have F_law_line_of_tasks := fun_mk (st := S_law_line_of_tasks) l10 c10 k10
  have B_law_line_of_tasks := F_law_line_of_tasks.binds (ps := ["state", "size", "down"]) fun _ _ _ _ _ _ us hl => match us, hl with | [_, _, _], _ => rfl
  have F_law_some_targets := fun_mk (st := S_law_some_targets) l11 c11 k11
  have B_law_some_targets := F_law_some_targets.binds (ps := ["state", "size", "least"]) fun _ _ _ _ _ _ us hl => match us, hl with | [_, _, _], _ => rfl
  have F_law_drawn_tasks := fun_mk (st := S_law_drawn_tasks) l12 c12 k12
  have B_law_drawn_tasks := F_law_drawn_tasks.binds (ps := ["state", "size"]) fun _ _ _ _ _ _ us hl => match us, hl with | [_, _], _ => rfl
  have F_law := fun_mk (st := S_law) l13 c13 k13
  have B_law := F_law.binds (ps := ["script"]) fun _ _ _ _ _ _ us hl => match us, hl with | [_], _ => rfl
  refine ⟨PySem.W.fnOf "law" "law" (defArgs S_law) (defBody S_law) (defScope S_law) .none kV13 dc13 pm13 an13 cd13 ct13, fun s v => .of_eq rfl, fun base _ _ => ?_⟩
  have G_law_start : Cal l.prog w K mg base CX0 "_law_start" 1 ["script"] (spStart K) := ⟨_, _, ok_law_start F_law_start T , PySem.W.mg_of X G a0, F_law_start.kp, B_law_start⟩
  have G_law_draw : Cal l.prog w K mg base CX0 "_law_draw" 1 ["state", "many"] (spDraw) := ⟨_, _, ok_law_draw F_law_draw T , PySem.W.mg_of X G a1, F_law_draw.kp, B_law_draw⟩
  have G_is_over : Cal l.prog w K mg base CX0 "is_over" 1 ["targets", "any_of", "done"] (spOver K) := ⟨_, _, ok_is_over F_is_over T , PySem.W.mg_of X G a2, F_is_over.kp, B_is_over⟩
  have G_stuck_tasks : Cal l.prog w K mg base CX0 "stuck_tasks" 2 ["phases", "awaited", "modes"] (spStuck K) := ⟨_, _, ok_stuck_tasks F_stuck_tasks T G_is_over, PySem.W.mg_of X G a3, F_stuck_tasks.kp, B_stuck_tasks⟩
  have G_law_rightly_stuck : Cal l.prog w K mg base CX0 "_law_rightly_stuck" 1 ["phases", "awaited", "modes", "actual"] (spRight K) := ⟨_, _, ok_law_rightly_stuck F_law_rightly_stuck T , PySem.W.mg_of X G a4, F_law_rightly_stuck.kp, B_law_rightly_stuck⟩
  have G_law_is_number : Cal l.prog w K mg base CX0 "_law_is_number" 1 ["actual"] (spIsNum) := ⟨_, _, ok_law_is_number F_law_is_number T , PySem.W.mg_of X G a5, F_law_is_number.kp, B_law_is_number⟩
  have G_law_freed : Cal l.prog w K mg base CX0 "_law_freed" 1 ["targets", "mode", "hopeful"] (spFreed K) := ⟨_, _, ok_law_freed F_law_freed T , PySem.W.mg_of X G a6, F_law_freed.kp, B_law_freed⟩
  have G_law_answered : Cal l.prog w K mg base CX0 "_law_answered" 2 ["phases", "awaited", "modes", "actual"] (spAnswered K) := ⟨_, _, ok_law_answered F_law_answered T G_law_rightly_stuck G_law_is_number G_law_freed, PySem.W.mg_of X G a7, F_law_answered.kp, B_law_answered⟩
  have G_law_same : Cal l.prog w K mg base CX0 "_law_same" 5 ["actual", "expected"] (spSame K 3) := ⟨_, _, ok_law_same F_law_same T (PySem.W.mg_of X G a8) B_law_same G_law_is_number 3, PySem.W.mg_of X G a8, F_law_same.kp, B_law_same⟩
  have G_law_asked : Cal l.prog w K mg base CX0 "_law_asked" 6 ["given", "kept"] (spAsked K) := ⟨_, _, ok_law_asked F_law_asked T G_stuck_tasks G_law_answered G_law_same, PySem.W.mg_of X G a9, F_law_asked.kp, B_law_asked⟩
  have G_law_line_of_tasks : Cal l.prog w K mg base CX0 "_law_line_of_tasks" 2 ["state", "size", "down"] (spLine K) := ⟨_, _, ok_law_line_of_tasks F_law_line_of_tasks T G_law_draw, PySem.W.mg_of X G a10, F_law_line_of_tasks.kp, B_law_line_of_tasks⟩
  have G_law_some_targets : Cal l.prog w K mg base CX0 "_law_some_targets" 2 ["state", "size", "least"] (spSome K) := ⟨_, _, ok_law_some_targets F_law_some_targets T G_law_draw, PySem.W.mg_of X G a11, F_law_some_targets.kp, B_law_some_targets⟩
  have G_law_drawn_tasks : Cal l.prog w K mg base CX0 "_law_drawn_tasks" 3 ["state", "size"] (spDrawn K) := ⟨_, _, ok_law_drawn_tasks F_law_drawn_tasks T G_law_draw G_law_some_targets, PySem.W.mg_of X G a12, F_law_drawn_tasks.kp, B_law_drawn_tasks⟩
  exact ok_law F_law T G_law_start G_law_draw G_law_asked G_law_line_of_tasks G_law_drawn_tasks
theorem walk {l : PySem.W.OpenLaw} {q : Program} {loose : List Str} {XP : (Str → Option Value) → Heap → Prop} {YP : World → Heap → Prop} {d : DefRec} {K : Params → PySem.W.Frag} (hn : l.most = some 63) (hdf : d.params.defaults = [])
    (hY : ∀ (w : World) (h : Heap), YP w h → (K w.params).In h)
    (F : ∀ (w : World) (mg : Str → Option Value) (fa : Addr) (h : Heap), (K w.params).In h → h.Ns mainGlobals mg → mg d.name = some (.ref fa) →
      ∃ fd : FuncData, (∀ (s : Shared) (u : Value), BindsTo s fd ⟨[u], []⟩ [("script", u)]) ∧ ∀ base : Heap, (K w.params).In base → base.Ns mainGlobals mg → FnOk l.prog w (K w.params) mg base CX0 7 fa fd ["script"] (spLaw (K w.params))) :
    PySem.W.WalkO q loose XP YP l.row.toRowW d [] (fun f vs => PySem.call f vs) :=
  L2.walk_of (n := 63) (k := 7) (x := "script") (CX := fun _ => CX0) (sp := fun w => spLaw (K w.params)) hn (by decide) hdf ⟨rfl, by decide, by decide⟩ hY F (fun _ _ a ns hl _ hS => ⟨a, ns, rfl, hS, hl, fun _ => rfl⟩) fun _ _ _ _ _ z => z
end K48
open PySem PySem.W PyProof.Rows
set_option maxRecDepth 100000 in
set_option maxHeartbeats 0 in
theorem PySem.Challenge.cw_promisesowned_k48_stuck_by_phases_holds : PySem.Challenge.rw_promisesowned_k48_stuck_by_phases.Holds := by
  w_on; o_law; k_head; (case hw => w_witness2)
  k_fill
  refine K48.walk (l := PySem.Challenge.rw_promisesowned_k48_stuck_by_phases) rfl rfl (fun w h Y => PySem.W.kIn_of Y) ?F
  case F =>
    intro w mg fa h KX G hmg
    refine' K48.all_mk KX G hmg ?a0 ?l0 ?c0 ?k0 ?a1 ?l1 ?c1 ?k1 ?a2 ?l2 ?c2 ?k2 ?a3 ?l3 ?c3 ?k3 ?a4 ?l4 ?c4 ?k4 ?a5 ?l5 ?c5 ?k5 ?a6 ?l6 ?c6 ?k6 ?a7 ?l7 ?c7 ?k7 ?a8 ?l8 ?c8 ?k8 ?a9 ?l9 ?c9 ?k9 ?a10 ?l10 ?c10 ?k10 ?a11 ?l11 ?c11 ?k11 ?a12 ?l12 ?c12 ?k12 ?a13 ?l13 ?c13 ?k13 ?z_bool ?z_int ?z_isinstance ?z_len ?z_list ?z_max ?z_min ?z_range ?z_str ?z_tuple
    (case a0 => k_is)
    (case l0 => k_is)
    (case c0 => k_is)
    (case k0 => k_is)
    (case a1 => k_is)
    (case l1 => k_is)
    (case c1 => k_is)
    (case k1 => k_is)
    (case a2 => k_is)
    (case l2 => k_is)
    (case c2 => k_is)
    (case k2 => k_is)
    (case a3 => k_is)
    (case l3 => k_is)
    (case c3 => k_is)
    (case k3 => k_is)
    (case a4 => k_is)
    (case l4 => k_is)
    (case c4 => k_is)
    (case k4 => k_is)
    (case a5 => k_is)
    (case l5 => k_is)
    (case c5 => k_is)
    (case k5 => k_is)
    (case a6 => k_is)
    (case l6 => k_is)
    (case c6 => k_is)
    (case k6 => k_is)
    (case a7 => k_is)
    (case l7 => k_is)
    (case c7 => k_is)
    (case k7 => k_is)
    (case a8 => k_is)
    (case l8 => k_is)
    (case c8 => k_is)
    (case k8 => k_is)
    (case a9 => k_is)
    (case l9 => k_is)
    (case c9 => k_is)
    (case k9 => k_is)
    (case a10 => k_is)
    (case l10 => k_is)
    (case c10 => k_is)
    (case k10 => k_is)
    (case a11 => k_is)
    (case l11 => k_is)
    (case c11 => k_is)
    (case k11 => k_is)
    (case a12 => k_is)
    (case l12 => k_is)
    (case c12 => k_is)
    (case k12 => k_is)
    (case a13 => k_is)
    (case l13 => k_is)
    (case c13 => k_is)
    (case k13 => k_is)
    (case z_bool => k_is)
    (case z_int => k_is)
    (case z_isinstance => k_is)
    (case z_len => k_is)
    (case z_list => k_is)
    (case z_max => k_is)
    (case z_min => k_is)
    (case z_range => k_is)
    (case z_str => k_is)
    (case z_tuple => k_is)
#print axioms PySem.Challenge.cw_promisesowned_k48_stuck_by_phases_holds
