import PyProof.Rows.All
import Wide.All
import OpenK.AllK
import Wide.FinOn
import HandS.ForMost
import HandS.IsInst
import HandS.Wide
import KE.KExcSuper
import HandS.ForExc
import HandS.ExcInit
import HandS.ExcField
import HandS.ExcIs
import HandS.TryOnly
import HandS.ExcOwn
import HandS.ExcCtx
import HandS.HotCalls
import HandS.Conv
import HandS.Text
import KE.IntTextLaws
import KE.KxLen
import HandS.Property
import HandS.More
import HandS.Strs
import HandS.ClsMeth
import HandS.SlotsOwn
import HandS.TupAny
import HandS.Flow
import HandS.FStr
import HandS.Star
import HandS.Iter
import HandS.Walk
import KE.GoesRaise
import HandS.WrittenGet
import PyProof.InstNe
import HandS.Replace
import HandS.ReplaceLit
import KE.KOpsOwn
import HandS.IterVal
import HandS.OwnIter
import PyProof.CollectWalk
import HandS.Small
import HandS.DictComp
import HandS.DictTup
import HandS.Deep
import HandS.TupLe
import HandS.HeadEnd
import HandS.HeadHook1
import HandS.HeadHook2
import HandS.HeadHook3
import HandS.Head2
import HandS.EndTab
import PySem.Challenge.RW_promisesowned_k17_rules_by_what_they_let
set_option Elab.async false
set_option linter.all false
set_option maxRecDepth 100000
set_option maxHeartbeats 4000000
/-! Rd: relations that do not ask for a type ahead, and steps of a reading. -/
namespace Rd
open PySem PySem.Spec PyProof.Rows L2
section
variable {X : Cx}
/-! ### operators whatever the values are -/
def rAddI : R2 := rI0 fun i j => .int (i + j)
def rAddS : R2 := fun x y H Q => ∃ i j, x = .str i ∧ y = .str j ∧ i.length + j.length ≤ sizeLine ∧ Q (.str (i ++ j)) H
def rAddA (K : PySem.W.Frag) : R2 := fun x y H Q => rAddI x y H Q ∨ (rAddS x y H Q ∨ (rCat x y H Q ∨ rCatT K x y H Q))
theorem op_addA : OpR X (binaryOp .Add) (rAddA X.K) := op_add.or (op_add_str.or (op_cat.or op_catT))
def rSubI : R2 := rI0 fun i j => .int (i - j)
theorem op_subA : OpR X (binaryOp .Sub) rSubI := op_sub
def rMulI : R2 := rI CMul fun i j => .int (i * j)
def rMulA : R2 := fun x y H Q => rMulI x y H Q ∨ rRep x y H Q
theorem op_mulA : OpR X (binaryOp .Mult) rMulA := op_mul.or op_rep
def rDivI : R2 := rI CDivW fun i j => .int (i / j)
theorem op_divA : OpR X (binaryOp .FloorDiv) rDivI := op_fdivW
def rModI : R2 := rI (fun _ j => 0 < j) fun i j => .int (i % j)
theorem op_modA : OpR X (binaryOp .Mod) rModI := op_mod
def rPowI : R2 := rI CPow fun i j => .int (i ^ j.toNat)
theorem op_powA : OpR X (binaryOp .Pow) rPowI := op_pow
def rNegI : V → Hp → VK → Prop := rU fun i => .int (-i)
theorem un_negA : UnR X (unaryOp .USub) rNegI := un_neg
def rIAddA (K : PySem.W.Frag) : R2 := fun x y H Q => rAddI x y H Q ∨ rAddS x y H Q
theorem iop_addA : OpR X (inplaceOp .Add) (rIAddA X.K) := iop_add.or iop_add_str
theorem iop_subA : OpR X (inplaceOp .Sub) rSubI := iop_sub
theorem ip_addA : PIp X .Add (rIAddA X.K) := fun pins s σ H x y v u Q I rx ry h => augR iop_addA I rx ry h
theorem ip_subA : PIp X .Sub rSubI := fun pins s σ H x y v u Q I rx ry h => augR iop_subA I rx ry h
/-! ### comparisons -/
def rLtI : R2 := rI0 fun i j => .bl (decide (i < j))
def rLeI : R2 := rI0 fun i j => .bl (decide (i ≤ j))
def rGtI : R2 := rI0 fun i j => .bl (decide (j < i))
def rGeI : R2 := rI0 fun i j => .bl (decide (j ≤ i))
theorem op_ltA : OpR X (compareOp .Lt) rLtI := op_lt
theorem op_leA : OpR X (compareOp .LtE) rLeI := op_le
theorem op_gtA : OpR X (compareOp .Gt) rGtI := op_gt
theorem op_geA : OpR X (compareOp .GtE) rGeI := op_ge
def rEqA (K : PySem.W.Frag) : R2 := fun x y H Q => rEq x y H Q ∨ rEqD K x y H Q
def rNeA (K : PySem.W.Frag) : R2 := fun x y H Q => rNe x y H Q ∨ rNeD K x y H Q
theorem op_eqA (hu : X.A.units + 64 < cLine) : OpR X (compareOp .Eq) (rEqA X.K) := op_eq.or (op_eqD hu)
theorem op_neA (hu : X.A.units + 64 < cLine) : OpR X (compareOp .NotEq) (rNeA X.K) := op_ne.or (op_neD hu)
def rInS : R2 := fun x y H Q => ∃ i j, x = .str i ∧ y = .str j ∧ Q (.bl (!(Builtin.Str.occurrences j i 0 j.length 1).isEmpty)) H
def rNotInS : R2 := fun x y H Q => ∃ i j, x = .str i ∧ y = .str j ∧ Q (.bl (!(!(Builtin.Str.occurrences j i 0 j.length 1).isEmpty))) H
def rInA (K : PySem.W.Frag) : R2 := fun x y H Q => rIn K false x y H Q ∨ rInS x y H Q
def rNotInA (K : PySem.W.Frag) : R2 := fun x y H Q => rIn K true x y H Q ∨ rNotInS x y H Q
theorem op_inA : OpR X (compareOp .In) (rInA X.K) := op_in_seq.or op_in_str
theorem op_notInA : OpR X (compareOp .NotIn) (rNotInA X.K) := op_notIn_seq.or op_notin_str
def rIsN : R2 := fun x y H Q => y = .non ∧ Q (.bl (decide (x = .non))) H
def rNotN : R2 := fun x y H Q => y = .non ∧ Q (.bl (!decide (x = .non))) H
theorem op_isNA : OpR X (compareOp .Is) rIsN := op_isN
theorem op_notNA : OpR X (compareOp .IsNot) rNotN := op_notN
/-! ### built-ins by name -/
def rLenK (K : PySem.W.Frag) : List V → Hp → VK → Prop := fun xs H Q => ∃ x n, xs = [x] ∧ LenV K x H n ∧ Q (.int n) H
theorem call_lenA : CallR X (.builtin "len") (rLenK X.K) := call_len
def rListOf (K : PySem.W.Frag) : List V → Hp → VK → Prop := fun xs H Q => ∃ p ys, xs = [.ref p] ∧ (SqL K H p ys ∨ SqT K H p ys) ∧ ∀ l, H l = none → Q (.ref l) (upd H l (.lst ys))
theorem call_listA : CallR X (.type "list") (rListOf X.K) := call_list_of
def rInt1 : List V → Hp → VK → Prop := fun xs H Q => (∃ i, xs = [.int i] ∧ Q (.int i) H) ∨ ∃ k, xs = [.bl k] ∧ Q (.int (if k then 1 else 0)) H
theorem call_intA : CallR X (.type "int") rInt1 := call_int1
def rStrI : List V → Hp → VK → Prop := fun xs H Q => ∃ i, xs = [.int i] ∧ i.natAbs.log2 < 1920 ∧ Q (.str (toString i)) H
theorem call_strA : CallR X (.type "str") rStrI := call_str_int
def rMin2 : List V → Hp → VK → Prop := fun xs H Q => ∃ i j, xs = [.int i, .int j] ∧ Q (.int (if j < i then j else i)) H
def rMax2 : List V → Hp → VK → Prop := fun xs H Q => ∃ i j, xs = [.int i, .int j] ∧ Q (.int (if j > i then j else i)) H
theorem call_minA (hc : X.calm = true) : CallR X (.builtin "min") rMin2 := call_min2 hc
theorem call_maxA (hc : X.calm = true) : CallR X (.builtin "max") rMax2 := call_max2 hc
theorem call_isA : CallR X (.builtin "isinstance") (rIsi X.K) := call_isi
/-! ### truth, slices, what is walked -/
def tTru (K : PySem.W.Frag) (ta : TE) : TT := fun σ H Q => ta σ H fun x H' => ∃ k, TruV K x H' k ∧ Q k H'
theorem pt_tru {a : Expr} {ta : TE} (ha : PE X a ta) (he : ∀ whole, isTrue a X.env whole = (do let v ← whole; standAt a.pos; holding [v] (truthy v)) := by intro _; rfl) : PT X a (tTru X.K ta) := pt_truth ha he
/-- what a for walks: a list, a tuple, a text -/
def Walk (K : PySem.W.Frag) (x : V) (H : Hp) (R : It → Hp → Prop) : Prop :=
  (∃ a, x = .ref a ∧ (∃ xs, SqL K H a xs) ∧ R (Itl K a) H) ∨ (∃ a, x = .ref a ∧ (∃ xs, SqT K H a xs) ∧ R (Itt K a) H) ∨ ∃ z, x = .str z ∧ R (Its z) H
def iAny (K : PySem.W.Frag) (tl : TE) : TI := fun σ H R => tl σ H fun x H1 => Walk K x H1 R
theorem pi_any {tg l : Expr} {tl : TE} (hl : PE X l tl) : PI X tg l (iAny X.K tl) := by
  refine ⟨fun pins s σ H R I h => thn (hl.run pins s σ H _ I h) fun v s1 ⟨x, H1, I1, r1, q1⟩ => ?_⟩
  have fp : ∀ {H' : Hp} {s' : Shared}, Inv X pins σ H' s' → ∀ b ∈ [s'.heap.objs.size], FpOk X pins H' b := fun I' b hb => by
    rw [List.mem_singleton.mp hb]
    exact I'.fpOk (Nat.le_refl _) (I'.hok.fresh (Nat.le_refl _))
  have keep : ∀ {ob b : _} {o : Obj}, s1.heap.get? b = some o → (s1.heap.push ob).get? b = some o := fun e => Heap.get?_push_of_some _ e
  rcases q1 with ⟨a, rfl, ⟨xs, hq⟩, q⟩ | ⟨a, rfl, ⟨xs, hq⟩, q⟩ | ⟨z, rfl, q⟩
  · cases r1
    obtain ⟨its, rv, p, hz⟩ := I1.list hq
    exact wpAny_pyIter_list p.isList ⟨_, [s1.heap.objs.size], _, _, H1, rfl, I1.kept (t' := s1.toks) fun b o e => keep e, turn_list a _, ⟨_, Heap.get?_push_size _ rfl, rfl, rfl⟩, fp I1, q⟩
  · cases r1
    obtain ⟨its, rv, p, hz⟩ := I1.tuple hq
    exact wpAny_pyIter_tuple (show s1.heap.IsTuple a its.toArray from p) ⟨_, [s1.heap.objs.size], _, _, H1, rfl, I1.kept (t' := s1.toks) fun b o e => keep e, turn_tuple a _, ⟨_, Heap.get?_push_size _ rfl, rfl, rfl⟩, fp I1, q⟩
  · obtain ⟨t, rfl⟩ := r1
    cases ha : z.cps.all (· < 128)
    · exact wpAny_pyIter_wide ha (pi_one (tk := s1.toks) I1 _ (turn_str _ z t "str_iterator" (.inr rfl)) ⟨_, Heap.get?_push_size _ rfl, rfl, rfl⟩ q)
    · exact wpAny_pyIter_ascii ha (pi_one (tk := s1.toks) I1 _ (turn_str _ z t "str_ascii_iterator" (.inl rfl)) ⟨_, Heap.get?_push_size _ rfl, rfl, rfl⟩ q)
/-! ### a def of the text, as its callers know it -/
structure Cal (P : Program) (w : World) (K : PySem.W.Frag) (mg : Str → Option Value) (base : Heap) (CX : CXT) (x : Str) (k : Nat) (ps : List Str) (sp : Sp) : Prop where
  ex : ∃ (f : Addr) (fd : FuncData), FnOk P w K mg base CX k f fd ps sp ∧ mg x = some (.ref f) ∧ PySem.W.keepIn K (.ref f) = true ∧ Binds K fd ps []
theorem Cal.mono {P : Program} {w : World} {K : PySem.W.Frag} {mg : Str → Option Value} {base : Heap} {CX : CXT} {x : Str} {j k : Nat} {ps : List Str} {sp : Sp} (c : Cal P w K mg base CX x j ps sp) (h : j ≤ k) : Cal P w K mg base CX x k ps sp := by
  obtain ⟨f, fd, a, b⟩ := c.ex
  exact ⟨f, fd, a.mono h, b⟩
theorem Cal.imp {P : Program} {w : World} {K : PySem.W.Frag} {mg : Str → Option Value} {base : Heap} {CX : CXT} {x : Str} {k : Nat} {ps : List Str} {sp sp' : Sp} (c : Cal P w K mg base CX x k ps sp)
    (h : ∀ vs H Q E, sp' vs H Q E → sp vs H Q E) : Cal P w K mg base CX x k ps sp' := by
  obtain ⟨f, fd, a, b⟩ := c.ex
  exact ⟨f, fd, a.imp h, b⟩
theorem pe_cal {CX : CXT} {E : XK} {x : Str} {k : Nat} {ps : List Str} {sp : Sp} {e : Expr} {es : List Expr} {t : TA} {p pos : Pos} (c : Cal X.prog X.w X.K X.mg X.base CX x k ps sp) (hr : Room k X.A) (hx : Passes CX X E) (ha : PA X (e :: es) t)
    (hg : Gl X x := by rfl) (hdb : (x == ("__debug__" : Str)) = false := by decide) (he : starEach (e :: es) X.env = (false, eval e X.env) :: starEach es X.env := by rfl) (hpl : (backTo pos (starEach es X.env)).any (·.1) = false := by rfl) :
    PE X (.Call (.Name x p) (e :: es) [] pos) (tCall sp [] E t) := by
  obtain ⟨f, fd, a, b, d, g⟩ := c.ex
  exact pe_call a hr hg b d g .nil hx ha hdb he hpl
theorem pe_cal0 {CX : CXT} {E : XK} {x : Str} {k : Nat} {ps : List Str} {sp : Sp} {p pos : Pos} (c : Cal X.prog X.w X.K X.mg X.base CX x k ps sp) (hr : Room k X.A) (hx : Passes CX X E)
    (hg : Gl X x := by rfl) (hdb : (x == ("__debug__" : Str)) = false := by decide) : PE X (.Call (.Name x p) [] [] pos) (tCall sp [] E tNil) := by
  obtain ⟨f, fd, a, b, d, g⟩ := c.ex
  exact pe_call0 a hr hg b d g .nil hx hdb
end
end Rd
namespace Rd
open PySem PySem.Spec PyProof.Rows L2
section
variable {K : PySem.W.Frag} {σ : L2.St} {H : Hp} {D : Ends} {Q : VK} {te ta tb tc : TE} {v x y : V} {i : Nat}
/-! ### steps -/
theorem rd_seq {t u : TS} (h : t { D with nx := u D } σ H) : tSeq t u D σ H := h
theorem rd_asg {g : TG} (h : te σ H fun x H1 => g x σ H1 D.nx) : tAsg te g D σ H := h
theorem rd_gName {R : L2.St → Hp → Prop} (h : R (σ.set i (some v)) H) : gName i v σ H R := h
theorem rd_gSub {to ti : TE} {t : TSet} {R : L2.St → Hp → Prop} (h : to σ H fun o H1 => ti σ H1 fun i H2 => t o i v H2 fun H3 => R σ H3) : gSub to ti t v σ H R := h
theorem rd_drop (h : te σ H fun _ H1 => D.nx σ H1) : tDrop te D σ H := h
theorem rd_ret (h : te σ H D.rt) : tRet te D σ H := h
theorem rd_retN (h : D.rt .non H) : tRetN D σ H := h
theorem rd_if {c : TT} {t u : TS} (h : c σ H fun b H1 => if b = true then t D σ H1 else u D σ H1) : tIfS c t u D σ H := h
theorem rd_next (h : D.nx σ H) : tNext D σ H := h
theorem rd_brk (h : D.bk σ H) : tBreak D σ H := h
theorem rd_cont (h : D.ct σ H) : tCont D σ H := h
theorem rd_par {a b : Nat} {t : TA} (h : t σ H fun vs H1 => ∃ v w, vs = [v, w] ∧ D.nx ((σ.set a (some v)).set b (some w)) H1) : tPar a b t D σ H := h
theorem rd_aug {ti : TIp} (hx : σ[i]? = some (some x)) (h : te σ H fun y H1 => ti x y H1 fun z H2 => D.nx (σ.set i (some z)) H2) : tAug i te ti D σ H := ⟨x, hx, h⟩
theorem rd_var (e : σ[i]? = some (some v)) (h : Q v H) : tVar i σ H Q := ⟨v, e, h⟩
theorem rd_c (h : Q v H) : tC v σ H Q := h
theorem rd_op {r : R2} (h : ta σ H fun x H1 => tb σ H1 fun y H2 => r x y H2 Q) : tOp r ta tb σ H Q := h
theorem rd_un {r : V → Hp → VK → Prop} (h : ta σ H fun x H1 => r x H1 Q) : tUn r ta σ H Q := h
theorem rd_test {R : Bool → Hp → Prop} (h : te σ H fun x H' => ∃ k, x = .bl k ∧ R k H') : tTest te σ H R := h
theorem rd_tru {R : Bool → Hp → Prop} (h : ta σ H fun x H' => ∃ k, TruV K x H' k ∧ R k H') : tTru K ta σ H R := h
theorem rd_nil {R : List V → Hp → Prop} (h : R [] H) : tNil σ H R := h
theorem rd_cons {t : TA} {R : List V → Hp → Prop} (h : ta σ H fun x H1 => t σ H1 fun xs H2 => R (x :: xs) H2) : tCons ta t σ H R := h
theorem rd_call {sp : Sp} {dvs : List V} {E : XK} {t : TA} (h : t σ H fun vs H1 => sp (vs ++ dvs) H1 Q E) : tCall sp dvs E t σ H Q := h
theorem rd_cb {r : List V → Hp → VK → Prop} {t : TA} (h : t σ H fun vs H1 => r vs H1 Q) : tCB r t σ H Q := h
theorem rd_and {t u : TT} {R : Bool → Hp → Prop} (h : t σ H fun c H1 => if c = true then u σ H1 R else R false H1) : tAnd t u σ H R := h
theorem rd_or {t u : TT} {R : Bool → Hp → Prop} (h : t σ H fun c H1 => if c = true then R true H1 else u σ H1 R) : tOr t u σ H R := h
theorem rd_not {t : TT} {R : Bool → Hp → Prop} (h : t σ H fun c H1 => R (!c) H1) : tNot t σ H R := h
theorem rd_andV (h : ta σ H fun x H1 => ∃ c, x = .bl c ∧ if c = true then tb σ H1 Q else Q (.bl false) H1) : tAndV ta tb σ H Q := h
theorem rd_orV (h : ta σ H fun x H1 => ∃ c, x = .bl c ∧ if c = true then Q (.bl true) H1 else tb σ H1 Q) : tOrV ta tb σ H Q := h
theorem rd_notV (h : ta σ H fun x H1 => ∃ c, x = .bl c ∧ Q (.bl (!c)) H1) : tNotV ta σ H Q := h
theorem rd_ifE {t : TT} (h : t σ H fun c H1 => if c = true then ta σ H1 Q else tb σ H1 Q) : tIf t ta tb σ H Q := h
theorem rd_chain {r r' : R2} (h : ta σ H fun x H1 => tb σ H1 fun y H2 => r x y H2 fun z H3 => ∃ k, z = .bl k ∧ (if k = true then tc σ H3 fun w' H4 => r' y w' H4 Q else Q (.bl false) H3)) : tChain r r' ta tb tc σ H Q := h
theorem rd_lst {t : TA} (h : t σ H fun xs H1 => xs.length ≤ sizeLine ∧ ∀ p, H1 p = none → Q (.ref p) (upd H1 p (.lst xs))) : tLst t σ H Q := h
theorem rd_tup {t : TA} (h : t σ H fun xs H1 => xs.length ≤ sizeLine ∧ ∀ p, H1 p = none → Q (.ref p) (upd H1 p (.tup xs))) : tTup t σ H Q := h
theorem rd_bm {T : String} {r : V → List V → Hp → VK → Prop} {to : TE} {t : TA} (h : to σ H fun x H1 => tyV K T x H1 ∧ t σ H1 fun xs H2 => r x xs H2 Q) : tBM K T r to t σ H Q := h
theorem rd_bm0 {T : String} {r : V → List V → Hp → VK → Prop} {to : TE} (h : to σ H fun x H1 => tyV K T x H1 ∧ r x [] H1 Q) : tBM0 K T r to σ H Q := h
/-! ### relations at values -/
theorem rd_addI {a b : Int} (h : Q (.int (a + b)) H) : rAddA K (.int a) (.int b) H Q := .inl ⟨a, b, rfl, rfl, h⟩
theorem rd_addS {a b : Str} (hl : a.length + b.length ≤ sizeLine) (h : Q (.str (a ++ b)) H) : rAddA K (.str a) (.str b) H Q := .inr (.inl ⟨a, b, rfl, rfl, hl, h⟩)
theorem rd_addL {p q : Addr} {xs ys : List V} (hp : H p = some (.lst xs)) (hq : H q = some (.lst ys)) (hl : xs.length + ys.length ≤ sizeLine) (h : ∀ r, H r = none → Q (.ref r) (upd H r (.lst (xs ++ ys)))) : rAddA K (.ref p) (.ref q) H Q := .inr (.inr (.inl ⟨p, q, xs, ys, rfl, rfl, hp, hq, hl, h⟩))
theorem rd_iaddI {a b : Int} (h : Q (.int (a + b)) H) : rIAddA K (.int a) (.int b) H Q := .inl ⟨a, b, rfl, rfl, h⟩
theorem rd_iaddS {a b : Str} (hl : a.length + b.length ≤ sizeLine) (h : Q (.str (a ++ b)) H) : rIAddA K (.str a) (.str b) H Q := .inr ⟨a, b, rfl, rfl, hl, h⟩
theorem rd_sub {a b : Int} (h : Q (.int (a - b)) H) : rSubI (.int a) (.int b) H Q := ⟨a, b, rfl, rfl, h⟩
theorem rd_mulR {a b : Int} (hb : -(2 ^ 64) < b ∧ b < 2 ^ 64) (h : Q (.int (a * b)) H) : rMulA (.int a) (.int b) H Q := .inl ⟨a, b, rfl, rfl, .inr hb, h⟩
theorem rd_mulL {a b : Int} (hb : -(2 ^ 64) < a ∧ a < 2 ^ 64) (h : Q (.int (a * b)) H) : rMulA (.int a) (.int b) H Q := .inl ⟨a, b, rfl, rfl, .inl hb, h⟩
theorem rd_rep {p : Addr} {xs : List V} {k : Int} (hp : H p = some (.lst xs)) (h1 : -(2 ^ 63) ≤ k) (h2 : k < 2 ^ 63) (hl : xs.length * k.toNat ≤ sizeLine) (h : ∀ r, H r = none → Q (.ref r) (upd H r (.lst (List.replicate k.toNat xs).flatten))) : rMulA (.ref p) (.int k) H Q := .inr ⟨p, k, xs, rfl, rfl, hp, h1, h2, hl, h⟩
theorem rd_div {a b : Int} (hb : 0 < b ∧ b < 1000000000000000000) (h : Q (.int (a / b)) H) : rDivI (.int a) (.int b) H Q := ⟨a, b, rfl, rfl, wide_div (b := 62) hb.1 (by omega) (by omega) (by omega), h⟩
theorem rd_mod {a b : Int} (hb : 0 < b) (h : Q (.int (a % b)) H) : rModI (.int a) (.int b) H Q := ⟨a, b, rfl, rfl, hb, h⟩
theorem rd_pow {a b : Int} (hb : 0 ≤ b ∧ b ≤ 1000000 ∧ a.natAbs < 2 ^ 64) (h : Q (.int (a ^ b.toNat)) H) : rPowI (.int a) (.int b) H Q := ⟨a, b, rfl, rfl, hb, h⟩
theorem rd_neg {a : Int} (h : Q (.int (-a)) H) : rNegI (.int a) H Q := ⟨a, rfl, h⟩
theorem rd_lt {a b : Int} (h : Q (.bl (decide (a < b))) H) : rLtI (.int a) (.int b) H Q := ⟨a, b, rfl, rfl, h⟩
theorem rd_le {a b : Int} (h : Q (.bl (decide (a ≤ b))) H) : rLeI (.int a) (.int b) H Q := ⟨a, b, rfl, rfl, h⟩
theorem rd_gt {a b : Int} (h : Q (.bl (decide (b < a))) H) : rGtI (.int a) (.int b) H Q := ⟨a, b, rfl, rfl, h⟩
theorem rd_ge {a b : Int} (h : Q (.bl (decide (b ≤ a))) H) : rGeI (.int a) (.int b) H Q := ⟨a, b, rfl, rfl, h⟩
theorem dI {a b : Int} : decide (V.int a = V.int b) = decide (a = b) := by rw [dec_int]; exact (Bool.beq_eq_decide_eq a b)
theorem dS {a b : Str} : decide (V.str a = V.str b) = decide (a = b) := by rw [dec_str]; exact (Bool.beq_eq_decide_eq a b)
theorem dB {a b : Bool} : decide (V.bl a = V.bl b) = decide (a = b) := by rw [dec_bl]; exact (Bool.beq_eq_decide_eq a b)
theorem rd_eqI {a b : Int} (h : Q (.bl (decide (a = b))) H) : rEqA K (.int a) (.int b) H Q := .inl ⟨rfl, by rw [dI]; exact h⟩
theorem rd_eqS {a b : Str} (h : Q (.bl (decide (a = b))) H) : rEqA K (.str a) (.str b) H Q := .inl ⟨rfl, by rw [dS]; exact h⟩
theorem rd_eqB {a b : Bool} (h : Q (.bl (decide (a = b))) H) : rEqA K (.bl a) (.bl b) H Q := .inl ⟨rfl, by rw [dB]; exact h⟩
theorem rd_neI {a b : Int} (h : Q (.bl (!decide (a = b))) H) : rNeA K (.int a) (.int b) H Q := .inl ⟨rfl, by rw [dI]; exact h⟩
theorem rd_neS {a b : Str} (h : Q (.bl (!decide (a = b))) H) : rNeA K (.str a) (.str b) H Q := .inl ⟨rfl, by rw [dS]; exact h⟩
theorem rd_neB {a b : Bool} (h : Q (.bl (!decide (a = b))) H) : rNeA K (.bl a) (.bl b) H Q := .inl ⟨rfl, by rw [dB]; exact h⟩
theorem rd_eqD {d e : PyData} (hd : Dp K H x d) (he : Dp K H y e) (sd : SeqAt.shaped d = true) (se : SeqAt.shaped e = true) (h : Q (.bl (PyData.eqv d e)) H) : rEqA K x y H Q := .inr ⟨d, e, hd, he, sd, se, h⟩
theorem rd_neD {d e : PyData} (hd : Dp K H x d) (he : Dp K H y e) (sd : SeqAt.shaped d = true) (se : SeqAt.shaped e = true) (h : Q (.bl (!PyData.eqv d e)) H) : rNeA K x y H Q := .inr ⟨d, e, hd, he, sd, se, h⟩
theorem rd_isN (h : Q (.bl (decide (x = .non))) H) : rIsN x .non H Q := ⟨rfl, h⟩
theorem rd_notN (h : Q (.bl (!decide (x = .non))) H) : rNotN x .non H Q := ⟨rfl, h⟩
theorem rd_ixL {p : Addr} {xs : List V} {k : Int} (hp : SqL K H p xs) (ha : atI xs k = some v) (h : Q v H) : rIx K (.ref p) (.int k) H Q := .inl ⟨p, xs, k, v, rfl, rfl, hp, ha, h⟩
theorem rd_ixT {p : Addr} {xs : List V} {k : Int} (hp : SqT K H p xs) (ha : atI xs k = some v) (h : Q v H) : rIx K (.ref p) (.int k) H Q := .inr (.inl ⟨p, xs, k, v, rfl, rfl, hp, ha, h⟩)
theorem rd_ixS {z : Str} {k : Int} {c : Nat} (hl : z.length ≤ sizeLine) (ha : atI z.cps.toList k = some c) (h : Q (.str ⟨#[c]⟩) H) : rIx K (.str z) (.int k) H Q := .inr (.inr ⟨z, k, c, rfl, rfl, hl, ha, h⟩)
theorem rd_setL {p : Addr} {xs : List V} {k : Int} {j : Nat} {R : Hp → Prop} (hp : H p = some (.lst xs)) (hj : ixN xs.length k = some j) (h : R (upd H p (.lst (xs.set j v)))) : rSetL (.ref p) (.int k) v H R := ⟨p, xs, k, j, rfl, rfl, hp, hj, h⟩
theorem rd_inL {p : Addr} {xs : List V} (hp : SqL K H p xs) (hx : flatV x = true) (ha : xs.all flatV = true) (h : Q (.bl (inV x xs)) H) : rInA K x (.ref p) H Q := .inl ⟨p, xs, rfl, .inl hp, hx, ha, h⟩
theorem rd_notInL {p : Addr} {xs : List V} (hp : SqL K H p xs) (hx : flatV x = true) (ha : xs.all flatV = true) (h : Q (.bl (!inV x xs)) H) : rNotInA K x (.ref p) H Q := .inl ⟨p, xs, rfl, .inl hp, hx, ha, h⟩
theorem rd_lenL {p : Addr} {xs : List V} (hp : SqL K H p xs) (h : Q (.int xs.length) H) : rLenK K [.ref p] H Q := ⟨_, xs.length, rfl, .inl ⟨xs, hp, rfl⟩, h⟩
theorem rd_lenT {p : Addr} {xs : List V} (hp : SqT K H p xs) (h : Q (.int xs.length) H) : rLenK K [.ref p] H Q := ⟨_, xs.length, rfl, .inr ⟨xs, hp, rfl⟩, h⟩
theorem rd_lenS {z : Str} (hl : z.length ≤ sizeLine) (h : Q (.int z.length) H) : rLenK K [.str z] H Q := ⟨_, z.length, rfl, ⟨hl, rfl⟩, h⟩
theorem rd_list {p : Addr} {xs : List V} (hp : SqL K H p xs) (h : ∀ l, H l = none → Q (.ref l) (upd H l (.lst xs))) : rListOf K [.ref p] H Q := ⟨p, xs, rfl, .inl hp, h⟩
theorem rd_listT {p : Addr} {xs : List V} (hp : SqT K H p xs) (h : ∀ l, H l = none → Q (.ref l) (upd H l (.lst xs))) : rListOf K [.ref p] H Q := ⟨p, xs, rfl, .inr hp, h⟩
theorem rd_int {a : Int} (h : Q (.int a) H) : rInt1 [.int a] H Q := .inl ⟨a, rfl, h⟩
theorem rd_strI {a : Int} (hl : a.natAbs.log2 < 1920) (h : Q (.str (toString a)) H) : rStrI [.int a] H Q := ⟨a, rfl, hl, h⟩
theorem rd_min {a b : Int} (h : Q (.int (if b < a then b else a)) H) : rMin2 [.int a, .int b] H Q := ⟨a, b, rfl, h⟩
theorem rd_max {a b : Int} (h : Q (.int (if b > a then b else a)) H) : rMax2 [.int a, .int b] H Q := ⟨a, b, rfl, h⟩
theorem rd_isi {n m : String} {b : Bool} (ht : TyX K H x (.type n)) (hb : kitB n m = some b) (h : Q (.bl b) H) : rIsi K [x, .ty m] H Q := ⟨x, .ty m, .type n, .type m, b, rfl, .ty m, ht, kit_ty hb, h⟩
theorem rd_append {p : Addr} {xs : List V} (hp : H p = some (.lst xs)) (hl : xs.length < sizeLine) (h : Q .non (upd H p (.lst (xs ++ [y])))) : rAppend (.ref p) [y] H Q := ⟨p, xs, y, rfl, rfl, hp, hl, h⟩
theorem rd_tyL {p : Addr} {xs : List V} {R : Prop} (hp : H p = some (.lst xs)) (h : R) : tyV K "list" (.ref p) H ∧ R := ⟨.inl ⟨rfl, _, .inl (.inl hp)⟩, h⟩
/-! ### truth -/
theorem rd_bl {b : Bool} {R : Bool → Prop} (h : R b) : ∃ k, V.bl b = .bl k ∧ R k := ⟨b, rfl, h⟩
theorem rd_truB {b : Bool} {R : Bool → Prop} (h : R b) : ∃ k, TruV K (.bl b) H k ∧ R k := ⟨b, rfl, h⟩
theorem rd_truL {p : Addr} {xs : List V} {R : Bool → Prop} (hp : SqL K H p xs) (h : R (!xs.isEmpty)) : ∃ k, TruV K (.ref p) H k ∧ R k := ⟨_, .inl ⟨xs, hp, rfl⟩, h⟩
theorem rd_iteT {c : Prop} [Decidable c] {A B : Prop} (hc : c) (h : A) : if decide c = true then A else B := by rw [decide_eq_true hc]; exact h
theorem rd_iteF {c : Prop} [Decidable c] {A B : Prop} (hc : ¬ c) (h : B) : if decide c = true then A else B := by rw [decide_eq_false hc]; exact h
theorem rd_ite {c : Prop} [Decidable c] {A B : Prop} (h1 : c → A) (h2 : ¬ c → B) : if decide c = true then A else B := by
  by_cases hc : c
  · exact rd_iteT hc (h1 hc)
  · exact rd_iteF hc (h2 hc)
theorem rd_niteT {c : Prop} [Decidable c] {A B : Prop} (hc : ¬ c) (h : A) : if (!decide c) = true then A else B := by rw [decide_eq_false hc]; exact h
theorem rd_niteF {c : Prop} [Decidable c] {A B : Prop} (hc : c) (h : B) : if (!decide c) = true then A else B := by rw [decide_eq_true hc]; exact h
theorem rd_nite {c : Prop} [Decidable c] {A B : Prop} (h1 : ¬ c → A) (h2 : c → B) : if (!decide c) = true then A else B := by
  by_cases hc : c
  · exact rd_niteF hc (h2 hc)
  · exact rd_niteT hc (h1 hc)
theorem rd_iteB {b : Bool} {A B : Prop} (h1 : b = true → A) (h2 : b = false → B) : if b = true then A else B := by
  cases b
  · exact h2 rfl
  · exact h1 rfl
theorem rd_niteB {b : Bool} {A B : Prop} (h1 : b = false → A) (h2 : b = true → B) : if (!b) = true then A else B := by
  cases b
  · exact h1 rfl
  · exact h2 rfl
theorem rd_ite1 {A B : Prop} (h : A) : if true = true then A else B := h
theorem rd_ite0 {A B : Prop} (h : B) : if false = true then A else B := h
/-! ### heaps -/
theorem same_new {p : Addr} {o : HO} (h : H p = none) : Same H (upd H p o) := fun b x e => by
  rw [upd_ne (ne_of_none e h)]
  exact e
theorem same_mut {H' : Hp} {p : Addr} {o : HO} (s : Same H H') (h : H p = none) : Same H (upd H' p o) := fun b x e => by
  rw [upd_ne (ne_of_none e h)]
  exact s b x e
theorem size_of {n : Nat} (h : n ≤ 16000000) : n ≤ sizeLine := Nat.le_trans h (by rw [sizeLine_eq]; decide)
theorem size_lt {n : Nat} (h : n < 16000000) : n < sizeLine := Nat.lt_of_lt_of_le h (by rw [sizeLine_eq]; decide)
end
end Rd
namespace Rd
open PySem PySem.Spec PyProof.Rows L2
/-! ### a statement and the rest, with or without a word between them -/
def tSeqC (t u : TS) : TS := fun D σ H => tSeq t u D σ H ∨ ∃ Mid : L2.St → Hp → Prop, t { D with nx := Mid } σ H ∧ ∀ σ' H', Mid σ' H' → u D σ' H'
theorem pss_consC {X : Cx} {st : Stmt} {rest : List Stmt} {t u : TS} (h1 : PS X st t) (h2 : PSs X rest u) : PSs X (st :: rest) (tSeqC t u) := by
  refine ⟨fun pins s σ H D I h => ?_⟩
  rcases h with h | ⟨Mid, hm, hu⟩
  · exact (pss_cons h1 h2).run pins s σ H D I h
  · refine wpAny_execs_cons (thn (h1.run pins s σ H { D with nx := Mid } I hm) fun f s1 q => ?_)
    cases f with
    | next =>
      obtain ⟨σ', H', I', q⟩ := q
      exact h2.run pins s1 σ' H' D I' (hu σ' H' q)
    | ret v => exact q
    | brk => exact q
    | cont => exact q
section
variable {D : Ends} {σ : L2.St} {H : Hp} {t u : TS}
theorem rd_go (h : t { D with nx := u D } σ H) : tSeqC t u D σ H := .inl h
theorem rd_cut (Mid : L2.St → Hp → Prop) (h : t { D with nx := Mid } σ H) (k : ∀ σ' H', Mid σ' H' → u D σ' H') : tSeqC t u D σ H := .inr ⟨Mid, h, k⟩
end
end Rd
namespace Rd
open PySem PySem.Spec PyProof.Rows L2
/-! ### all but some places stand -/
def But (l : List Addr) (H H' : Hp) : Prop := ∀ b o, b ∉ l → H b = some o → H' b = some o
section
variable {K : PySem.W.Frag} {l l' : List Addr} {H H1 H2 H' : Hp} {p b : Addr} {o u : HO} {xs : List V}
theorem But.refl (l : List Addr) (H : Hp) : But l H H := fun _ _ _ h => h
theorem But.trans (a : But l H H1) (b : But l H1 H2) : But l H H2 := fun c u n h => b c u n (a c u n h)
theorem But.sub (a : But l H H1) (h : ∀ x ∈ l, x ∈ l') : But l' H H1 := fun c u n e => a c u (fun z => n (h c z)) e
theorem But.of (s : Same H H') : But l H H' := fun c u _ h => s c u h
theorem But.same (s : But [] H H') : Same H H' := fun c u h => s c u (by simp) h
/-- what is changed stands in l -/
theorem But.set (a : But l H H') (h : p ∈ l) : But l H (upd H' p o) := fun c u n e => by
  rw [upd_ne (fun z => n (by rw [z]; exact h))]
  exact a c u n e
/-- what is new ahead -/
theorem But.new (a : But l H H') (h : H p = none) : But l H (upd H' p o) := fun c u n e => by
  rw [upd_ne (ne_of_none e h)]
  exact a c u n e
theorem But.thenS (a : But l H H1) (b : Same H1 H2) : But l H H2 := fun c u n h => b c u (a c u n h)
/-- a change of what stood in H1, new to H -/
theorem But.drop (a : But l H H1) (b : But (p :: l) H1 H2) (h : H p = none) : But l H H2 := fun c u n e =>
  b c u (fun z => (List.mem_cons.mp z).elim (fun q => absurd q (ne_of_none e h)) n) (a c u n e)
theorem But.here (a : But l H H') (n : b ∉ l) (h : H b = some o) : H' b = some o := a b o n h
theorem But.seq (a : But l H H') (n : b ∉ l) (h : SqL K H b xs) : SqL K H' b xs := by
  rcases h with (h | ⟨o, h⟩) | h
  · exact .inl (.inl (a _ _ n h))
  · exact .inl (.inr ⟨o, a _ _ n h⟩)
  · exact .inr h
theorem But.seqT (a : But l H H') (n : b ∉ l) (h : SqT K H b xs) : SqT K H' b xs := by
  rcases h with (h | ⟨o, h⟩) | h
  · exact .inl (.inl (a _ _ n h))
  · exact .inl (.inr ⟨o, a _ _ n h⟩)
  · exact .inr h
theorem Same.seqT (a : Same H H') (h : SqT K H b xs) : SqT K H' b xs := (But.of (l := []) a).seqT (by simp) h
theorem nil_off : b ∉ ([] : List Addr) := by simp
theorem cons_off (h : b ≠ p) (k : b ∉ l) : b ∉ p :: l := by simp [h, k]
theorem Same.here (s : Same H H') (h : H b = some o) : H' b = some o := s b o h
/-- what is free behind was free ahead -/
theorem But.free (a : But l H H') (n : b ∉ l) (h : H' b = none) : H b = none := by
  cases e : H b with
  | none => rfl
  | some u => rw [a b u n e] at h; cases h
end
end Rd
namespace Rd
open PySem PySem.Spec PyProof.Rows L2
section
variable {K : PySem.W.Frag} {D : Ends} {σ : L2.St} {H : Hp} {g : TG} {tb : TS} {xs : List V} {a : Addr}
end
end Rd
namespace Rd
open PySem PySem.Spec PyProof.Rows L2
section
variable {K : PySem.W.Frag} {σ : L2.St} {H : Hp} {xs : List V} {a : Addr}
theorem wipe1 (σ : L2.St) (j : Nat) (x : V) : wipe ((wipe σ [j]).set j (some x)) [j] = wipe σ [j] := by
  show (((σ.set j none).set j (some x)).set j none) = σ.set j none
  rw [List.set_set, List.set_set]
theorem take_end {α : Type} {l : List α} {i : Nat} {x : α} (h : l[i]? = some x) : l.take (i + 1) = l.take i ++ [x] := by
  obtain ⟨hi, e⟩ := List.getElem?_eq_some_iff.mp h
  rw [List.take_succ_eq_append_getElem hi, e]
/-! ### ints in lists -/
abbrev iv (t : Nat) : V := .int (t : Int)
theorem flat_iv (ys : List Nat) : (ys.map iv).all flatV = true := by simp [List.all_eq_true, flatV]
theorem in_iv (t : Nat) (ys : List Nat) : inV (iv t) (ys.map iv) = decide (t ∈ ys) := by
  unfold inV
  rw [List.any_map]
  rw [Bool.eq_iff_iff]
  simp only [Function.comp, eqV, List.any_eq_true, beq_iff_eq, decide_eq_true_eq]
  constructor
  · rintro ⟨x, h, e⟩
    have e' : x = t := by omega
    rw [← e']
    exact h
  · exact fun h => ⟨t, h, rfl⟩
theorem atI_iv {xs : List V} {t : Nat} {v : V} (h : xs[t]? = some v) : atI xs (t : Int) = some v := atI_nat h
theorem at_map {α β : Type} {f : α → β} {l : List α} {i : Nat} {x : β} (h : (l.map f)[i]? = some x) : ∃ t, l[i]? = some t ∧ x = f t := by
  rw [List.getElem?_map] at h
  cases e : l[i]? with
  | none => rw [e] at h; cases h
  | some t => rw [e] at h; exact ⟨t, rfl, (Option.some.inj h).symm⟩
theorem map_at {α β : Type} {f : α → β} {l : List α} {i : Nat} {t : α} (h : l[i]? = some t) : (l.map f)[i]? = some (f t) := by
  rw [List.getElem?_map, h]; rfl
theorem getD_at {α : Type} {l : List α} {i : Nat} (d : α) (h : i < l.length) : l[i]? = some (l.getD i d) := by
  rw [List.getD_eq_getElem?_getD, List.getElem?_eq_getElem h]; rfl
end
end Rd
namespace Rd
open PySem PySem.Spec PyProof.Rows L2
section
variable {K : PySem.W.Frag} {D : Ends} {σ : L2.St} {H : Hp}
theorem rd_nite1 {A B : Prop} (h : A) : if (!false) = true then A else B := h
theorem rd_nite0 {A B : Prop} (h : B) : if (!true) = true then A else B := h
theorem rd_while {c : TT} {tb : TS} {m0 : Nat} (W : Nat → L2.St → Hp → Prop) (w0 : W m0 σ H)
    (hs : ∀ m σ H, W m σ H → c σ H fun b H1 => if b = true then ∃ N : L2.St → Hp → Prop, (∀ σ' H', N σ' H' → ∃ m', m' < m ∧ W m' σ' H') ∧ tb { D with nx := N, ct := N, bk := D.nx } σ H1 else D.nx σ H1) : tWhile c tb D σ H := ⟨W, ⟨m0, w0⟩, hs⟩
theorem rd_turn {W : Nat → L2.St → Hp → Prop} {m : Nat} {tb : TS} (h : tb { D with nx := fun σ' H' => ∃ m', m' < m ∧ W m' σ' H', ct := fun σ' H' => ∃ m', m' < m ∧ W m' σ' H', bk := D.nx } σ H) :
    ∃ N : L2.St → Hp → Prop, (∀ σ' H', N σ' H' → ∃ m', m' < m ∧ W m' σ' H') ∧ tb { D with nx := N, ct := N, bk := D.nx } σ H := ⟨_, fun _ _ h => h, h⟩
end
end Rd
namespace Rd
open PySem PySem.Spec PyProof.Rows L2
section
variable {K : PySem.W.Frag} {D : Ends} {σ : L2.St} {H : Hp} {g : TG} {tb : TS} {tl te : TE} {ta : TA} {tt : TT} {vs : List Nat} {Q : VK} {j : Nat}
/-! ### loops and comprehensions: the walked thing first, then these -/
def ForJ (g : TG) (tb : TS) (D : Ends) (σ : L2.St) (J : It) (H : Hp) : Prop := ∃ W : Nat → Nat → L2.St → Hp → Prop, (∃ m, W 0 m σ H) ∧ ∀ i m σ H, W i m σ H →
  (J.stop i H ∧ D.nx σ H) ∨ (J.go i H ∧ ∃ N : L2.St → Hp → Prop, (∀ σ' H', N σ' H' → ∃ m', m' < m ∧ W (i + 1) m' σ' H') ∧ ∀ x H', J.yld i H x H' → g x σ H' fun σ2 H2 => tb { D with nx := N, ct := N, bk := D.nx } σ2 H2)
def LcJ (g : TG) (tt : TT) (te : TE) (vs : List Nat) (σ : L2.St) (Q : VK) (J : It) (H : Hp) : Prop := ∀ Dd, H Dd = none → ∃ W : Nat → Nat → Hp → Prop, (∃ m, W 0 m (upd H Dd (.lst []))) ∧ ∀ i m H, W i m H →
  (J.stop i H ∧ Q (.ref Dd) H) ∨ (J.go i H ∧ ∃ Nx : Hp → Prop, (∀ H', Nx H' → ∃ m', m' < m ∧ W (i + 1) m' H') ∧ ∀ x H', J.yld i H x H' → g x (wipe σ vs) H' fun σ2 H2 => wipe σ2 vs = wipe σ vs ∧ tt σ2 H2 fun b H3 =>
    if b = true then te σ2 H3 fun y H4 => ∃ acc, H4 Dd = some (.lst acc) ∧ acc.length < sizeLine ∧ Nx (upd H4 Dd (.lst (acc ++ [y]))) else Nx H3)
def ForA (K : PySem.W.Frag) (x : V) (g : TG) (tb : TS) (D : Ends) (σ : L2.St) (H : Hp) : Prop := Walk K x H (ForJ g tb D σ)
def LcA (K : PySem.W.Frag) (x : V) (g : TG) (tt : TT) (te : TE) (vs : List Nat) (σ : L2.St) (H : Hp) (Q : VK) : Prop := Walk K x H (LcJ g tt te vs σ Q)
def ForR1 (as : List V) (g : TG) (tb : TS) (D : Ends) (σ : L2.St) (H : Hp) : Prop := ∃ j : Int, as = [.int j] ∧ -(2 ^ 62) ≤ j ∧ j < 2 ^ 62 ∧ ForJ g tb D σ (Itr 0 j.toNat) H
def LcR1 (as : List V) (g : TG) (tt : TT) (te : TE) (vs : List Nat) (σ : L2.St) (H : Hp) (Q : VK) : Prop := ∃ j : Int, as = [.int j] ∧ -(2 ^ 62) ≤ j ∧ j < 2 ^ 62 ∧ LcJ g tt te vs σ Q (Itr 0 j.toNat) H
def ForR2 (as : List V) (g : TG) (tb : TS) (D : Ends) (σ : L2.St) (H : Hp) : Prop := ∃ i j : Int, as = [.int i, .int j] ∧ (-(2 ^ 62) ≤ i ∧ i < 2 ^ 62 ∧ -(2 ^ 62) ≤ j ∧ j < 2 ^ 62) ∧ ForJ g tb D σ (Itr i (j - i).toNat) H
def LcR2 (as : List V) (g : TG) (tt : TT) (te : TE) (vs : List Nat) (σ : L2.St) (H : Hp) (Q : VK) : Prop := ∃ i j : Int, as = [.int i, .int j] ∧ (-(2 ^ 62) ≤ i ∧ i < 2 ^ 62 ∧ -(2 ^ 62) ≤ j ∧ j < 2 ^ 62) ∧ LcJ g tt te vs σ Q (Itr i (j - i).toNat) H
theorem rd_forA (h : tl σ H fun x H1 => ForA K x g tb D σ H1) : tFor (iAny K tl) g tb D σ H := h
theorem rd_lcA (h : tl σ H fun x H1 => LcA K x g tt te vs σ H1 Q) : tLc (iAny K tl) g tt te vs σ H Q := h
theorem rd_forR1 (h : ta σ H fun as H1 => ForR1 as g tb D σ H1) : tFor (iRng1 ta) g tb D σ H := h
theorem rd_lcR1 (h : ta σ H fun as H1 => LcR1 as g tt te vs σ H1 Q) : tLc (iRng1 ta) g tt te vs σ H Q := h
theorem rd_forR2 (h : ta σ H fun as H1 => ForR2 as g tb D σ H1) : tFor (iRng2 ta) g tb D σ H := h
theorem rd_lcR2 (h : ta σ H fun as H1 => LcR2 as g tt te vs σ H1 Q) : tLc (iRng2 ta) g tt te vs σ H Q := h
/-- for x in a list that stands -/
theorem forL {a : Addr} {xs : List V} (hx : SqL K H a xs) (Pv : Nat → L2.St → Hp → Prop) (h0 : Pv 0 σ H) (hl : ∀ i σ H, i ≤ xs.length → Pv i σ H → SqL K H a xs)
    (hs : ∀ (i : Nat) (x : V) σ H, xs[i]? = some x → Pv i σ H → g x σ H fun σ2 H2 => tb { D with nx := Pv (i + 1), ct := Pv (i + 1), bk := D.nx } σ2 H2) (hd : ∀ σ H, Pv xs.length σ H → D.nx σ H) : ForA K (.ref a) g tb D σ H :=
  .inl ⟨a, rfl, ⟨xs, hx⟩, for_list Pv h0 hl hs hd⟩
theorem forT {a : Addr} {xs : List V} (hx : SqT K H a xs) (Pv : Nat → L2.St → Hp → Prop) (h0 : Pv 0 σ H) (hl : ∀ i σ H, i ≤ xs.length → Pv i σ H → SqT K H a xs)
    (hs : ∀ (i : Nat) (x : V) σ H, xs[i]? = some x → Pv i σ H → g x σ H fun σ2 H2 => tb { D with nx := Pv (i + 1), ct := Pv (i + 1), bk := D.nx } σ2 H2) (hd : ∀ σ H, Pv xs.length σ H → D.nx σ H) : ForA K (.ref a) g tb D σ H :=
  .inr (.inl ⟨a, rfl, ⟨xs, hx⟩, for_tup Pv h0 hl hs hd⟩)
/-- for k in range(n) -/
theorem forR {n : Nat} {z : Int} (hz : z = (n : Int)) (hn : n ≤ 1000000000) (Pv : Nat → L2.St → Hp → Prop) (h0 : Pv 0 σ H)
    (hs : ∀ (i : Nat) σ H, i < n → Pv i σ H → g (.int (i : Int)) σ H fun σ2 H2 => tb { D with nx := Pv (i + 1), ct := Pv (i + 1), bk := D.nx } σ2 H2) (hd : ∀ σ H, Pv n σ H → D.nx σ H) : ForR1 [.int z] g tb D σ H := by
  subst hz
  refine ⟨n, rfl, by omega, by omega, ?_⟩
  rw [Int.toNat_natCast]
  exact for_range (lo := 0) (n := n) Pv h0 (fun i σ H hi p => by rw [Int.zero_add]; exact hs i σ H hi p) hd
theorem forR2 {n : Nat} {lo z : Int} (hz : z = lo + (n : Int)) (h1 : -1000000000 ≤ lo) (h2 : lo ≤ 1000000000) (hn : n ≤ 1000000000) (Pv : Nat → L2.St → Hp → Prop) (h0 : Pv 0 σ H)
    (hs : ∀ (i : Nat) σ H, i < n → Pv i σ H → g (.int (lo + (i : Int))) σ H fun σ2 H2 => tb { D with nx := Pv (i + 1), ct := Pv (i + 1), bk := D.nx } σ2 H2) (hd : ∀ σ H, Pv n σ H → D.nx σ H) : ForR2 [.int lo, .int z] g tb D σ H := by
  subst hz
  refine ⟨lo, lo + n, rfl, by omega, ?_⟩
  rw [show (lo + (n : Int) - lo).toNat = n by omega]
  exact for_range (lo := lo) (n := n) Pv h0 (fun i σ H hi p => hs i σ H hi p) hd
/-- a comprehension over a list that stands; Pv knows the list so far -/
theorem lcL {a : Addr} {xs : List V} (hx : SqL K H a xs) (h : ∀ Dd, H Dd = none → ∃ Pv : Nat → Hp → Prop, Pv 0 (upd H Dd (.lst [])) ∧ (∀ i H, i ≤ xs.length → Pv i H → SqL K H a xs) ∧
    (∀ (i : Nat) (x : V) H, xs[i]? = some x → Pv i H → g x (wipe σ vs) H fun σ2 H2 => wipe σ2 vs = wipe σ vs ∧ tt σ2 H2 fun b H3 =>
      if b = true then te σ2 H3 fun y H4 => ∃ acc, H4 Dd = some (.lst acc) ∧ acc.length < sizeLine ∧ Pv (i + 1) (upd H4 Dd (.lst (acc ++ [y]))) else Pv (i + 1) H3) ∧ (∀ H, Pv xs.length H → Q (.ref Dd) H)) : LcA K (.ref a) g tt te vs σ H Q := by
  refine .inl ⟨a, rfl, ⟨xs, hx⟩, fun Dd hD => ?_⟩
  obtain ⟨Pv, h0, hl, hs, hd⟩ := h Dd hD
  exact lc_list Pv h0 hl hs hd
theorem lcT {a : Addr} {xs : List V} (hx : SqT K H a xs) (h : ∀ Dd, H Dd = none → ∃ Pv : Nat → Hp → Prop, Pv 0 (upd H Dd (.lst [])) ∧ (∀ i H, i ≤ xs.length → Pv i H → SqT K H a xs) ∧
    (∀ (i : Nat) (x : V) H, xs[i]? = some x → Pv i H → g x (wipe σ vs) H fun σ2 H2 => wipe σ2 vs = wipe σ vs ∧ tt σ2 H2 fun b H3 =>
      if b = true then te σ2 H3 fun y H4 => ∃ acc, H4 Dd = some (.lst acc) ∧ acc.length < sizeLine ∧ Pv (i + 1) (upd H4 Dd (.lst (acc ++ [y]))) else Pv (i + 1) H3) ∧ (∀ H, Pv xs.length H → Q (.ref Dd) H)) : LcA K (.ref a) g tt te vs σ H Q := by
  refine .inr (.inl ⟨a, rfl, ⟨xs, hx⟩, fun Dd hD => ?_⟩)
  obtain ⟨Pv, h0, hl, hs, hd⟩ := h Dd hD
  exact lc_tup Pv h0 hl hs hd
theorem lcR {n : Nat} {z : Int} (hz : z = (n : Int)) (hn : n ≤ 1000000000) (h : ∀ Dd, H Dd = none → ∃ Pv : Nat → Hp → Prop, Pv 0 (upd H Dd (.lst [])) ∧
    (∀ (i : Nat) H, i < n → Pv i H → g (.int (i : Int)) (wipe σ vs) H fun σ2 H2 => wipe σ2 vs = wipe σ vs ∧ tt σ2 H2 fun b H3 =>
      if b = true then te σ2 H3 fun y H4 => ∃ acc, H4 Dd = some (.lst acc) ∧ acc.length < sizeLine ∧ Pv (i + 1) (upd H4 Dd (.lst (acc ++ [y]))) else Pv (i + 1) H3) ∧ (∀ H, Pv n H → Q (.ref Dd) H)) : LcR1 [.int z] g tt te vs σ H Q := by
  subst hz
  refine ⟨n, rfl, by omega, by omega, fun Dd hD => ?_⟩
  obtain ⟨Pv, h0, hs, hd⟩ := h Dd hD
  rw [Int.toNat_natCast]
  exact lc_range (lo := 0) (n := n) Pv h0 (fun i H hi p => by rw [Int.zero_add]; exact hs i H hi p) hd
/-- .. its tests and elements leaving the heap -/
theorem lcLp {a : Addr} {xs : List V} (hx : SqL K H a xs) (p : V → Bool) (f : V → V) (hz : xs.length ≤ 1000000)
    (ht : ∀ (i : Nat) (x : V) (Dd : Addr) (acc : List V), xs[i]? = some x → H Dd = none → ∀ R : Bool → Hp → Prop, R (p x) (upd H Dd (.lst acc)) → tt ((wipe σ [j]).set j (some x)) (upd H Dd (.lst acc)) R)
    (he : ∀ (i : Nat) (x : V) (Dd : Addr) (acc : List V), xs[i]? = some x → p x = true → H Dd = none → ∀ R : VK, R (f x) (upd H Dd (.lst acc)) → te ((wipe σ [j]).set j (some x)) (upd H Dd (.lst acc)) R)
    (q : ∀ Dd, H Dd = none → Q (.ref Dd) (upd H Dd (.lst ((xs.filter p).map f)))) : LcA K (.ref a) (gName j) tt te [j] σ H Q := by
  refine lcL hx fun Dd hD => ⟨fun i H' => H' = upd H Dd (.lst (((xs.take i).filter p).map f)), by simp, fun i H' _ e => by rw [e]; exact (same_new hD).seq hx, fun i x H' hi e => ?_, fun H' e => by rw [e, List.take_length]; exact q Dd hD⟩
  refine ⟨wipe1 σ j x, ?_⟩
  subst e
  refine ht i x Dd _ hi hD _ ?_
  have hl := take_end hi
  cases hp : p x with
  | true =>
    refine rd_ite1 (he i x Dd _ hi hp hD _ ⟨_, upd_same, ?_, ?_⟩)
    · refine size_lt ?_
      have h1 := List.length_filter_le p (xs.take i)
      have h2 := List.length_take_le' i xs
      rw [List.length_map]; omega
    · show upd _ _ _ = _
      rw [upd_upd, hl, List.filter_append, List.map_append, List.filter_cons, if_pos hp]
      rfl
  | false =>
    refine rd_ite0 ?_
    show upd _ _ _ = _
    rw [hl, List.filter_append, List.map_append, List.filter_cons, if_neg (by rw [hp]; decide)]
    simp
theorem lcRp {n : Nat} {z : Int} (hz : z = (n : Int)) (p : Nat → Bool) (f : Nat → V) (hn : n ≤ 1000000)
    (ht : ∀ (i : Nat) (Dd : Addr) (acc : List V), i < n → H Dd = none → ∀ R : Bool → Hp → Prop, R (p i) (upd H Dd (.lst acc)) → tt ((wipe σ [j]).set j (some (.int (i : Int)))) (upd H Dd (.lst acc)) R)
    (he : ∀ (i : Nat) (Dd : Addr) (acc : List V), i < n → p i = true → H Dd = none → ∀ R : VK, R (f i) (upd H Dd (.lst acc)) → te ((wipe σ [j]).set j (some (.int (i : Int)))) (upd H Dd (.lst acc)) R)
    (q : ∀ Dd, H Dd = none → Q (.ref Dd) (upd H Dd (.lst (((List.range n).filter p).map f)))) : LcR1 [.int z] (gName j) tt te [j] σ H Q := by
  refine lcR hz (by omega) fun Dd hD => ⟨fun i H' => H' = upd H Dd (.lst (((List.range i).filter p).map f)), by simp, fun i H' hi e => ?_, fun H' e => by rw [e]; exact q Dd hD⟩
  refine ⟨wipe1 σ j _, ?_⟩
  subst e
  refine ht i Dd _ hi hD _ ?_
  cases hp : p i with
  | true =>
    refine rd_ite1 (he i Dd _ hi hp hD _ ⟨_, upd_same, ?_, ?_⟩)
    · refine size_lt ?_
      have h1 := List.length_filter_le p (List.range i)
      rw [List.length_range] at h1
      rw [List.length_map]; omega
    · show upd _ _ _ = _
      rw [upd_upd, List.range_succ, List.filter_append, List.map_append, List.filter_cons, if_pos hp]
      rfl
  | false =>
    refine rd_ite0 ?_
    show upd _ _ _ = _
    rw [List.range_succ, List.filter_append, List.map_append, List.filter_cons, if_neg (by rw [hp]; decide)]
    simp
end
end Rd
namespace Rd
open PySem PySem.Spec PyProof.Rows L2
/-! ### isinstance of built-in types -/
theorem kb_int_bool : kitB "int" "bool" = some false := by decide +kernel
theorem kb_int_int : kitB "int" "int" = some true := by decide +kernel
theorem kb_int_str : kitB "int" "str" = some false := by decide +kernel
theorem kb_int_list : kitB "int" "list" = some false := by decide +kernel
theorem kb_int_tuple : kitB "int" "tuple" = some false := by decide +kernel
theorem kb_bool_bool : kitB "bool" "bool" = some true := by decide +kernel
theorem kb_bool_int : kitB "bool" "int" = some true := by decide +kernel
theorem kb_bool_str : kitB "bool" "str" = some false := by decide +kernel
theorem kb_bool_list : kitB "bool" "list" = some false := by decide +kernel
theorem kb_bool_tuple : kitB "bool" "tuple" = some false := by decide +kernel
theorem kb_str_bool : kitB "str" "bool" = some false := by decide +kernel
theorem kb_str_int : kitB "str" "int" = some false := by decide +kernel
theorem kb_str_str : kitB "str" "str" = some true := by decide +kernel
theorem kb_str_list : kitB "str" "list" = some false := by decide +kernel
theorem kb_str_tuple : kitB "str" "tuple" = some false := by decide +kernel
theorem kb_list_bool : kitB "list" "bool" = some false := by decide +kernel
theorem kb_list_int : kitB "list" "int" = some false := by decide +kernel
theorem kb_list_str : kitB "list" "str" = some false := by decide +kernel
theorem kb_list_list : kitB "list" "list" = some true := by decide +kernel
theorem kb_list_tuple : kitB "list" "tuple" = some false := by decide +kernel
theorem kb_tuple_bool : kitB "tuple" "bool" = some false := by decide +kernel
theorem kb_tuple_int : kitB "tuple" "int" = some false := by decide +kernel
theorem kb_tuple_str : kitB "tuple" "str" = some false := by decide +kernel
theorem kb_tuple_list : kitB "tuple" "list" = some false := by decide +kernel
theorem kb_tuple_tuple : kitB "tuple" "tuple" = some true := by decide +kernel
theorem kb_NoneType_bool : kitB "NoneType" "bool" = some false := by decide +kernel
theorem kb_NoneType_int : kitB "NoneType" "int" = some false := by decide +kernel
theorem kb_NoneType_str : kitB "NoneType" "str" = some false := by decide +kernel
theorem kb_NoneType_list : kitB "NoneType" "list" = some false := by decide +kernel
theorem kb_NoneType_tuple : kitB "NoneType" "tuple" = some false := by decide +kernel
end Rd
namespace Rd
open PySem PySem.Spec PyProof.Rows L2
theorem rd_yes {σ : L2.St} {H : Hp} {R : Bool → Hp → Prop} (h : R true H) : tYes σ H R := h
/-- what is free behind, where st stands, was free ahead, and is not st -/
theorem But.back {st p : Addr} {H H' : Hp} {o : HO} (a : But [st] H H') (hs : H' st = some o) (h : H' p = none) : p ≠ st ∧ H p = none := by
  have n : p ≠ st := fun z => by rw [z, hs] at h; cases h
  refine ⟨n, ?_⟩
  cases e : H p with
  | none => rfl
  | some u => rw [a p u (by simpa using n) e] at h; cases h
theorem But.off {st : Addr} {H H' : Hp} (h : But [st] H H') : ∀ b o, b ≠ st → H b = some o → H' b = some o := fun b o n e => h b o (by simpa using n) e
end Rd

/-! Ex: own errors whose __init__ says super().__init__(..) and stores its fields: over the bare heap. -/
namespace ExL
open PySem PySem.W PySem.Calls PyProof.Rows PySem.HandSPX
/-! ### a bound method, a bound wrapper, called -/
section
variable {prog : Program} {w : World} {M : Model} {A : Around} {E : Value → Shared → Prop} {s : Shared}
theorem keep_ne {K : Frag} {h h' : Heap} {x : Addr} (X : K.In h) (hx : K.lookup x = none) (k : ∀ b o, b ≠ x → h.get? b = some o → h'.get? b = some o) : K.In h' := fun a o e =>
  k a o (fun z => by rw [z, hx] at e; cases e) (X a o e)
theorem notK {K : Frag} {h : Heap} {x : Addr} (X : K.In h) (hx : h.get? x = none) : K.lookup x = none := by
  cases e : K.lookup x with
  | none => rfl
  | some o => rw [X x o e] at hx; cases hx
abbrev moO (f x : Addr) : Obj := { cls := .type "method", data := .fields #[.ref f, .ref x] }
theorem callWith_mo {pos : Pos} {u f x : Addr} {args : List (Bool × Sem Value)} {Q : Value → Shared → Prop} (hplain : args.any (·.1) = false)
    (h : wpAny M A (evalArgs (.ref u) true args []) (fun a s₁ => (s₁.heap.get? u = some (moO f x) ∧ ∃ o fd, s₁.heap.get? f = some o ∧ o.data = .func fd) ∧ wpAny M A (call (.ref u) a.pos a.kw) Q E s₁) E s) :
    wpAny M A (callWith pos (.ref u) [] args []) Q E s := by
  unfold callWith
  refine wpAny_bind (wpAny_holding (wpAny_mono h (fun a s₁ h₁ => wpAny_bind (wpAny_standAt ?_)) fun _ _ z => z))
  obtain ⟨⟨hu, o, fd, hf, hd⟩, hc⟩ := h₁
  simp only [hplain, List.any_nil, Bool.or_false]
  refine wpAny_bind (m := keeperOf (.ref u)) ?_
  unfold keeperOf
  refine wpAny_bind (wpAny_load hu ?_)
  simp only [moO, show (Value.type "method" != Value.type "method") = false by decide, Bool.false_eq_true, if_false]
  show wpAny M A (load f >>= _) _ E s₁
  refine wpAny_bind (wpAny_load hf ?_)
  rw [hd]
  refine wpAny_pure ?_
  have go : wpAny M A (call (.ref u) ([] ++ a.pos) a.kw) (fun r s₂ => wpAny M A (do holding [r] point; pure r) Q E s₂) E s₁ := by
    rw [List.nil_append]
    exact wpAny_mono hc (fun r s₂ hr => wpAny_bind (wpAny_holding (wpAny_point (wpAny_pure hr)))) fun _ _ z => z
  dsimp only
  split
  · exact wpAny_bind go
  · refine wpAny_bind ?_
    unfold callMarked
    exact Calls.wpAny_keep go
/-- super().__init__(..) of ValueError, called -/
theorem call_ve {B newId : String} {bmB : List Value} {nm q : Str} {C N u e t : Addr} {bs bm : List Value} {hdct : Bool} {sn : List Str} {sub : List Value} {ab : Bool} {col : Option Bool} {dd : Option Addr} {k0 k1 k2 k3 k5 : Option Value} {i : String} {rest : List Value} {Q : Value → Shared → Prop}
    (FB : ExcBaseFacts B newId i bmB) (hC : s.heap.get? C = some (excClassObj nm q C N bs bm hdct sn sub ab col dd k0 k1 k2 k3 k5 newId)) (hu : s.heap.get? u = some (kxs_mw i e)) (he : s.heap.get? e = some (excO C t)) (hz : rest.length ≤ sizeLine)
    (h : ∀ h' t', (∀ b o, b ≠ e → s.heap.get? b = some o → h'.get? b = some o) → h'.get? e = some (excO C t') → Q .none { s with heap := h' }) :
    wpAny (model prog w) A (call (.ref u) rest) Q E s := by
  obtain ⟨hh, g, d, tk, os⟩ := s
  refine wpAny_call (codeAny_of_tree ?_)
  show wpAny _ A.in1 (callAny (.ref u) ⟨rest, []⟩) _ _ _
  simp only [callAny]
  refine wpAny_bind (wpAny_load hu ?_)
  simp only [kxs_mw, show (Value.type "method-wrapper" == Value.type "method" || Value.type "method-wrapper" == Value.type "builtin_function_or_method" || Value.type "method-wrapper" == Value.type "method-wrapper") = true by decide, if_true]
  refine KFB.if_so (by decide) ?_
  refine wpAny_bind (check_bound_init FB.toExcCallFacts hC he rfl ?_)
  refine wpAny_bind (wpAny_pure (wpAny_pure ?_))
  refine ⟨plainId_quiet FB.init.plain _, codeAny_builtin FB.initEntry ?_⟩
  exact exc_init_tree (cls := .ref C) (t0 := t) (dv := none) (c2 := .none) (c3 := .none) (b4 := .bool false) he hz fun h' k e' _ => h h' _ k e'
end
/-! ### what the written part says of an error class and of its __init__ -/
structure Ec (K : Frag) (C : Addr) : Prop where
  cls : ∃ nm q N bs bm sn sub ab col dd k0 k1 k2 k3 k5, K.lookup C = some (excClassObj nm q C N bs bm true sn sub ab col dd k0 k1 k2 k3 k5 "ValueError.__new__") ∧ refsVE bm = true
  sa : findIn K (.ref C) "__setattr__" = some (some (.builtin "object.__setattr__"))
  exV : subIn K (.ref C) (.type "ValueError") = some true
/-- of a def with the cell __class__ (at cc, it holds D) -/
structure Fc (prog : Program) (K : Frag) (f cc D : Addr) (qual : Str) (params : Arguments) (body : List Stmt) (scope : Scope) : Prop where
  fn : ∃ (oc : Value) (od : Option Addr) (dV kV doc pm : Value) (an : Option Addr) (cda : Addr) (ct : Value) (osl : Array (Option Value)), K.lookup f = some ⟨oc, od, .func (fnX "__init__" qual params body scope [("__class__", cc)] dV kV doc pm an (.ref cda) ct), osl⟩ ∧ oc = .type "function" ∧
    codeIn K (.ref cda) qual = true ∧ ∃ ccl cdd vs ccs file tf, K.lookup cda = some ⟨ccl, cdd, .fields vs, ccs⟩ ∧ vs[2]? = some (.str file tf) ∧ (prog.main.file == file) = true
  cell : ∃ cl cld csl, K.lookup cc = some ⟨cl, cld, .cell (some (.ref D)), csl⟩
  cls : (clsIn K D).isSome = true
  top : (prog.main.scope.names.lookup ("super" : Str)).isSome = false
/-- of the module -/
structure Gd (K : Frag) (h : Heap) : Prop where
  kin : K.In h
  sup : nsIn K mainGlobals "super" = some none
  opq : nsIn K cStatics "thirdparty.any" = some none
  glob : ∃ mg, h.Ns mainGlobals mg
  blt : ∃ mb, h.Ns builtinsNs mb ∧ mb "super" = bootBuiltins "super"
  lim : h.NoLimit
theorem Gd.keeps {K : Frag} {h h' : Heap} (d : Gd K h) (k : ∀ b o, h.get? b = some o → h'.get? b = some o) : Gd K h' :=
  ⟨d.kin.keeps k, d.sup, d.opq, let ⟨mg, e⟩ := d.glob; ⟨mg, e.keeps k⟩, let ⟨mb, e, q⟩ := d.blt; ⟨mb, e.keeps k, q⟩, d.lim.keeps k⟩
/-- the text of such an __init__: super().__init__(what); then the fields -/
def supL (p0 p1 p2 p3 p4 : Pos) (what : List Expr) : Stmt := .Expr (.Call (.Attribute (.Call (.Name "super" p0) [] [] p1) "__init__" p2) what [] p3) p4
def scI (fs : List Str) : Scope := { kind := .function, names := (("self" : Str), NameKind.local) :: ((fs.map fun (f : Str) => (f, NameKind.local)) ++ [(("__class__" : Str), NameKind.free), (("super" : Str), NameKind.globalImplicit)]), isGenerator := false, isCoroutine := false, more := [] }
theorem scI_free (fs : List Str) (h : ("__class__" : Str) ∉ fs) : (scI fs).names.lookup ("__class__" : Str) = some NameKind.free := by
  show List.lookup _ (_ :: (_ ++ _)) = _
  rw [List.lookup_cons]
  simp only [show (("__class__" : Str) == ("self" : Str)) = false by decide +kernel]
  induction fs with
  | nil => rfl
  | cons f r ih =>
    simp only [List.map_cons, List.cons_append, List.lookup_cons]
    have : (("__class__" : Str) == f) = false := by simpa using fun z => h (by rw [z]; exact List.mem_cons_self)
    rw [this]
    exact ih fun z => h (List.mem_cons_of_mem _ z)
theorem scI_glob (fs : List Str) (h : ("super" : Str) ∉ fs) : (scI fs).names.lookup ("super" : Str) = some NameKind.globalImplicit := by
  show List.lookup _ (_ :: (_ ++ _)) = _
  rw [List.lookup_cons]
  simp only [show (("super" : Str) == ("self" : Str)) = false by decide +kernel]
  induction fs with
  | nil => rfl
  | cons f r ih =>
    simp only [List.map_cons, List.cons_append, List.lookup_cons]
    have : (("super" : Str) == f) = false := by simpa using fun z => h (by rw [z]; exact List.mem_cons_self)
    rw [this]
    exact ih fun z => h (List.mem_cons_of_mem _ z)
theorem scI_loc (fs : List Str) {f : Str} (h : f ∈ fs) : (scI fs).names.lookup f = some NameKind.local := by
  show List.lookup _ (_ :: (_ ++ _)) = _
  rw [List.lookup_cons]
  split
  · rfl
  · induction fs with
    | nil => cases h
    | cons g r ih =>
      simp only [List.map_cons, List.cons_append, List.lookup_cons]
      split
      · rfl
      · rename_i ne
        refine ih ?_
        rcases List.mem_cons.mp h with z | z
        · rw [z] at ne; simp at ne
        · exact z
section
variable {prog : Program} {w : World} {A : Around} {E : Value → Shared → Prop} {s : Shared} {K : Frag}
/-- super() in such a def -/
theorem at_super {f cc D L x C : Addr} {qual : Str} {params : Arguments} {body : List Stmt} {fs : List Str} {p0 p1 : Pos} {whole : Sem Value} {oc : Value} {od : Option Addr} {dV kV doc pm : Value} {an : Option Addr} {cda : Addr} {ct : Value} {osl : Array (Option Value)} {m : Str → Option Value} {ox : Obj} {Q : Value → Shared → Prop}
    (G : Gd K s.heap) (lk : K.lookup f = some ⟨oc, od, .func (fnX "__init__" qual params body (scI fs) [("__class__", cc)] dV kV doc pm an (.ref cda) ct), osl⟩)
    (hcode : ∃ ccl cdd vs ccs file tf, K.lookup cda = some ⟨ccl, cdd, .fields vs, ccs⟩ ∧ vs[2]? = some (.str file tf) ∧ (prog.main.file == file) = true) (hcell : ∃ cl cld csl, K.lookup cc = some ⟨cl, cld, .cell (some (.ref D)), csl⟩)
    (hD : (clsIn K D).isSome = true) (htop : (prog.main.scope.names.lookup ("super" : Str)).isSome = false) (har : ∃ ar, (params.posonlyargs ++ params.args).head? = some ar ∧ ar.arg = "self") (hfs : ("__class__" : Str) ∉ fs ∧ ("super" : Str) ∉ fs)
    (hn : s.heap.Ns L m) (hv : m "self" = some (.ref x)) (hx : s.heap.get? x = some ox) (hxc : ox.cls = .ref C) (hnc : ∀ c, ox.data ≠ .cls c) (hsub : mroIn K C (.ref D) = some true)
    (h : ∀ h', h'.get? s.heap.objs.size = some (ks_superObj D x C) → (∀ b o, s.heap.get? b = some o → h'.get? b = some o) → Q (.ref s.heap.objs.size) { s with heap := h' }) :
    PySem.wpAt (model prog w) A (.func body (callEnv (fnX "__init__" qual params body (scI fs) [("__class__", cc)] dV kV doc pm an (.ref cda) ct) L f)) (attributeBase (.Call (.Name "super" p0) [] [] p1) "__init__" (callEnv (fnX "__init__" qual params body (scI fs) [("__class__", cc)] dV kV doc pm an (.ref cda) ct) L f) whole) Q E s := by
  obtain ⟨ccl, cdd, vs, ccs, file, tf, hcode, hvs, hfile⟩ := hcode
  obtain ⟨cl, cld, csl, hcell⟩ := hcell
  obtain ⟨ar, hp, har⟩ := har
  obtain ⟨mg, hmg⟩ := G.glob
  obtain ⟨mb, hmb, hsup⟩ := G.blt
  obtain ⟨cdD, hD⟩ := Option.isSome_iff_exists.mp hD
  have X := G.kin
  obtain ⟨hh, g, d, t, os⟩ := s
  obtain ⟨oD, hD1, hD2⟩ : ∃ oD, hh.get? D = some oD ∧ oD.data = .cls cdD := by
    unfold clsIn at hD
    split at hD
    · rename_i c d cd' sl ho
      cases hD
      exact ⟨_, X _ _ ho, rfl⟩
    · cases hD
  have hks : (callEnv (fnX "__init__" qual params body (scI fs) [("__class__", cc)] dV kV doc pm an (.ref cda) ct) L f).kindOf "super" = some .globalImplicit := scI_glob fs hfs.2
  have hkc : (callEnv (fnX "__init__" qual params body (scI fs) [("__class__", cc)] dV kV doc pm an (.ref cda) ct) L f).kindOf "__class__" = some .free := scI_free fs hfs.1
  refine ks_wpAt_super_base hks hkc (by decide +kernel) rfl (X _ _ lk) rfl hp rfl (X _ _ hcode) rfl hvs hfile htop ?_
  refine ks_loadName_global rfl hks (loadGlobal_builtin (mg := mg) hmg (mg_none_of X hmg G.sup) hmb (hsup.trans (by kernel_rfl : bootBuiltins "super" = some (.type "super"))) ⟨rfl, ?_⟩)
  refine wpAny_loadName_free rfl hkc rfl ⟨_, X _ _ hcell, rfl⟩ ?_
  rw [har]
  refine wpAny_loadName_local rfl rfl hn hv ?_
  refine ks_wpAny_isType_cls hD1 hD2 ⟨rfl, ?_⟩
  exact ks_wpAny_call_super hD1 hD2 hx hxc hnc (looks_mroIn X hsub) fun h' e k => h h' e k
end
/-! ### arguments and right sides: a parameter, a text -/
open L2 (V RelV Vals RelO)
inductive Ar where | par (x : Str) | lit (t : Str)
def Ar.E : Ar → Nat → Pos → Expr
  | .par x, _, p => .Name x p
  | .lit t, k, p => .Constant (.str t) k p
def Ar.of (b : List (Str × V)) : Ar → V → Prop
  | .par x, v => b.lookup x = some v
  | .lit t, v => v = .str t
/-- what the frame holds of the parameters -/
def Held (env : Env) (m : Str → Option Value) (b : List (Str × V)) : Prop := ∀ x v, b.lookup x = some v → env.kindOf x = some .local ∧ (x == ("__debug__" : Str)) = false ∧ ∃ u, m x = some u ∧ RelV v u
section
variable {prog : Program} {w : World} {M : Model} {A : Around} {E : Value → Shared → Prop} {s : Shared} {K : Frag} {env : Env} {m : Str → Option Value} {b : List (Str × V)}
theorem ev_ar {a : Ar} {k : Nat} {p : Pos} {v : V} {Q : Value → Shared → Prop} (hk : env.scope.kind = .function) (hn : s.heap.Ns env.locals m) (hb : Held env m b) (e : a.of b v)
    (h : ∀ u tk, RelV v u → Q u { s with toks := tk }) : wpAny M A (eval (a.E k p) env) Q E s := by
  cases a with
  | par x =>
    obtain ⟨h1, h2, u, h3, h4⟩ := hb x v e
    exact wpAny_Name (PySem.wpAny_loadName_local hk h1 hn h3 (h u s.toks h4)) h2
  | lit t =>
    have e : v = .str t := e
    subst e
    exact wpAny_Constant_str (h _ _ ⟨_, rfl⟩)
def arsE (l : List (Ar × Nat × Pos)) : List Expr := l.map fun a => a.1.E a.2.1 a.2.2
inductive Ofs (b : List (Str × V)) : List (Ar × Nat × Pos) → List V → Prop
  | nil : Ofs b [] []
  | cons {a l v vs} : a.1.of b v → Ofs b l vs → Ofs b (a :: l) (v :: vs)
theorem star_ar (a : Ar × Nat × Pos) (l : List (Ar × Nat × Pos)) (pos : Pos) : backTo pos (starEach (arsE (a :: l)) env) = (false, eval (a.1.E a.2.1 a.2.2) env) :: backTo pos (starEach (arsE l) env) := by
  obtain ⟨a, k, p⟩ := a
  cases a <;> rfl
theorem plain_ar : ∀ (l : List (Ar × Nat × Pos)) (pos : Pos), (backTo pos (starEach (arsE l) env)).any (·.1) = false
  | [], _ => rfl
  | a :: l, pos => by rw [star_ar]; simpa using plain_ar l pos
theorem ev_ars {pos : Pos} : ∀ {l : List (Ar × Nat × Pos)} {vs : List V} {s : Shared} {Q : List Value → Shared → Prop}, env.scope.kind = .function → s.heap.Ns env.locals m → Held env m b → Ofs b l vs →
    (∀ us tk, Vals vs us → Q us { s with toks := tk }) → wpAny M A (spliced (backTo pos (starEach (arsE l) env))) Q E s
  | _, _, s, _, _, _, _, .nil, h => spliced_nil (h [] s.toks .nil)
  | _, _, s, _, hk, hn, hb, .cons e r, h => by
    rw [star_ar]
    exact spliced_cons (ev_ar hk hn hb e fun u tk ru => ev_ars (s := { s with toks := tk }) hk hn hb r fun us tk' rs => h _ _ (.cons ru rs))
theorem ev_args {pos : Pos} {f : Value} {l : List (Ar × Nat × Pos)} {vs : List V} {Q : Args → Shared → Prop} (hk : env.scope.kind = .function) (hn : s.heap.Ns env.locals m) (hb : Held env m b) (o : Ofs b l vs) (ne : l ≠ [])
    (h : ∀ us tk, Vals vs us → Q ⟨us, []⟩ { s with toks := tk }) : wpAny M A (evalArgs f true (backTo pos (starEach (arsE l) env)) []) Q E s := by
  cases l with
  | nil => exact absurd rfl ne
  | cons a l =>
    rw [star_ar]
    refine evalArgs_plain ?_
    rw [← star_ar]
    exact ev_ars hk hn hb o h
end
/-! ### what a made error is -/
/-- at x: the exception, its dict dx holds fs -/
structure Part (h : Heap) (x C dx : Addr) (fs : List (Str × V)) : Prop where
  obj : ∃ t1 : Addr, h.get? x = some { cls := .ref C, dict := some dx, data := .fields #[.ref t1, .none, .none, .none, .bool false, .none] }
  ns : ∃ m nl, h.Ns1 dx m ∧ (∀ f, RelO (fs.lookup f) (m f)) ∧ Within m nl ∧ nl.length ≤ fs.length
structure InitEnd (h h' : Heap) (x C dx : Addr) (fs : List (Str × V)) : Prop where
  keep : ∀ b o, b ≠ x → h.get? b = some o → h'.get? b = some o
  dbig : h.objs.size ≤ dx
  dne : dx ≠ x
  part : Part h' x C dx fs
/-- __init__, at f, called at an instance of the class at C -/
def InitTo (prog : Program) (w : World) (K : Frag) (C f : Addr) (r : Nat) (vs : List V) (fs : List (Str × V)) : Prop :=
  ∀ (A : Around) (R : Result → Shared → Prop) (s : Shared) (x t0 : Addr) (us : List Value), Gd K s.heap → s.heap.get? x = some (excO C t0) → K.lookup x = none → Vals vs us → A.depth + r ≤ recursionLimit →
    (∀ h' tk dx, InitEnd s.heap h' x C dx fs → R (.ok (.ret .none)) { s with heap := h', toks := tk }) → codeAny (model prog w) A (.call (.ref f) ⟨.ref x :: us, []⟩) R s
theorem relO_put {v : V} {u : Value} {fs : List (Str × V)} {m : Str → Option Value} {f : Str} (r : RelV v u) (h : ∀ g, RelO (fs.lookup g) (m g)) (g : Str) : RelO (List.lookup g ((f, v) :: fs)) (if g = f then some u else m g) := by
  by_cases e : g = f
  · subst e
    rw [if_pos rfl, List.lookup_cons, beq_self_eq_true]
    exact r
  · rw [if_neg e, List.lookup_cons]
    have q : (g == f) = false := by simpa using e
    rw [q]
    exact h g
/-- self.f = a -/
structure As where
  f : Str
  a : Ar
  k : Nat
  p0 : Pos
  p1 : Pos
  p2 : Pos
  p3 : Pos
def As.S (x : As) : Stmt := .Assign [.Attribute (.Name "self" x.p0) x.f x.p1] (x.a.E x.k x.p2) x.p3
inductive Puts (b : List (Str × V)) : List As → List (Str × V) → List (Str × V) → Prop
  | nil {fs} : Puts b [] fs fs
  | cons {a : As} {l v fs fs'} : a.a.of b v → Puts b l ((a.f, v) :: fs) fs' → Puts b (a :: l) fs fs'
section
variable {prog : Program} {w : World} {A : Around} {E : Value → Shared → Prop} {s : Shared} {K : Frag} {env : Env} {m : Str → Option Value} {b : List (Str × V)} {x C dx : Addr}
theorem cls_of (c : Ec K C) : ∃ cd, clsIn K C = some cd ∧ refsVE cd.mro = true ∧ cd.hasDict = true ∧ ∃ bm, cd.mro = .ref C :: bm := by
  obtain ⟨nm, q, N, bs, bm, sn, sub, ab, col, dd, k0, k1, k2, k3, k5, hC, hbm⟩ := c.cls
  refine ⟨_, (by unfold clsIn; rw [hC] <;> rfl), (show refsVE (.ref C :: bm) = true from hbm), rfl, bm, rfl⟩
theorem put1 {a : As} {v : V} {fs : List (Str × V)} {Q : Flow → Shared → Prop} (c : Ec K C) (hf : findIn K (.ref C) a.f = some none) (X : K.In s.heap) (P : Part s.heap x C dx fs) (hz : fs.length ≤ 500)
    (hk : env.scope.kind = .function) (hn : s.heap.Ns env.locals m) (hs : env.kindOf "self" = some .local ∧ m "self" = some (.ref x)) (hb : Held env m b) (e : a.a.of b v)
    (h : ∀ h' tk, (∀ b o, b ≠ dx → s.heap.get? b = some o → h'.get? b = some o) → Part h' x C dx ((a.f, v) :: fs) → dx ≠ x → Q .next { s with heap := h', toks := tk }) : wpAny (model prog w) A (exec a.S env) Q E s := by
  obtain ⟨cd, hcd, hm, hh, _⟩ := cls_of c
  obtain ⟨⟨t1, hx⟩, ⟨mD, nl, hns, hr, hw, hl⟩⟩ := P
  obtain ⟨oD, esD, epD, hoD, hdD, _⟩ := hns.count hw
  have dne : dx ≠ x := fun z => by
    rw [z, hx] at hoD
    cases hoD
    cases hdD
  refine plainObj_wpAny_Assign_Attribute ?_ (by obtain ⟨f, a, k, p0, p1, p2, p3⟩ := a; cases a <;> rfl)
  refine ev_ar hk hn hb e fun u tk ru => wpAny_Name (PySem.wpAny_loadName_local hk hs.1 hn hs.2 ?_) (by decide)
  refine set_plain (s := { s with toks := tk }) (od := some oD) X ⟨hx, rfl, rfl, hoD⟩ c.sa ?_
  refine OEX.osa_old X hx hns hw (by omega) hcd hm hh hf fun h' tk' k' hns' => ?_
  refine h h' tk' k' ⟨⟨t1, k' _ _ (Ne.symm dne) hx⟩, ⟨_, a.f :: nl, hns', relO_put ru hr, Within.cons _ _ hw, ?_⟩⟩ dne
  rw [List.length_cons, List.length_cons]
  omega
/-- the stores of an __init__ -/
theorem puts {fs' : List (Str × V)} {Q : Flow → Shared → Prop} (c : Ec K C) (hk : env.scope.kind = .function) (hs : env.kindOf "self" = some .local ∧ m "self" = some (.ref x)) (hb : Held env m b) (hKx : K.lookup dx = none) :
    ∀ {l : List As} {fs : List (Str × V)} {s : Shared}, Puts b l fs fs' → (∀ a ∈ l, findIn K (.ref C) a.f = some none) → K.In s.heap → Part s.heap x C dx fs → s.heap.Ns env.locals m → env.locals ≠ dx → fs.length + l.length ≤ 500 →
    (∀ h' tk, (∀ b o, b ≠ dx → s.heap.get? b = some o → h'.get? b = some o) → Part h' x C dx fs' → Q .next { s with heap := h', toks := tk }) → wpAny (model prog w) A (execs (l.map As.S) env) Q E s
  | _, _, s, .nil, _, _, P, _, _, _, h => wpAny_execs_nil (h s.heap s.toks (fun _ _ _ e => e) P)
  | _, _, s, .cons e r, hf, X, P, hn, hne, hz, h => by
    refine wpAny_execs_cons (put1 c (hf _ List.mem_cons_self) X P (by simp only [List.length_cons] at hz; omega) hk hn hs hb e fun h' tk k' P' dne => ?_)
    refine puts c hk hs hb hKx r (fun a ha => hf a (List.mem_cons_of_mem _ ha)) (keep_ne X hKx k') P' (hn.at fun o q => k' _ o hne q) hne (by simp only [List.length_cons] at hz ⊢; omega) fun h2 tk2 k2 P2 => ?_
    exact h h2 tk2 (fun b o hb e => k2 b o hb (k' b o hb e)) P2
end
/-! ### the call of the base's __init__ -/
section
variable {prog : Program} {w : World} {A : Around} {E : Value → Shared → Prop} {s : Shared} {K : Frag} {env : Env} {m : Str → Option Value} {b : List (Str × V)} {x C D so t : Addr} {sa : List (Ar × Nat × Pos)} {vs : List V} {pos : Pos} {pl : Sem Bool} {Q : Value → Shared → Prop}
theorem exc_inst {h : Heap} (hx : h.get? x = some (excO C t)) : InstAt h x (excO C t) C none := ⟨hx, rfl, rfl, trivial⟩
theorem sup_ve (c : Ec K C) (ib : ks_superIn K C D "__init__" = some (some (.builtin "ValueError.__init__"))) (hop : nsIn K cStatics "thirdparty.any" = some none) (X : K.In s.heap) (hso : s.heap.get? so = some (ks_superObj D x C)) (hx : s.heap.get? x = some (excO C t))
    (hk : env.scope.kind = .function) (hn : s.heap.Ns env.locals m) (hb : Held env m b) (o : Ofs b sa vs) (ne : sa ≠ []) (hz : vs.length ≤ sizeLine)
    (h : ∀ h' tk t', (∀ b o, b ≠ x → s.heap.get? b = some o → h'.get? b = some o) → h'.get? x = some (excO C t') → Q .none { s with heap := h', toks := tk }) :
    wpAny (model prog w) A (getMethod (.ref so) "__init__" pl) (fun fx s₂ => wpAny (model prog w) A (callWith pos fx.1 fx.2 (backTo pos (starEach (arsE sa) env)) []) Q E s₂) E s := by
  obtain ⟨cd, hcd, hm, hh, _⟩ := cls_of c
  have hxC := ks_ne X (exc_inst hx) hcd
  have hI : Looks (model prog w) s.heap (isInstance (.ref x) (.type "ValueError")) true := (exc_inst hx).type.andThen (looks_subIn X c.exV)
  obtain ⟨nm, q, N, bs, bm, sn, sub, ab, col, dd, k0, k1, k2, k3, k5, hC, hbm⟩ := c.cls
  unfold ks_superIn at ib
  rw [hcd] at ib
  obtain ⟨hp, g, d, tk, os⟩ := s
  refine kxs_getMethod kxs_ValueError hso (looks_opaque X hop) (l₀ := cd.mro) (fun A Q E s k q => wpAny_bind ((looks_clsIn X hcd) A _ E s k (wpAny_pure q))) rfl X ib hI hxC (by decide) ?_
  have k : ∀ b o, hp.get? b = some o → (hp.push (kxs_mw "ValueError.__init__" x)).get? b = some o := fun b o e => Heap.get?_push_of_some _ e
  refine kxs_callWith (i := "ValueError.__init__") (x := x) (plain_ar sa pos) (ev_args hk (hn.keeps k) hb o ne fun us tk' ru => ⟨Heap.get?_push_at rfl rfl, ?_⟩)
  rw [List.nil_append]
  have e : us.length = vs.length := ru.length.symm
  refine call_ve (s := ⟨hp.push (kxs_mw "ValueError.__init__" x), g, d, tk', os⟩) PySem.F.excBase_ValueError (k _ _ (X _ _ hC)) (Heap.get?_push_at rfl rfl) (k _ _ hx) (show us.length ≤ sizeLine by omega) fun h' t' k' e' => ?_
  exact h h' tk' t' (fun b o hb e => k' b o hb (k b o e)) e'
theorem sup_own {fB : Addr} {r : Nat} {fs : List (Str × V)} (c : Ec K C) (ib : ks_superIn K C D "__init__" = some (some (.ref fB))) (hfB : ∃ od dt osl, K.lookup fB = some ⟨.type "function", od, .func dt, osl⟩) (iB : InitTo prog w K C fB r vs fs) (G : Gd K s.heap)
    (hso : s.heap.get? so = some (ks_superObj D x C)) (hx : s.heap.get? x = some (excO C t)) (hKx : K.lookup x = none)
    (hk : env.scope.kind = .function) (hn : s.heap.Ns env.locals m) (hb : Held env m b) (o : Ofs b sa vs) (ne : sa ≠ []) (hroom : A.depth + r ≤ recursionLimit)
    (h : ∀ h' tk dx, InitEnd s.heap h' x C dx fs → Q .none { s with heap := h', toks := tk }) :
    wpAny (model prog w) A (getMethod (.ref so) "__init__" pl) (fun fx s₂ => wpAny (model prog w) A (callWith pos fx.1 fx.2 (backTo pos (starEach (arsE sa) env)) []) Q E s₂) E s := by
  have X := G.kin
  obtain ⟨cd, hcd, hm, hh, _⟩ := cls_of c
  have hxC := ks_ne X (exc_inst hx) hcd
  obtain ⟨od, dt, osl, hfB⟩ := hfB
  unfold ks_superIn at ib
  rw [hcd] at ib
  obtain ⟨hp, g, d, tk, os⟩ := s
  refine ks_wpAny_getMethod_super hso (looks_opaque X G.opq) (l₀ := cd.mro) (fun A Q E s k q => wpAny_bind ((looks_clsIn X hcd) A _ E s k (wpAny_pure q))) rfl X ib (X _ _ hfB) rfl hxC (by decide) ?_
  have k : ∀ b o, hp.get? b = some o → (hp.push (moO fB x)).get? b = some o := fun b o e => Heap.get?_push_of_some _ e
  refine callWith_mo (plain_ar sa pos) (ev_args hk (hn.keeps k) hb o ne fun us tk' ru => ⟨⟨Heap.get?_push_at rfl rfl, _, _, k _ _ (X _ _ hfB), rfl⟩, ?_⟩)
  refine wpAny_call (ks_codeAny_call_bound (Heap.get?_push_at rfl rfl) ?_)
  refine iB _ _ ⟨hp.push (moO fB x), g, d, tk', os⟩ x t us (G.keeps k) (k _ _ hx) hKx ru ?_ fun h' tk2 dx I => ?_
  · exact hroom
  · have hsz : hp.objs.size ≤ (hp.push (moO fB x)).objs.size := by rw [Heap.size_push]; omega
    exact h h' tk2 dx ⟨fun b o hb e => I.keep b o hb (k b o e), Nat.le_trans hsz I.dbig, I.dne, I.part⟩
end
/-! ### the __init__ itself -/
/-- at f a def __init__(self, ps..) whose cell __class__ holds D -/
structure InitDef (prog : Program) (K : Frag) (f D : Addr) (ps : List Str) (body : List Stmt) : Prop where
  ok : ∃ (cc : Addr) (od : Option Addr) (qual : Str) (params : Arguments) (dV kV doc pm : Value) (an : Option Addr) (cda : Addr) (ct : Value) (osl : Array (Option Value)),
    K.lookup f = some ⟨.type "function", od, .func (fnX "__init__" qual params body (scI ps) [("__class__", cc)] dV kV doc pm an (.ref cda) ct), osl⟩ ∧ codeIn K (.ref cda) qual = true ∧
    (∃ ccl cdd vs ccs file tf, K.lookup cda = some ⟨ccl, cdd, .fields vs, ccs⟩ ∧ vs[2]? = some (.str file tf) ∧ (prog.main.file == file) = true) ∧
    (∃ cl cld csl, K.lookup cc = some ⟨cl, cld, .cell (some (.ref D)), csl⟩) ∧ (∃ ar, (params.posonlyargs ++ params.args).head? = some ar ∧ ar.arg = "self") ∧
    (∀ (s : Shared) (x : Addr) (us : List Value), us.length = ps.length → BindsTo s (fnX "__init__" qual params body (scI ps) [("__class__", cc)] dV kV doc pm an (.ref cda) ct) ⟨.ref x :: us, []⟩ ((("self" : Str), .ref x) :: ps.zip us))
  cls : (clsIn K D).isSome = true
  top : (prog.main.scope.names.lookup ("super" : Str)).isSome = false
  nf : ("__class__" : Str) ∉ ps ∧ ("super" : Str) ∉ ps
  nd : (("self" : Str) :: ps).Nodup
  ndb : ("__debug__" : Str) ∉ ps
theorem lk_of_mem {α : Type} : ∀ {l : List (Str × α)} {x : Str} {u : α}, (l.map (·.1)).Nodup → (x, u) ∈ l → l.lookup x = some u
  | [], _, _, _, h => by cases h
  | (y, v) :: l, x, u, nd, h => by
    rw [List.lookup_cons]
    rw [List.map_cons, List.nodup_cons] at nd
    rcases List.mem_cons.mp h with e | e
    · cases e
      rw [beq_self_eq_true]
    · have ne : x ≠ y := fun z => nd.1 (by rw [← z]; exact List.mem_map.mpr ⟨_, e, rfl⟩)
      have q : (x == y) = false := by simpa using ne
      rw [q]
      exact lk_of_mem nd.2 e
theorem zip_rel : ∀ {ps : List Str} {vs : List V} {us : List Value} {x : Str} {v : V}, Vals vs us → (ps.zip vs).lookup x = some v → x ∈ ps ∧ ∃ u, (x, u) ∈ ps.zip us ∧ RelV v u
  | [], _, _, _, _, _, e => by cases e
  | _ :: _, _, _, _, _, .nil, e => by cases e
  | p :: ps, _, _, x, v, .cons r rs, e => by
    rw [List.zip_cons_cons, List.lookup_cons] at e
    by_cases c : x = p
    · subst c
      rw [beq_self_eq_true] at e
      cases e
      exact ⟨List.mem_cons_self, _, List.mem_cons_self, r⟩
    · have q : (x == p) = false := by simpa using c
      rw [q] at e
      obtain ⟨h1, u, h2, h3⟩ := zip_rel rs e
      exact ⟨List.mem_cons_of_mem _ h1, u, List.mem_cons_of_mem _ h2, h3⟩
theorem zip_fst : ∀ {ps : List Str} {us : List Value}, us.length = ps.length → (ps.zip us).map (·.1) = ps
  | [], [], _ => rfl
  | p :: ps, u :: us, h => by
    rw [List.zip_cons_cons, List.map_cons, zip_fst (Nat.succ.inj h)]
  | [], _ :: _, h => by cases h
  | _ :: _, [], h => by cases h
section
variable {prog : Program} {w : World} {A : Around} {E : Value → Shared → Prop} {R : Result → Shared → Prop} {s : Shared} {K : Frag} {f D x C t0 : Addr} {ps : List Str} {body : List Stmt} {vs : List V} {us : List Value}
/-- the frame is entered: what the body finds -/
theorem enter (d : InitDef prog K f D ps body) (G : Gd K s.heap) (hroom : A.depth < recursionLimit) (hv : Vals vs us) (hl : vs.length = ps.length)
    (h : ∀ (env : Env) (m : Str → Option Value) (h₀ : Heap) (tk : Nat), env.scope.kind = .function → h₀.Ns env.locals m → env.locals = s.heap.objs.size → Held env m (ps.zip vs) → (env.kindOf "self" = some .local ∧ m "self" = some (.ref x)) →
      (∀ b o, s.heap.get? b = some o → h₀.get? b = some o) →
      (∀ {A' : Around} {whole : Sem Value} {Q : Value → Shared → Prop} {E : Value → Shared → Prop} {p0 p1 : Pos} {C : Addr} {ox : Obj} {s' : Shared}, Gd K s'.heap → s'.heap.Ns env.locals m → s'.heap.get? x = some ox → ox.cls = .ref C → (∀ c, ox.data ≠ .cls c) → mroIn K C (.ref D) = some true →
        (∀ h', h'.get? s'.heap.objs.size = some (ks_superObj D x C) → (∀ b o, s'.heap.get? b = some o → h'.get? b = some o) → Q (.ref s'.heap.objs.size) { s' with heap := h' }) →
        PySem.wpAt (model prog w) A' (.func body env) (attributeBase (.Call (.Name "super" p0) [] [] p1) "__init__" env whole) Q E s') →
      (env.scope.kind = .function → interactive env = false) →
      ∃ Efin, PySem.wpAt (model prog w) (A.deeper env) (.func body env) (execs body env) (fun fl s' => R (.ok (.ret (match fl with | .ret v => v | _ => .none))) s') Efin { s with heap := h₀, toks := tk } ∧ ∀ e s', ¬ Efin e s') :
    codeAny (model prog w) A (.call (.ref f) ⟨.ref x :: us, []⟩) R s := by
  obtain ⟨cc, od, qual, params, dV, kV, doc, pm, an, cda, ct, osl, lk, hcd, hfile, hcell, har, hbind⟩ := d.ok
  have X := G.kin
  have hul : us.length = ps.length := hv.length.symm.trans hl
  have hkey : (((("self" : Str), Value.ref x) :: ps.zip us).map (·.1)) = ("self" : Str) :: ps := by rw [List.map_cons, zip_fst hul]
  have loc : ∀ y ∈ ("self" : Str) :: ps, (scI ps).names.lookup y = some NameKind.local := by
    intro y hy
    rcases List.mem_cons.mp hy with e | e
    · rw [e] <;> rfl
    · exact scI_loc ps e
  refine ks_codeAny_call_defAt (binds := (("self" : Str), .ref x) :: ps.zip us) hroom (X _ _ lk) rfl G.lim (codeRec_of X hcd) rfl (hbind s x us hul) ?_ ?_ (fun h₀ hn k => ?_) rfl rfl rfl
  · intro y hy
    have hy : y ∈ (("self" : Str), NameKind.local) :: ((ps.map fun (f : Str) => (f, NameKind.local)) ++ [(("__class__" : Str), NameKind.free), (("super" : Str), NameKind.globalImplicit)]) := hy
    simp only [List.mem_cons, List.mem_append, List.mem_map, List.not_mem_nil, or_false] at hy
    rcases hy with e | ⟨_, _, e⟩ | e | e
    · rw [e]; decide
    · rw [← e]; exact fun z => by cases z
    · rw [e]; decide
    · rw [e]; decide
  · intro y hy
    refine loc y.1 ?_
    have := List.mem_map.mpr ⟨y, hy, (rfl : y.1 = y.1)⟩
    rw [hkey] at this
    exact this
  · have hself : ((("self" : Str), Value.ref x) :: ps.zip us).reverse.lookup ("self" : Str) = some (.ref x) := by
      refine lk_of_mem ?_ (List.mem_reverse.mpr List.mem_cons_self)
      rw [List.map_reverse, hkey]
      exact List.pairwise_reverse.mpr (d.nd.imp fun h => Ne.symm h)
    have hheld : Held (callEnv (fnX "__init__" qual params body (scI ps) [("__class__", cc)] dV kV doc pm an (.ref cda) ct) s.heap.objs.size f) (fun y => ((("self" : Str), Value.ref x) :: ps.zip us).reverse.lookup y) (ps.zip vs) := by
      intro y v e
      obtain ⟨h1, u, h2, h3⟩ := zip_rel hv e
      refine ⟨loc _ (List.mem_cons_of_mem _ h1), (by simpa using fun z => d.ndb (by rw [← z]; exact h1)), u, ?_, h3⟩
      refine lk_of_mem ?_ (List.mem_reverse.mpr (List.mem_cons_of_mem _ h2))
      rw [List.map_reverse, hkey]
      exact List.pairwise_reverse.mpr (d.nd.imp fun h => Ne.symm h)
    obtain ⟨Efin, w1, w2⟩ := h (callEnv (fnX "__init__" qual params body (scI ps) [("__class__", cc)] dV kV doc pm an (.ref cda) ct) s.heap.objs.size f) (fun y => ((("self" : Str), Value.ref x) :: ps.zip us).reverse.lookup y) h₀ (s.toks + ((("self" : Str), Value.ref x) :: ps.zip us).length) rfl hn rfl hheld ⟨loc _ List.mem_cons_self, hself⟩ k
      (fun {A' whole Q E p0 p1 C ox s'} G' hn' hx hxc hnc hsub q => by
        obtain ⟨ccl, cdd, vs', ccs, file, tf, e1, e2, e3⟩ := hfile
        exact at_super G' lk ⟨ccl, cdd, vs', ccs, file, tf, e1, e2, e3⟩ hcell d.cls d.top har d.nf hn' hself hx hxc hnc hsub q) (fun _ => rfl)
    exact ks_wpAt_mono w1 (fun _ _ z => z) fun e s' z => (w2 e s' z).elim
theorem eval_sup {env : Env} {q0 q1 q2 q3 : Pos} {line : Nat} {sa : List (Ar × Nat × Pos)} (hq : (q2.endLine == q3.line) = true) (hl : sa.length < 30) : (∃ pl : Sem Bool, eval (.Call (.Attribute (.Call (.Name "super" q0) [] [] q1) "__init__" q2) (arsE sa) [] q3) env = (do
      let ov ← attributeBase (.Call (.Name "super" q0) [] [] q1) "__init__" env (eval (.Call (.Name "super" q0) [] [] q1) env)
      standAt q2.atName
      let (f, first) ← holding [ov] (getMethod ov "__init__" pl)
      callWith q3 f first (backTo q3 (starEach (arsE sa) env)) [])) ∧ swapsWith (.Call (.Attribute (.Call (.Name "super" q0) [] [] q1) "__init__" q2) (arsE sa) [] q3) none line env = pure false := by
  have few : methodCallForm ((arsE sa).length + 0) (backTo q3 (starEach (arsE sa) env)) [] = true := by
    have h1 : (backTo q3 (starEach (arsE sa) env)).all (!·.1) = true := by
      have := plain_ar (env := env) sa q3
      rw [List.all_eq_true]
      intro y hy
      rw [List.any_eq_false] at this
      simpa using this y hy
    have h2 : (arsE sa).length + 0 + 0 < 30 := by
      unfold arsE
      rw [List.length_map]
      exact hl
    unfold methodCallForm
    rw [h1]
    simpa using h2
  refine ⟨⟨(do return (← importBound (.Call (.Name "super" q0) [] [] q1) env).getD true), ?_⟩, rfl⟩
  show (do let ov ← attributeBase (.Call (.Name "super" q0) [] [] q1) "__init__" env (eval (.Call (.Name "super" q0) [] [] q1) env); standAt q2.atName; methodCall (.Call (.Name "super" q0) [] [] q1) "__init__" q2 q3 env ov ((arsE sa).length + 0) (backTo q3 (starEach (arsE sa) env)) []) = _
  unfold methodCall
  rw [few]
  simp only [calleeOf, methodCallPos, hq, Bool.or_true, if_true]
  rfl
theorem init_sub {fB : Addr} {r : Nat} {sa : List (Ar × Nat × Pos)} {as : List As} {vA : List V} {fs0 fs : List (Str × V)} {q0 q1 q2 q3 q4 : Pos} (c : Ec K C) (d : InitDef prog K f D ps (supL q0 q1 q2 q3 q4 (arsE sa) :: as.map As.S)) (hsub : mroIn K C (.ref D) = some true)
    (ib : ks_superIn K C D "__init__" = some (some (.ref fB))) (hfB : ∃ od dt osl, K.lookup fB = some ⟨.type "function", od, .func dt, osl⟩) (iB : InitTo prog w K C fB r vA fs0) (o : Ofs (ps.zip vs) sa vA) (gd : sa ≠ []) (hg : sa.length < 30) (hq2 : (q2.endLine == q3.line) = true) (p : Puts (ps.zip vs) as fs0 fs)
    (hf : ∀ a ∈ as, findIn K (.ref C) a.f = some none) (hl : vs.length = ps.length) (hr : 1 ≤ r) (hz : fs0.length + as.length ≤ 500) : InitTo prog w K C f (r + 1) vs fs := by
  intro A R s x t0 us G hx hKx hv hroom hq
  refine enter d G (by omega) hv hl fun env m h₀ tk hk hn heq hb hs k sup hi => ⟨fun _ _ => False, ?_, fun _ _ z => z⟩
  have hsz : s.heap.objs.size ≠ x := Nat.ne_of_gt (Heap.lt_size hx)
  obtain ⟨⟨pl, hpl⟩, hsw⟩ := eval_sup (env := env) (q0 := q0) (q1 := q1) (q2 := q2) (q3 := q3) (line := q4.line) hq2 hg
  refine ks_wpAt_execs_cons (ks_wpAt_Expr_any (ks_wpAt_MethodCall (pl := pl) (sup (s' := { s with heap := h₀, toks := tk }) (G.keeps k) hn (k _ _ hx) rfl (fun _ z => by cases z) hsub fun h' e' k' => ?_) hpl) (hi hk) hsw)
  refine sup_own c ib hfB iB ((G.keeps k).keeps k') e' (k' _ _ (k _ _ hx)) hKx hk (hn.keeps k') hb o gd (by show A.depth + 1 + r ≤ _; omega) fun h2 tk2 dx I => ?_
  have kk : ∀ b o, b ≠ x → s.heap.get? b = some o → h2.get? b = some o := fun b o hb e => I.keep b o hb (k' b o (k b o e))
  have hKd : K.lookup dx = none := by
    refine notK G.kin ?_
    cases e : s.heap.get? dx with
    | none => rfl
    | some od =>
      have := Heap.lt_size (k' _ _ (k _ _ e))
      exact absurd I.dbig (Nat.not_le_of_lt this)
  have big : s.heap.objs.size < dx := by
    have z : s.heap.objs.size < h₀.objs.size := by
      have := hn.lt
      rw [heq] at this
      exact this
    refine Nat.lt_of_lt_of_le z (Nat.le_trans ?_ I.dbig)
    exact Nat.le_trans (Nat.le_succ _) (Heap.lt_size e')
  refine wpAt_of_wpAny (puts c hk hs hb hKd p hf (keep_ne (G.kin.keeps k |>.keeps k') hKx I.keep) I.part ((hn.keeps k').at fun o q => I.keep _ o (by rw [heq]; exact hsz) q) (by rw [heq]; exact Nat.ne_of_lt big) hz fun h3 tk3 k3 P3 => ?_)
  refine hq h3 tk3 dx ⟨fun b o hb e => k3 b o (Nat.ne_of_lt (Nat.lt_trans (Heap.lt_size e) big)) (kk b o hb e), Nat.le_of_lt big, I.dne, P3⟩
theorem init_ve {sa : List (Ar × Nat × Pos)} {a : As} {vA : List V} {v : V} {q0 q1 q2 q3 q4 : Pos} (c : Ec K C) (d : InitDef prog K f D ps (supL q0 q1 q2 q3 q4 (arsE sa) :: [a.S])) (hsub : mroIn K C (.ref D) = some true)
    (ib : ks_superIn K C D "__init__" = some (some (.builtin "ValueError.__init__"))) (o : Ofs (ps.zip vs) sa vA) (gd : sa ≠ []) (hg : sa.length < 30) (hq2 : (q2.endLine == q3.line) = true) (hzA : vA.length ≤ sizeLine) (e : a.a.of (ps.zip vs) v)
    (hf : findIn K (.ref C) a.f = some none) (hl : vs.length = ps.length) : InitTo prog w K C f 1 vs [(a.f, v)] := by
  intro A R s x t0 us G hx hKx hv hroom hq
  refine enter d G (by omega) hv hl fun env m h₀ tk hk hn heq hb hs k sup hi => ⟨fun _ _ => False, ?_, fun _ _ z => z⟩
  have hsz : s.heap.objs.size ≠ x := Nat.ne_of_gt (Heap.lt_size hx)
  obtain ⟨cd, hcd, hm, hh, _⟩ := cls_of c
  obtain ⟨⟨pl, hpl⟩, hsw⟩ := eval_sup (env := env) (q0 := q0) (q1 := q1) (q2 := q2) (q3 := q3) (line := q4.line) hq2 hg
  refine ks_wpAt_execs_cons (ks_wpAt_Expr_any (ks_wpAt_MethodCall (pl := pl) (sup (s' := { s with heap := h₀, toks := tk }) (G.keeps k) hn (k _ _ hx) rfl (fun _ z => by cases z) hsub fun h' e' k' => ?_) hpl) (hi hk) hsw)
  refine sup_ve c ib G.opq ((G.keeps k).keeps k').kin e' (k' _ _ (k _ _ hx)) hk (hn.keeps k') hb o gd hzA fun h2 tk2 t' k2 hx2 => ?_
  have kk : ∀ b o, b ≠ x → s.heap.get? b = some o → h2.get? b = some o := fun b o hb e => k2 b o hb (k' b o (k b o e))
  have X2 : K.In h2 := keep_ne G.kin hKx kk
  have hn2 : h2.Ns env.locals m := (hn.keeps k').at fun o q => k2 _ o (by rw [heq]; exact hsz) q
  have big : s.heap.objs.size < h2.objs.size := by
    have := hn2.lt
    rw [heq] at this
    exact this
  refine wpAt_of_wpAny (wpAny_execs_cons (plainObj_wpAny_Assign_Attribute ?_ (by obtain ⟨f, a, k, p0, p1, p2, p3⟩ := a; cases a <;> rfl)))
  refine ev_ar hk hn2 hb e fun u tk3 ru => wpAny_Name (PySem.wpAny_loadName_local hk hs.1 hn2 hs.2 ?_) (by decide)
  refine set_plain (s := { s with heap := h2, toks := tk3 }) (od := none) X2 ⟨hx2, rfl, rfl, trivial⟩ c.sa ?_
  refine exc_osa X2 hx2 hcd hm hh hf fun h3 tk4 dx k3 dbig dne hx3 hns3 => ?_
  refine wpAny_execs_nil (hq h3 tk4 dx ⟨fun b o hb e => k3 b o hb (kk b o hb e), Nat.le_of_lt (Nat.lt_of_lt_of_le big dbig), dne, ⟨⟨t', hx3⟩, ⟨_, [a.f], hns3, ?_, Within.cons _ _ Within.nil, Nat.le_refl _⟩⟩⟩)
  exact relO_put ru (fs := []) (m := fun _ => none) (fun _ => trivial)
end
/-- a made error -/
structure Made (h h' : Heap) (e C d : Addr) (fs : List (Str × V)) : Prop where
  keep : ∀ b o, h.get? b = some o → h'.get? b = some o
  new : h.objs.size ≤ e
  dbig : h.objs.size ≤ d
  dne : d ≠ e
  part : Part h' e C d fs
section
variable {prog : Program} {w : World} {A : Around} {R : Result → Shared → Prop} {s : Shared} {K : Frag} {C fI : Addr} {vs : List V} {us : List Value}
/-- C(..) -/
theorem made {r : Nat} {fs : List (Str × V)} (c : Ec K C) (iC : findIn K (.ref C) "__init__" = some (some (.ref fI))) (tI : typeIn K (.ref fI) = some (.type "function")) (iT : InitTo prog w K C fI r vs fs) (G : Gd K s.heap) (hv : Vals vs us) (hz : us.length ≤ sizeLine) (hroom : A.depth + 1 + r ≤ recursionLimit)
    (hq : ∀ h' tk e d, Made s.heap h' e C d fs → R (.ok (.ret (.ref e))) { s with heap := h', toks := tk }) : codeAny (model prog w) A (.call (.ref C) ⟨us, []⟩) R s := by
  obtain ⟨nm, q, N, bs, bm, sn, sub, ab, col, dd, k0, k1, k2, k3, k5, hC, hbm⟩ := c.cls
  obtain ⟨hp, g, dr, tk, os⟩ := s
  have X := G.kin
  have k : ∀ b o, hp.get? b = some o → ((hp.push (kdv_tup us)).push (excO C hp.objs.size)).get? b = some o := fun b o e => Heap.get?_push_of_some _ (Heap.get?_push_of_some _ e)
  have hget : ((hp.push (kdv_tup us)).push (excO C hp.objs.size)).get? (hp.objs.size + 1) = some (excO C hp.objs.size) := by heap_get
  have hnx : K.lookup (hp.objs.size + 1) = none := by
    cases e : K.lookup (hp.objs.size + 1) with
    | none => rfl
    | some o =>
      have z : hp.get? (hp.objs.size + 1) = some o := X _ _ e
      exact absurd (Nat.lt_of_succ_lt (Heap.lt_size z)) (Nat.lt_irrefl _)
  refine call_own PySem.F.excBase_ValueError (fun X => refsVE_contains X bm hbm) (X _ _ hC) (looks_findIn X iC) (fun self => bind_fn X self tI) hz ?_
  refine iT _ _ ⟨(hp.push (kdv_tup us)).push (excO C hp.objs.size), g, dr, tk, os⟩ (hp.objs.size + 1) hp.objs.size us (G.keeps k) hget hnx hv ?_ fun h' tk' dx I => ?_
  · show A.depth + 1 + r ≤ recursionLimit
    exact hroom
  · have old : ∀ b o, hp.get? b = some o → h'.get? b = some o := fun b o e => I.keep b o (Nat.ne_of_lt (Nat.lt_succ_of_lt (Heap.lt_size e))) (k b o e)
    have z : hp.objs.size ≤ dx := by
      have q := I.dbig
      rw [Heap.size_push, Heap.size_push] at q
      omega
    exact ⟨rfl, hq h' tk' (hp.objs.size + 1) dx ⟨old, Nat.le_succ _, z, I.dne, I.part⟩⟩
end
/-! ### the text of the inits, as the classes of this program write them -/
structure Frm (body : List Stmt) (sa : List Ar) (as : List (Str × Ar)) : Prop where
  ok : ∃ (q0 q1 q2 q3 q4 : Pos) (sl : List (Ar × Nat × Pos)) (al : List As), body = supL q0 q1 q2 q3 q4 (arsE sl) :: al.map As.S ∧ sl.map (·.1) = sa ∧ al.map (fun a => (a.f, a.a)) = as ∧ (q2.endLine == q3.line) = true
def errF (ps : List Str) (t : Str) (vs : List V) : List (Str × V) := (ps.zip vs).reverse ++ [(("reason" : Str), .str t)]
theorem puts_zip {b : List (Str × V)} : ∀ {al : List As} {ps : List Str} {vs : List V} {fs : List (Str × V)}, al.map (fun a => (a.f, a.a)) = ps.map (fun p => (p, Ar.par p)) → vs.length = ps.length → (∀ p ∈ ps.zip vs, b.lookup p.1 = some p.2) → Puts b al fs ((ps.zip vs).reverse ++ fs)
  | [], [], [], _, _, _, _ => .nil
  | a :: al, p :: ps, v :: vs, fs, h, hl, hb => by
    rw [List.map_cons, List.map_cons] at h
    injection h with h1 h2
    injection h1 with h1 h3
    have ih := puts_zip (b := b) (fs := (p, v) :: fs) h2 (Nat.succ.inj hl) fun q hq => hb q (List.mem_cons_of_mem _ hq)
    rw [List.zip_cons_cons, List.reverse_cons, List.append_assoc]
    refine .cons (v := v) ?_ (by rw [h1]; exact ih)
    rw [h3]
    exact hb (p, v) List.mem_cons_self
  | [], _ :: _, _, _, h, _, _ => by cases h
  | _ :: _, [], _, _, h, _, _ => by cases h
  | _, [], _ :: _, _, _, h, _ => by cases h
  | _, _ :: _, [], _, _, h, _ => by cases h
theorem zip_lk {ps : List Str} {vs : List V} (nd : ps.Nodup) (hl : vs.length = ps.length) : ∀ p ∈ ps.zip vs, (ps.zip vs).lookup p.1 = some p.2 := by
  intro p hp
  refine lk_of_mem ?_ hp
  have : (ps.zip vs).map (·.1) = ps := by
    clear hp nd
    induction ps generalizing vs with
    | nil => simp
    | cons q qs ih =>
      cases vs with
      | nil => cases hl
      | cons v vs => rw [List.zip_cons_cons, List.map_cons, ih (Nat.succ.inj hl)]
  rw [this]
  exact nd
theorem map_one {α β : Type} {g : α → β} {l : List α} {b : β} (h : l.map g = [b]) : ∃ a, l = [a] ∧ g a = b := by
  cases l with
  | nil => cases h
  | cons a l =>
    cases l with
    | nil => exact ⟨a, rfl, (List.cons.inj h).1⟩
    | cons _ _ => cases h
section
variable {P : Program} {w : World} {K : Frag} {C C0 f f0 : Addr} {ps : List Str} {body body0 : List Stmt} {t : Str}
theorem fork_to (c : Ec K C) (d : InitDef P K f0 C0 ["reason"] body0) (fr : Frm body0 [.par "reason"] [("reason", .par "reason")]) (hsub : mroIn K C (.ref C0) = some true) (ib : ks_superIn K C C0 "__init__" = some (some (.builtin "ValueError.__init__")))
    (hf : findIn K (.ref C) "reason" = some none) (v : V) : InitTo P w K C f0 1 [v] [("reason", v)] := by
  obtain ⟨q0, q1, q2, q3, q4, sl, al, rfl, e1, e2, e3⟩ := fr.ok
  have hlk : ((["reason"] : List Str).zip [v]).lookup ("reason" : Str) = some v := by simp [List.zip, List.zipWith, List.lookup]
  obtain ⟨⟨a, k, p⟩, rfl, e9⟩ := map_one e1
  clear e1
  have e9 : a = _ := e9
  subst e9
  obtain ⟨a1, rfl, e8⟩ := map_one e2
  injection e8 with e4 e5
  have := init_ve (vs := [v]) (vA := [v]) (v := v) (a := a1) (w := w) c d hsub ib (.cons hlk .nil) (by simp) (by simp) e3 (by rw [sizeLine_eq]; exact (by decide : 1 ≤ 16777216)) (by rw [e5]; exact hlk) (by rw [e4]; exact hf) rfl
  rw [e4] at this
  exact this
theorem sub_to (c : Ec K C) (d : InitDef P K f C ps body) (fr : Frm body [.lit t] (ps.map fun p => (p, .par p))) (hsub : mroIn K C (.ref C) = some true) (ib : ks_superIn K C C "__init__" = some (some (.ref f0))) (hf0 : ∃ od dt osl, K.lookup f0 = some ⟨.type "function", od, .func dt, osl⟩)
    (iB : ∀ v, InitTo P w K C f0 1 [v] [("reason", v)]) (hf : ∀ p ∈ ps, findIn K (.ref C) p = some none) (hps : ps.length ≤ 100) (vs : List V) (hl : vs.length = ps.length) : InitTo P w K C f 2 vs (errF ps t vs) := by
  obtain ⟨q0, q1, q2, q3, q4, sl, al, rfl, e1, e2, e3⟩ := fr.ok
  have hal : al.length = ps.length := by
    have := congrArg List.length e2
    simpa using this
  obtain ⟨⟨a, k, p⟩, rfl, e9⟩ := map_one e1
  clear e1
  have e9 : a = _ := e9
  subst e9
  refine init_sub (r := 1) (sa := [(.lit t, k, p)]) (vA := [.str t]) (fs0 := [("reason", .str t)]) c d hsub ib hf0 (iB _) (.cons rfl .nil) (by simp) (by simp) e3 (puts_zip e2 hl (zip_lk ?_ hl)) (fun a ha => ?_) hl (Nat.le_refl _) (by simp only [List.length_cons, List.length_nil]; omega)
  · exact (List.nodup_cons.mp d.nd).2
  · have : (a.f, a.a) ∈ al.map (fun a => (a.f, a.a)) := List.mem_map.mpr ⟨a, ha, rfl⟩
    rw [e2] at this
    obtain ⟨p, hp, e⟩ := List.mem_map.mp this
    injection e with e _
    rw [← e]
    exact hf p hp
end
/-- what is asked of a class at once -/
def ecB (K : Frag) (C : Addr) (fs : List Str) : Bool :=
  decide (findIn K (.ref C) "__setattr__" = some (some (.builtin "object.__setattr__"))) && (decide (subIn K (.ref C) (.type "ValueError") = some true) && (keepIn K (.ref C) && (decide (typeIn K (.ref C) = some (.type "type")) && (L2.xfB K C && (decide (mroIn K C (.ref C) = some true) &&
    fs.all fun f => decide (findIn K (.ref C) f = some none))))))
structure EcB (K : Frag) (C : Addr) (fs : List Str) : Prop where
  sa : findIn K (.ref C) "__setattr__" = some (some (.builtin "object.__setattr__"))
  exV : subIn K (.ref C) (.type "ValueError") = some true
  kC : keepIn K (.ref C) = true
  tyC : typeIn K (.ref C) = some (.type "type")
  xf : L2.XfC K C
  mr : mroIn K C (.ref C) = some true
  no : ∀ f ∈ fs, findIn K (.ref C) f = some none
theorem ecB_ok {K : Frag} {C : Addr} {fs : List Str} (h : ecB K C fs = true) : EcB K C fs := by
  obtain ⟨h1, h⟩ := Bool.and_eq_true_iff.mp h
  obtain ⟨h2, h⟩ := Bool.and_eq_true_iff.mp h
  obtain ⟨h3, h⟩ := Bool.and_eq_true_iff.mp h
  obtain ⟨h4, h⟩ := Bool.and_eq_true_iff.mp h
  obtain ⟨h5, h⟩ := Bool.and_eq_true_iff.mp h
  obtain ⟨h6, h7⟩ := Bool.and_eq_true_iff.mp h
  exact ⟨of_decide_eq_true h1, of_decide_eq_true h2, h3, of_decide_eq_true h4, L2.xfB_ok h5, of_decide_eq_true h6, fun f hf => of_decide_eq_true (List.all_eq_true.mp h7 f hf)⟩
open PySem.Spec in
theorem idef_mk {P : Program} {K : Frag} {st : Stmt} {ps : List Str} {f D cc cda : Addr} {qual file : Str} {tf : Tok} {od an cdd cld : Option Addr} {dV kV doc pm ct ccl cl : Value} {osl ccs csl : Array (Option Value)} {vs : Array Value}
    (l : K.lookup f = some ⟨.type "function", od, .func (fnX "__init__" qual (L2.defArgs st) (L2.defBody st) (L2.defScope st) [("__class__", cc)] dV kV doc pm an (.ref cda) ct), osl⟩) (hc : codeIn K (.ref cda) qual = true)
    (lc : K.lookup cda = some ⟨ccl, cdd, .fields vs, ccs⟩) (hv : vs[2]? = some (.str file tf)) (hf : (P.main.file == file) = true) (cell : K.lookup cc = some ⟨cl, cld, .cell (some (.ref D)), csl⟩) (hD : (clsIn K D).isSome = true)
    (top : (P.main.scope.names.lookup ("super" : Str)).isSome = false) (hs : L2.defScope st = scI ps) (har : ∃ ar, ((L2.defArgs st).posonlyargs ++ (L2.defArgs st).args).head? = some ar ∧ ar.arg = "self")
    (hb : ∀ (s : Shared) (x : Addr) (us : List Value), us.length = ps.length → BindsTo s (fnX "__init__" qual (L2.defArgs st) (L2.defBody st) (scI ps) [("__class__", cc)] dV kV doc pm an (.ref cda) ct) ⟨.ref x :: us, []⟩ ((("self" : Str), .ref x) :: ps.zip us))
    (nf : (("__class__" : Str) :: ("super" : Str) :: ("__debug__" : Str) :: ("self" : Str) :: ps).Nodup) : InitDef P K f D ps (L2.defBody st) := by
  obtain ⟨n1, nf⟩ := List.nodup_cons.mp nf
  obtain ⟨n2, nf⟩ := List.nodup_cons.mp nf
  obtain ⟨n3, nf⟩ := List.nodup_cons.mp nf
  rw [hs] at l
  exact ⟨⟨cc, od, qual, L2.defArgs st, dV, kV, doc, pm, an, cda, ct, osl, l, hc, ⟨ccl, cdd, vs, ccs, file, tf, lc, hv, hf⟩, ⟨cl, cld, csl, cell⟩, har, hb⟩, hD, top,
    ⟨fun z => n1 (List.mem_cons_of_mem _ (List.mem_cons_of_mem _ (List.mem_cons_of_mem _ z))), fun z => n2 (List.mem_cons_of_mem _ (List.mem_cons_of_mem _ z))⟩, nf, fun z => n3 (List.mem_cons_of_mem _ z)⟩
theorem idef_fn {P : Program} {K : Frag} {f D : Addr} {ps : List Str} {body : List Stmt} (d : InitDef P K f D ps body) : ∃ od dt osl, K.lookup f = some ⟨.type "function", od, .func dt, osl⟩ := by
  obtain ⟨cc, od, qual, params, dV, kV, doc, pm, an, cda, ct, osl, lk, _⟩ := d.ok
  exact ⟨_, _, _, lk⟩
theorem ec_mk {K : Frag} {C N : Addr} {fs : List Str} {nm q : Str} {bs bm : List Value} {sn : List Str} {sub : List Value} {ab : Bool} {col : Option Bool} {dd : Option Addr} {k0 k1 k2 k3 k5 : Option Value} (b : EcB K C fs)
    (x : K.lookup C = some (excClassObj nm q C N bs bm true sn sub ab col dd k0 k1 k2 k3 k5 "ValueError.__new__")) (h : refsVE bm = true) : Ec K C :=
  ⟨⟨nm, q, N, bs, bm, sn, sub, ab, col, dd, k0, k1, k2, k3, k5, x, h⟩, b.sa, b.exV⟩
theorem ec_cls {K : Frag} {C : Addr} (c : Ec K C) : (clsIn K C).isSome = true := by
  obtain ⟨cd, h, _⟩ := cls_of c
  rw [h] <;> rfl
end ExL
namespace L2
open PySem PySem.Spec PyProof.Rows
/-- what is said of an error class: name in the module, class at C, r rooms for its __init__, n parameters, the fields -/
structure Err (P : Program) (w : World) (K : PySem.W.Frag) (mg : Str → Option Value) (name : Str) (C : Addr) (r n : Nat) (mk : List V → List (Str × V)) : Prop where
  g : mg name = some (.ref C)
  ec : ExL.Ec K C
  ini : ∃ fI, PySem.W.findIn K (.ref C) "__init__" = some (some (.ref fI)) ∧ PySem.W.typeIn K (.ref fI) = some (.type "function") ∧ ∀ vs : List V, vs.length = n → ExL.InitTo P w K C fI r vs (mk vs)
  sup : PySem.W.nsIn K mainGlobals "super" = some none
  opq : PySem.W.nsIn K cStatics "thirdparty.any" = some none
  kC : PySem.W.keepIn K (.ref C) = true
  tyC : PySem.W.typeIn K (.ref C) = some (.type "type")
  xf : XfC K C
section
variable {X : Cx} {C : Addr}
theorem Inv.gd {pins : List (Addr × Obj)} {σ : St} {H : Hp} {s : Shared} (I : Inv X pins σ H s) (h1 : PySem.W.nsIn X.K mainGlobals "super" = some none) (h2 : PySem.W.nsIn X.K cStatics "thirdparty.any" = some none) : ExL.Gd X.K s.heap :=
  ⟨I.kIn, h1, h2, ⟨_, I.mod.glob.keeps I.bk⟩, (let ⟨mb, e, q⟩ := I.mod.blt; ⟨mb, e.keeps I.bk, q _ (by decide)⟩), I.nolimit⟩
theorem Room.er {k r : Nat} {A : Around} (h : Room k A) (l : r ≤ 3) : A.depth + 1 + r ≤ recursionLimit := by
  have := h.dp
  omega
/-- C(e, ..) -/
def tMk (C : Addr) (mk : List V → List (Str × V)) (n : Nat) (ta : TA) : St → Hp → XK → Prop := fun σ H Q => ta σ H fun vs H1 => vs.length = n ∧ ∀ d, H1 d = none → Q (.ref C) (some d) (upd H1 d (.xd (mk vs)))
theorem pmk_err {name : Str} {r n : Nat} {mk : List V → List (Str × V)} {e : Expr} {es : List Expr} {ta : TA} {p pos : Pos} (T : Err X.prog X.w X.K X.mg name C r n mk) (hr : X.A.depth + 1 + r ≤ recursionLimit) (hn : n ≤ sizeLine) (ha : PA X (e :: es) ta) (hg : Gl X name := by rfl)
    (he : starEach (e :: es) X.env = (false, eval e X.env) :: starEach es X.env := by rfl) (hpl : (backTo pos (starEach es X.env)).any (·.1) = false := by rfl) (hd : (name == ("__debug__" : Str)) = false := by decide) :
    L2N.PMk X (.Call (.Name name p) (e :: es) [] pos) (tMk C mk n ta) := by
  intro pins s σ H Q I h
  refine wpAny_Call_Name_kw (ld_glob I hg T.g ?_ hd)
  refine PySem.W.callWith_K (h₀ := X.base) I.ok.mod.kin T.kC (thn (ha.run pos pins s σ H _ I h) fun us s1 hh => ?_) he hpl
  obtain ⟨vs, H1, I1, r1, ev, q1⟩ := hh
  refine ⟨I1.kIn, ?_⟩
  obtain ⟨fI, i1, i2, i3⟩ := T.ini
  have hl : us.length = vs.length := r1.length.symm
  show wpAny _ _ (call (.ref C) us) _ _ _
  obtain ⟨hp, g, dr, tk, os⟩ := s1
  refine wpAny_call (ExL.made T.ec i1 i2 (i3 vs ev) (I1.gd T.sup T.opq) r1 (by omega) hr fun h' tk' e d M => ?_)
  show L2N.MkP X pins σ Q (.ref e) ⟨h', g, dr, tk', os⟩
  obtain ⟨⟨t1, hoe⟩, ⟨mD, nl, hns, hrel, _, _⟩⟩ := M.part
  obtain ⟨G', g1, g2⟩ := restrict h' fun b => decide (b ≠ e)
  have gk : ∀ b, b ≠ e → G'.get? b = h'.get? b := fun b hb => g1 b (decide_eq_true hb)
  have ge : G'.get? e = none := g2 e (by simp)
  have old : ∀ b o, hp.get? b = some o → G'.get? b = some o := fun b o q => (gk b (Nat.ne_of_lt (Nat.lt_of_lt_of_le (Heap.lt_size q) M.new))).trans (M.keep b o q)
  have ob : ObjOk X.prog X.w (upd H1 d (.xd (mk vs))) G' d (.xd (mk vs)) :=
    ⟨_, hns.at (fun o q => (gk d M.dne).trans q), hrel⟩
  have J : Inv X pins σ (upd H1 d (.xd (mk vs))) ⟨G', g, dr, tk', os⟩ := I1.laid (t' := tk') old M.dbig ob
  refine ⟨e, _, _, ⟨G', g, dr, tk', os⟩, _, .ref C, some d, rfl, J, fun b o q => ?_, ge, hoe, ⟨rfl, rfl, fun vs e => by cases e; rfl⟩, rfl, rfl, ?_, rfl, I1.bare, raises_own T.xf.exC T.tyC, q1 d (I1.hok.fresh M.dbig)⟩
  · by_cases hb : b = e
    · have q' : G'.get? b = some o := q
      rw [hb, ge] at q'; cases q'
    · exact (gk b hb).symm.trans q
  · rw [upd_ne (Ne.symm M.dne)]
    exact I1.hok.fresh M.new
/-- raise C(e, ..) -/
def tRsK (C : Addr) (mk : List V → List (Str × V)) (n : Nat) (W : WX) (ta : TA) : TS := fun _ σ H => tMk C mk n ta σ H fun cls d H' => W cls d σ H'
theorem ps_raiseE {name : Str} {r n : Nat} {mk : List V → List (Str × V)} {e : Expr} {es : List Expr} {ta : TA} {W : WX} {p pos pos2 : Pos} (hc : X.calm = true) (T : Err X.prog X.w X.K X.mg name C r n mk) (hr : X.A.depth + 1 + r ≤ recursionLimit) (hn : n ≤ sizeLine) (tk : L2N.Takes X W) (ha : PA X (e :: es) ta) (hg : Gl X name := by rfl)
    (he : starEach (e :: es) X.env = (false, eval e X.env) :: starEach es X.env := by rfl) (hpl : (backTo pos (starEach es X.env)).any (·.1) = false := by rfl) (hd : (name == ("__debug__" : Str)) = false := by decide) :
    PS X (.Raise (some (.Call (.Name name p) (e :: es) [] pos)) none pos2) (tRsK C mk n W ta) := L2N.ps_raise hc tk (pmk_err T hr hn ha hg he hpl hd)
end
theorem err_mk {P : Program} {w : World} {K : PySem.W.Frag} {mg : Str → Option Value} {name t : Str} {C C0 f f0 : Addr} {ps : List Str} {body body0 : List Stmt} (g : mg name = some (.ref C)) (c : ExL.Ec K C) (b : ExL.EcB K C ("reason" :: ps))
    (d0 : ExL.InitDef P K f0 C0 ["reason"] body0) (fr0 : ExL.Frm body0 [.par "reason"] [("reason", .par "reason")]) (m0 : PySem.W.mroIn K C (.ref C0) = some true) (i0 : PySem.W.ks_superIn K C C0 "__init__" = some (some (.builtin "ValueError.__init__")))
    (d : ExL.InitDef P K f C ps body) (fr : ExL.Frm body [.lit t] (ps.map fun p => (p, .par p))) (i1 : PySem.W.ks_superIn K C C "__init__" = some (some (.ref f0))) (iC : PySem.W.findIn K (.ref C) "__init__" = some (some (.ref f))) (tI : PySem.W.typeIn K (.ref f) = some (.type "function"))
    (sup : PySem.W.nsIn K mainGlobals "super" = some none) (opq : PySem.W.nsIn K cStatics "thirdparty.any" = some none) (hl : ps.length ≤ 100) : Err P w K mg name C 2 ps.length (ExL.errF ps t) :=
  ⟨g, c, ⟨f, iC, tI, fun vs hv => ExL.sub_to c d fr b.mr i1 (ExL.idef_fn d0) (fun v => ExL.fork_to c d0 fr0 m0 i0 (b.no _ List.mem_cons_self) v) (fun p hp => b.no _ (List.mem_cons_of_mem _ hp)) hl vs hv⟩, sup, opq, b.kC, b.tyC, b.xf⟩
/-! ### e.f in an except suite, whatever the class -/
def tXg (K : PySem.W.Frag) (a : Addr) (cls : Value) (d : Option Addr) (f : Str) (te : TE) : TE := fun σ H Q => te σ H fun x H1 => x = .ref a ∧ ∃ (C dd : Addr) (fs : List (Str × V)) (v : V), cls = .ref C ∧ (XfC K C ∧ PySem.W.findIn K (.ref C) f = some none) ∧ d = some dd ∧ H1 dd = some (.xd fs) ∧ fs.lookup f = some v ∧ Q v H1
theorem pe_xg {X : Cx} {a : Addr} {oe : Obj} {cls : Value} {d : Option Addr} {pn : List (Addr × Obj)} {e : Expr} {te : TE} {pos : Pos} {n : Str} (hz : Zc cls d oe) (hf : ∃ vs, oe.data = .fields vs) (he : PE (X.suite a ((a, oe) :: pn)) e te) (hb : attributeBase e n X.env (eval e X.env) = eval e X.env := by rfl) :
    PE (X.suite a ((a, oe) :: pn)) (.Attribute e n pos) (tXg X.K a cls d n te) := by
  refine ⟨fun pins s σ H Q I h => ?_⟩
  refine attr_of hb (thn (he.run pins s σ H _ I h) fun u s1 ⟨x, H1, I1, rx, ex, C, dd, fs, v, ec, ⟨T, hno⟩, ed, ea, l, q⟩ => ?_)
  subst ex ec ed
  obtain rfl : u = Value.ref a := rx
  obtain ⟨ha, _⟩ := I1.pin (a, oe) (List.mem_append_left _ List.mem_cons_self)
  obtain ⟨vs, hd⟩ := hf
  obtain ⟨mA, hns, hr⟩ := (I1.hok dd _ ea : ObjOk X.prog X.w H1 s1.heap dd (.xd fs))
  obtain ⟨od, ho, hl⟩ := lookIn_ns hns
  obtain ⟨u, hu, ru⟩ := RelO.some_of (v := v) (o := mA n) (by rw [← l]; exact hr n)
  exact HandSPX.exc_get I1.kIn (⟨ha, hz.1, by unfold PySem.W.notCls; rw [hd] <;> rfl, by rw [hz.2]; exact ho⟩ : PySem.W.InstAt s1.heap a oe C (some od)) T.ga T.gg T.exC (PySem.W.findObj_own T.hdC hno rfl (by rw [hl, hu])) (handed_of ru) ⟨v, H1, I1.tok _, ru, q⟩
/-! ### the words that gen.py prints -/
def tTryAs (K : PySem.W.Frag) (c : Value) (i : Nat) (tb : WX → TS) (ts : Addr → Value → Option Addr → TS) (Wout : WX) : TS := fun D σ H => tb (wAs K c i ts Wout D) D σ H
def tTryOnly (K : PySem.W.Frag) (c : Value) (tb : WX → TS) (ts : Addr → Value → Option Addr → TS) (Wout : WX) : TS := fun D σ H => tb (wOnly K c ts Wout D) D σ H
end L2
namespace Rd
open PySem PySem.Spec PyProof.Rows L2
theorem pe_calS {X : Cx} {E : L2.St → XK} {x : Str} {k : Nat} {ps : List Str} {sp : Sp} {e : Expr} {es : List Expr} {t : TA} {p pos : Pos} (c : Cal X.prog X.w X.K X.mg X.base (L2N.CX X.prog X.w) x k ps sp) (hr : Room k X.A) (hx : ∀ σ, PassesAt (L2N.CX X.prog X.w) X σ (E σ)) (ha : PA X (e :: es) t)
    (hg : Gl X x := by rfl) (hdb : (x == ("__debug__" : Str)) = false := by decide) (he : starEach (e :: es) X.env = (false, eval e X.env) :: starEach es X.env := by rfl) (hpl : (backTo pos (starEach es X.env)).any (·.1) = false := by rfl) :
    PE X (.Call (.Name x p) (e :: es) [] pos) (tCallS sp E t) := by
  obtain ⟨f, fd, a, b, d, g⟩ := c.ex
  exact pe_callS a hr hg b d g hx ha hdb he hpl
theorem takes0N {X : Cx} : L2N.Takes X (fun _ _ _ _ => False) := fun _ _ ⟨_, _, _, _, _, _, _, _, _, _, _, _, _, _, _, _, z⟩ => z.elim
theorem okXN {P : Program} {w : World} {K : PySem.W.Frag} {mg : Str → Option Value} {base : Heap} {x qual : Str} {st : Stmt} {f : Addr} {fd : FuncData} {N ps : List Str} {k : Nat} {sp : Sp} (F : Fun K x qual st f fd) (S : FnScope N ps (defScope st)) (len : ∀ vs H Q E, sp vs H Q E → vs.length = ps.length)
    (body : ∀ (cdv : Value) (A : Around) (outer : List Env) (s : Shared) (H : Hp) (vs : List V) (Q : VK) (E : XK), Room k (A.deeper (envOfC qual (defScope st) s.heap.objs.size f cdv)) → sp vs H Q E →
      ∃ t, PSs (cxOf (L2N.CX P w) P w K mg base N qual (defScope st) f cdv A outer s H E) (defBody st) t ∧ t { nx := fun _ H' => Q .non H', rt := Q } (L2.start N vs) H) : FnOk P w K mg base (L2N.CX P w) (k + 1) f fd ps sp := by
  obtain ⟨oc, od, kV, doc, pm, an, cdv, ct, osl, rfl, lk, hcd⟩ := F.ex
  exact fn_of lk hcd S len fun A outer s H vs Q E hr h => body cdv A outer s H vs Q E hr h
/-! ### defs called within an except suite -/
theorem hot_suite {X : Cx} {a : Addr} {oe : Obj} {cls : Value} {d : Option Addr} {pn : List (Addr × Obj)} (hz : L2N.Zn cls d oe) (hf : ∃ vs, oe.data = .fields vs) : L2H.HotC (X.suite a ((a, oe) :: pn)) := by
  obtain ⟨vs, e⟩ := hf
  exact ⟨(a, oe), ⟨rfl, vs, e, hz.2.2 vs e⟩, List.mem_cons_self⟩
structure CalH (P : Program) (w : World) (K : PySem.W.Frag) (mg : Str → Option Value) (base : Heap) (CX : CXT) (x : Str) (k : Nat) (ps : List Str) (sp : Sp) : Prop where
  ex : ∃ (f : Addr) (fd : FuncData), L2H.FnH P w K mg base CX k f fd ps sp ∧ mg x = some (.ref f) ∧ PySem.W.keepIn K (.ref f) = true ∧ Binds K fd ps []
theorem pe_calH {X : Cx} {CX : CXT} {x : Str} {k : Nat} {ps : List Str} {sp : Sp} {e : Expr} {es : List Expr} {t : TA} {p pos : Pos} (c : CalH X.prog X.w X.K X.mg X.base CX x k ps sp) (hr : L2H.RoomH k X.A) (hc : L2H.HotC X) (hx : ∀ σ, PassesAt CX X σ E0) (ha : PA X (e :: es) t)
    (hg : Gl X x := by rfl) (hdb : (x == ("__debug__" : Str)) = false := by decide) (he : starEach (e :: es) X.env = (false, eval e X.env) :: starEach es X.env := by rfl) (hpl : (backTo pos (starEach es X.env)).any (·.1) = false := by rfl) :
    PE X (.Call (.Name x p) (e :: es) [] pos) (tCall sp [] E0 t) := by
  obtain ⟨f, fd, a, b, d, g⟩ := c.ex
  refine ⟨fun pins s σ H Q I h => (L2H.pe_callH (E := fun _ => E0) a hr hc hg b d g hx ha hdb he hpl).run pins s σ H Q I ?_⟩
  have e1 : (fun (vs : List V) (H1 : Hp) => sp (vs ++ []) H1 Q E0) = fun vs H1 => sp vs H1 Q E0 := by
    funext vs H1
    rw [List.append_nil]
  have h1 : t σ H fun vs H1 => sp (vs ++ []) H1 Q E0 := h
  rw [e1] at h1
  exact h1
theorem passH0 {X : Cx} {σ : L2.St} {E : XK} : PassesAt CX0 X σ E := fun _ _ _ _ _ _ h => h.elim
theorem _root_.L2H.RoomH.units {k : Nat} {A : Around} (r : L2H.RoomH k A) : A.units + 64 < cLine := by
  have := r.un
  omega
theorem rmH {k j : Nat} {A A' : Around} (r : Room k A) (h : j ≤ k) (e1 : A'.depth = A.depth := by rfl) (e2 : A'.units = A.units := by rfl) : L2H.RoomH j A' :=
  ⟨by have := r.dp; omega, by have := r.un; omega⟩
theorem hot_cx {CX : CXT} {P : Program} {w : World} {K : PySem.W.Frag} {mg : Str → Option Value} {base : Heap} {N : List Str} {qual : Str} {scope : Scope} {f : Addr} {cd : Value} {A : Around} {outer : List Env} {s : Shared} {H : Hp} {E : XK} {p : Addr × Obj} (h : L2H.Hot1 A p) :
    L2H.HotC (L2H.cxH CX P w K mg base N qual scope f cd A outer s H E p) := ⟨p, h, List.mem_cons_self⟩
theorem okH {P : Program} {w : World} {K : PySem.W.Frag} {mg : Str → Option Value} {base : Heap} {CX : CXT} {x qual : Str} {st : Stmt} {f : Addr} {fd : FuncData} {N ps : List Str} {k : Nat} {sp : Sp} (F : Fun K x qual st f fd) (S : FnScope N ps (defScope st)) (len : ∀ vs H Q E, sp vs H Q E → vs.length = ps.length)
    (body : ∀ (cdv : Value) (A : Around) (outer : List Env) (s : Shared) (H : Hp) (vs : List V) (Q : VK) (E : XK) (p : Addr × Obj), L2H.HotC (L2H.cxH CX P w K mg base N qual (defScope st) f cdv A outer s H E p) → L2H.RoomH k (A.deeper (envOfC qual (defScope st) s.heap.objs.size f cdv)) → sp vs H Q E →
      ∃ t, PSs (L2H.cxH CX P w K mg base N qual (defScope st) f cdv A outer s H E p) (defBody st) t ∧ t { nx := fun _ H' => Q .non H', rt := Q } (L2.start N vs) H) : L2H.FnH P w K mg base CX (k + 1) f fd ps sp := by
  obtain ⟨oc, od, kV, doc, pm, an, cdv, ct, osl, rfl, lk, hcd⟩ := F.ex
  exact L2H.fn_ofH lk hcd S len fun A outer s H vs Q E p hot hr h => body cdv A outer s H vs Q E p (hot_cx hot) hr h
end Rd

/-! Rd2: the layer's second part: readings of raise, try, list(range), all, any -/
namespace Rd
open PySem PySem.Spec PyProof.Rows L2
section
variable {K : PySem.W.Frag} {σ : L2.St} {H : Hp} {Q : VK} {D : Ends} {ta : TA} {te : TE}
theorem rd_callS {sp : Sp} {E : L2.St → XK} (h : ta σ H fun vs H1 => sp vs H1 Q (E σ)) : tCallS sp E ta σ H Q := h
theorem rd_tryAs {c : Value} {i : Nat} {tb : WX → TS} {ts : Addr → Value → Option Addr → TS} {W : WX} (h : tb (wAs K c i ts W D) D σ H) : tTryAs K c i tb ts W D σ H := h
theorem rd_tryOnly {c : Value} {tb : WX → TS} {ts : Addr → Value → Option Addr → TS} {W : WX} (h : tb (wOnly K c ts W D) D σ H) : tTryOnly K c tb ts W D σ H := h
theorem rd_raise {C : Addr} {mk : List V → List (Str × V)} {n : Nat} {W : WX} (h : ta σ H fun vs H1 => vs.length = n ∧ ∀ d, H1 d = none → W (.ref C) (some d) σ (upd H1 d (.xd (mk vs)))) : tRsK C mk n W ta D σ H := h
theorem rd_xg {a : Addr} {cls : Value} {d : Option Addr} {f : Str} (h : te σ H fun x H1 => x = .ref a ∧ ∃ (C dd : Addr) (fs : List (Str × V)) (v : V), cls = .ref C ∧ (XfC K C ∧ PySem.W.findIn K (.ref C) f = some none) ∧ d = some dd ∧ H1 dd = some (.xd fs) ∧ fs.lookup f = some v ∧ Q v H1) :
    tXg K a cls d f te σ H Q := h
theorem rgV_nat (n : Nat) : rgV 0 (n : Int) = (List.range n).map iv := by
  unfold rgV
  simp [iv]
def LRg (x : V) (H : Hp) (Q : VK) : Prop := ∃ m : Int, x = .int m ∧ RgOk 0 m ∧ ∀ q, H q = none → Q (.ref q) (upd H q (.lst (rgV 0 m)))
theorem rd_listRg (h : te σ H fun x H1 => LRg x H1 Q) : tLstRg (tRg1 te) σ H Q := h
theorem rd_lrg {n : Nat} {z : Int} (hz : z = (n : Int)) (hn : n ≤ 1000000) (h : ∀ q, H q = none → Q (.ref q) (upd H q (.lst ((List.range n).map iv)))) : LRg (.int z) H Q := by
  subst hz
  refine ⟨_, rfl, .of_le (by omega) (by omega) (by omega) (by omega), fun q hq => ?_⟩
  rw [rgV_nat]
  exact h q hq
theorem rd_all {a : Addr} {bs : List Bool} (ha : SqL K H a (bs.map V.bl)) (h : Q (.bl (bs.all id)) H) : rAll K [.ref a] H Q := ⟨a, bs, rfl, ha, h⟩
theorem rd_any {a : Addr} {bs : List Bool} (ha : SqL K H a (bs.map V.bl)) (h : Q (.bl (bs.any id)) H) : rAny K [.ref a] H Q := ⟨a, bs, rfl, ha, h⟩
theorem flat_int (ys : List Int) : (ys.map V.int).all flatV = true := by simp [List.all_eq_true, flatV]
theorem in_int (t : Int) (ys : List Int) : inV (.int t) (ys.map V.int) = decide (t ∈ ys) := by
  unfold inV
  rw [List.any_map]
  rw [Bool.eq_iff_iff]
  simp only [Function.comp, eqV, List.any_eq_true, beq_iff_eq, decide_eq_true_eq]
  constructor
  · rintro ⟨x, h, e⟩
    rw [← e]
    exact h
  · exact fun h => ⟨t, h, rfl⟩
theorem flat_bl (bs : List Bool) : (bs.map V.bl).all flatV = true := by simp [List.all_eq_true, flatV]
theorem in_bl (b : Bool) (bs : List Bool) : inV (.bl b) (bs.map V.bl) = decide (b ∈ bs) := by
  unfold inV
  rw [List.any_map]
  rw [Bool.eq_iff_iff]
  simp only [Function.comp, eqV, List.any_eq_true, beq_iff_eq, decide_eq_true_eq]
  constructor
  · rintro ⟨x, h, e⟩
    have e' : x = b := by cases x <;> cases b <;> first | rfl | (revert e; decide)
    rw [← e']
    exact h
  · exact fun h => ⟨b, h, rfl⟩
/-- addresses that stand -/
def Al (H : Hp) (M : List Addr) : Prop := ∀ x ∈ M, H x ≠ none
theorem Al.off {M : List Addr} {a : Addr} (al : Al H M) (f : H a = none) : a ∉ M := fun m => al a m f
theorem Al.but {M N : List Addr} {H' : Hp} (al : Al H M) (b : But N H H') (n : ∀ x ∈ N, H' x ≠ none) : Al H' M := fun x m => by
  by_cases h : x ∈ N
  · exact n x h
  · cases e : H x with
    | none => exact absurd e (al x m)
    | some o => rw [b x o h e]; exact fun z => by cases z
theorem But.none {N : List Addr} {H' : Hp} {p : Addr} (b : But N H H') (n : ∀ x ∈ N, H' x ≠ none) (f : H' p = none) : H p = none := by
  cases e : H p with
  | none => rfl
  | some o =>
    by_cases h : p ∈ N
    · exact absurd f (n p h)
    · rw [b p o h e] at f; cases f
theorem lit_at (cs : List Int) {r : Int} (h0 : 0 ≤ r) (h1 : r < cs.length) : ∃ c ∈ cs, atI (cs.map V.int) r = some (.int c) := by
  obtain ⟨k, rfl⟩ := Int.eq_ofNat_of_zero_le h0
  have hk : k < cs.length := by omega
  exact ⟨cs[k], List.getElem_mem hk, atI_nat (map_at (List.getElem?_eq_getElem hk))⟩
end
end Rd

/-! Dt: data on the heap, away from the addresses M that change -/
namespace Rd
open PySem PySem.Spec PyProof.Rows L2
inductive Dt (M : List Addr) (H : Hp) : Nat → V → PyData → Prop
  | non {n : Nat} : Dt M H n .non .none
  | bl {n : Nat} {b : Bool} : Dt M H n (.bl b) (.bool b)
  | int {n : Nat} {i : Int} : Dt M H n (.int i) (.int i)
  | str {n : Nat} {s : Str} : Dt M H n (.str s) (.str s)
  | lst {n : Nat} {a : Addr} {xs : List V} {ds : List PyData} (h : H a = some (.lst xs)) (m : a ∉ M) (l : xs.length = ds.length) (z : ds.length ≤ 1000000) (e : ∀ (i : Nat) v d, xs[i]? = some v → ds[i]? = some d → Dt M H n v d) : Dt M H (n + 1) (.ref a) (.list ds)
  | tup {n : Nat} {a : Addr} {xs : List V} {ds : List PyData} (h : H a = some (.tup xs)) (m : a ∉ M) (l : xs.length = ds.length) (z : ds.length ≤ 1000000) (e : ∀ (i : Nat) v d, xs[i]? = some v → ds[i]? = some d → Dt M H n v d) : Dt M H (n + 1) (.ref a) (.tuple ds)
section
variable {M M' : List Addr} {H H' : Hp} {n m : Nat} {v : V} {d : PyData} {p : Addr}
theorem Dt.keep (h : Dt M H n v d) (b : But M H H') : Dt M H' n v d := by
  induction h with
  | non => exact .non
  | bl => exact .bl
  | int => exact .int
  | str => exact .str
  | lst h m l z _ ih => exact .lst (b _ _ m h) m l z ih
  | tup h m l z _ ih => exact .tup (b _ _ m h) m l z ih
theorem Dt.same (h : Dt M H n v d) (s : Same H H') : Dt M H' n v d := h.keep (But.of s)
theorem Dt.sub (h : Dt M H n v d) (s : ∀ x ∈ M', x ∈ M) : Dt M' H n v d := by
  induction h with
  | non => exact .non
  | bl => exact .bl
  | int => exact .int
  | str => exact .str
  | lst h m l z _ ih => exact .lst h (fun q => m (s _ q)) l z ih
  | tup h m l z _ ih => exact .tup h (fun q => m (s _ q)) l z ih
theorem not_cons {a : Addr} {o : HO} (h : H a = some o) (f : H p = none) (m : a ∉ M) : a ∉ p :: M := fun q => by
  rcases List.mem_cons.mp q with e | e
  · rw [e, f] at h; cases h
  · exact m e
theorem Dt.more (h : Dt M H n v d) (f : H p = none) : Dt (p :: M) H n v d := by
  induction h with
  | non => exact .non
  | bl => exact .bl
  | int => exact .int
  | str => exact .str
  | lst h m l z _ ih => exact .lst h (not_cons h f m) l z ih
  | tup h m l z _ ih => exact .tup h (not_cons h f m) l z ih
/-- an address that holds no list and no tuple of data is off -/
theorem Dt.off (h : Dt M H n v d) (f : ∀ (xs : List V) (ds : List PyData) (k : Nat), H p = some (.lst xs) ∨ H p = some (.tup xs) → xs.length = ds.length → (∀ (i : Nat) v d, xs[i]? = some v → ds[i]? = some d → Dt M H k v d) → False) : Dt (p :: M) H n v d := by
  induction h with
  | non => exact .non
  | bl => exact .bl
  | int => exact .int
  | str => exact .str
  | @lst k a xs ds h m l z e ih =>
    have q : a ∉ p :: M := fun q => by
      rcases List.mem_cons.mp q with c | c
      · exact f xs ds k (.inl (by rw [← c]; exact h)) l e
      · exact m c
    exact .lst h q l z ih
  | @tup k a xs ds h m l z e ih =>
    have q : a ∉ p :: M := fun q => by
      rcases List.mem_cons.mp q with c | c
      · exact f xs ds k (.inr (by rw [← c]; exact h)) l e
      · exact m c
    exact .tup h q l z ih
theorem Dt.up1 (h : Dt M H n v d) : Dt M H (n + 1) v d := by
  induction h with
  | non => exact .non
  | bl => exact .bl
  | int => exact .int
  | str => exact .str
  | lst h m l z _ ih => exact .lst h m l z ih
  | tup h m l z _ ih => exact .tup h m l z ih
theorem Dt.up (h : Dt M H n v d) (l : n ≤ m) : Dt M H m v d := by
  induction l with
  | refl => exact h
  | step _ ih => exact ih.up1
theorem Dt.list_inv {ds : List PyData} (h : Dt M H n v (.list ds)) : ∃ a xs k, v = .ref a ∧ n = k + 1 ∧ H a = some (.lst xs) ∧ a ∉ M ∧ xs.length = ds.length ∧ ds.length ≤ 1000000 ∧ ∀ (i : Nat) v d, xs[i]? = some v → ds[i]? = some d → Dt M H k v d := by
  cases h with
  | lst h m l z e => exact ⟨_, _, _, rfl, rfl, h, m, l, z, e⟩
theorem Dt.tup_inv {ds : List PyData} (h : Dt M H n v (.tuple ds)) : ∃ a xs k, v = .ref a ∧ n = k + 1 ∧ H a = some (.tup xs) ∧ a ∉ M ∧ xs.length = ds.length ∧ ds.length ≤ 1000000 ∧ ∀ (i : Nat) v d, xs[i]? = some v → ds[i]? = some d → Dt M H k v d := by
  cases h with
  | tup h m l z e => exact ⟨_, _, _, rfl, rfl, h, m, l, z, e⟩
theorem Dt.int_inv {i : Int} (h : Dt M H n v (.int i)) : v = .int i := by cases h; rfl
theorem Dt.non_inv (h : Dt M H n v .none) : v = .non := by cases h; rfl
theorem Dt.bl_inv {b : Bool} (h : Dt M H n v (.bool b)) : v = .bl b := by cases h; rfl
theorem Dt.str_inv {s : Str} (h : Dt M H n v (.str s)) : v = .str s := by cases h; rfl
/-- a list of plain things -/
theorem Dt.flat {α : Type} {f : α → V} {g : α → PyData} (hg : ∀ x n, Dt M H n (f x) (g x)) {a : Addr} {l : List α} (h : H a = some (.lst (l.map f))) (m : a ∉ M) (z : l.length ≤ 1000000) : Dt M H (n + 1) (.ref a) (.list (l.map g)) := by
  refine .lst h m (by simp) (by simpa using z) fun i v d e1 e2 => ?_
  rw [List.getElem?_map] at e1 e2
  cases e : l[i]? with
  | none => rw [e] at e1; cases e1
  | some x =>
    rw [e] at e1 e2
    cases e1
    cases e2
    exact hg x n
theorem Dt.ints {a : Addr} {l : List Int} (h : H a = some (.lst (l.map V.int))) (m : a ∉ M) (z : l.length ≤ 1000000) : Dt M H (n + 1) (.ref a) (.list (l.map .int)) := .flat (fun _ _ => .int) h m z
theorem Dt.ints_inv {l : List Int} (h : Dt M H n v (.list (l.map .int))) : ∃ a, v = .ref a ∧ H a = some (.lst (l.map V.int)) ∧ a ∉ M := by
  obtain ⟨a, xs, k, rfl, rfl, h, m, e, z, q⟩ := h.list_inv
  refine ⟨a, rfl, ?_, m⟩
  rw [h]
  refine congrArg (fun l => some (HO.lst l)) (List.ext_getElem? fun i => ?_)
  rw [List.length_map] at e
  by_cases hi : i < l.length
  · have h1 := List.getElem?_eq_getElem (l := xs) (i := i) (by omega)
    have h2 : (l.map PyData.int)[i]? = some (.int l[i]) := by rw [List.getElem?_map, List.getElem?_eq_getElem hi]; rfl
    rw [List.getElem?_map, List.getElem?_eq_getElem hi, h1, (q i _ _ h1 h2).int_inv]
    rfl
  · rw [List.getElem?_eq_none (by omega), List.getElem?_eq_none (by rw [List.length_map]; omega)]
/-- one more thing at the end of a list that grows -/
theorem dts_snoc {xs : List V} {ds : List PyData} {k : Nat} (l : xs.length = ds.length) (e : ∀ (i : Nat) v d, xs[i]? = some v → ds[i]? = some d → Dt M H k v d) {x : V} {y : PyData} (h : Dt M H k x y) :
    ∀ (i : Nat) v d, (xs ++ [x])[i]? = some v → (ds ++ [y])[i]? = some d → Dt M H k v d := by
  intro i v d e1 e2
  by_cases hi : i < xs.length
  · rw [List.getElem?_append_left hi] at e1
    rw [List.getElem?_append_left (by omega)] at e2
    exact e i v d e1 e2
  · rw [List.getElem?_append_right (by omega)] at e1
    rw [List.getElem?_append_right (by omega), ← l] at e2
    cases hj : i - xs.length with
    | zero =>
      rw [hj] at e1 e2
      cases e1
      cases e2
      exact h
    | succ j => rw [hj] at e1; simp at e1
theorem TyX.same {K : PySem.W.Frag} {x : V} {t : Value} (h : TyX K H x t) (s : Same H H') : TyX K H' x t := by
  cases h with
  | byt b => exact .byt b
  | set e => exact .set (s _ _ e)
  | kList e c => exact .kList e c
  | kTuple e c => exact .kTuple e c
  | kDict e c => exact .kDict e c
  | fTuple e => exact .fTuple (s _ _ e)
  | fDict e => exact .fDict (s _ _ e)
  | base h =>
    refine .base ?_
    cases h with
    | lst e => exact .lst (s _ _ e)
    | frz e => exact .frz (s _ _ e)
    | tup e => exact .tup (s _ _ e)
    | dK e => exact .dK (s _ _ e)
    | dT e => exact .dT (s _ _ e)
    | non => exact .non
    | bl x => exact .bl x
    | int x => exact .int x
    | str x => exact .str x
    | flt x => exact .flt x
    | ins e cl ha hn htk hm => exact .ins (s _ _ e) cl ha hn htk hm
end
/-! ### comprehensions whose tests and elements may leave new things behind -/
section
variable {K : PySem.W.Frag} {σ : L2.St} {H : Hp} {Q : VK} {j : Nat} {tt : TT} {te : TE}
theorem lcLs {a : Addr} {xs : List V} (hx : SqL K H a xs) (p : V → Bool) (f : V → V) (hz : xs.length ≤ 1000000)
    (ht : ∀ (i : Nat) (x : V) (H1 : Hp), xs[i]? = some x → Same H H1 → ∀ R : Bool → Hp → Prop, (∀ H2, Same H1 H2 → R (p x) H2) → tt ((wipe σ [j]).set j (some x)) H1 R)
    (he : ∀ (i : Nat) (x : V) (H1 : Hp), xs[i]? = some x → p x = true → Same H H1 → ∀ R : VK, (∀ H2, Same H1 H2 → R (f x) H2) → te ((wipe σ [j]).set j (some x)) H1 R)
    (q : ∀ (Dd : Addr) (H' : Hp), H Dd = none → Same H H' → H' Dd = some (.lst ((xs.filter p).map f)) → Q (.ref Dd) H') : LcA K (.ref a) (gName j) tt te [j] σ H Q := by
  refine lcL hx fun Dd hD => ⟨fun i H' => H' Dd = some (.lst (((xs.take i).filter p).map f)) ∧ Same H H', ⟨upd_same, same_new hD⟩, fun i H' _ h => h.2.seq hx, ?_, fun H' h => q Dd H' hD h.2 (by have := h.1; rwa [List.take_length] at this)⟩
  rintro i x H1 hi ⟨hd, s⟩
  refine ⟨wipe1 _ _ _, ht i x H1 hi s _ fun H2 s2 => ?_⟩
  have len : ((xs.take i).filter p).length ≤ 1000000 := Nat.le_trans (List.length_filter_le _ _) (Nat.le_trans (List.length_take_le' _ _) hz)
  cases hp : p x with
  | true =>
    refine rd_ite1 (he i x H2 hi hp (s.trans s2) _ fun H3 s3 => ⟨_, s3 _ _ (s2 _ _ hd), size_lt (by rw [List.length_map]; omega), ?_, same_mut ((s.trans s2).trans s3) hD⟩)
    rw [take_end hi, List.filter_append, List.map_append, List.filter_cons_of_pos hp]
    exact upd_same
  | false =>
    refine rd_ite0 ⟨?_, s.trans s2⟩
    rw [take_end hi, List.filter_append, List.filter_cons_of_neg (by rw [hp]; decide), List.filter_nil, List.append_nil]
    exact s2 _ _ hd
theorem lcRs {n : Nat} {z : Int} (hz : z = (n : Int)) (p : Nat → Bool) (f : Nat → V) (hn : n ≤ 1000000)
    (ht : ∀ (i : Nat) (H1 : Hp), i < n → Same H H1 → ∀ R : Bool → Hp → Prop, (∀ H2, Same H1 H2 → R (p i) H2) → tt ((wipe σ [j]).set j (some (.int (i : Int)))) H1 R)
    (he : ∀ (i : Nat) (H1 : Hp), i < n → p i = true → Same H H1 → ∀ R : VK, (∀ H2, Same H1 H2 → R (f i) H2) → te ((wipe σ [j]).set j (some (.int (i : Int)))) H1 R)
    (q : ∀ (Dd : Addr) (H' : Hp), H Dd = none → Same H H' → H' Dd = some (.lst (((List.range n).filter p).map f)) → Q (.ref Dd) H') : LcR1 [.int z] (gName j) tt te [j] σ H Q := by
  refine lcR hz (by omega) fun Dd hD => ⟨fun i H' => H' Dd = some (.lst (((List.range i).filter p).map f)) ∧ Same H H', ⟨upd_same, same_new hD⟩, ?_, fun H' h => q Dd H' hD h.2 h.1⟩
  rintro i H1 hi ⟨hd, s⟩
  refine ⟨wipe1 _ _ _, ht i H1 hi s _ fun H2 s2 => ?_⟩
  have len : ((List.range i).filter p).length ≤ i := Nat.le_trans (List.length_filter_le _ _) (by rw [List.length_range]; exact Nat.le_refl _)
  cases hp : p i with
  | true =>
    refine rd_ite1 (he i H2 hi hp (s.trans s2) _ fun H3 s3 => ⟨_, s3 _ _ (s2 _ _ hd), size_lt (by rw [List.length_map]; omega), ?_, same_mut ((s.trans s2).trans s3) hD⟩)
    rw [List.range_succ, List.filter_append, List.map_append, List.filter_cons_of_pos hp]
    exact upd_same
  | false =>
    refine rd_ite0 ⟨?_, s.trans s2⟩
    rw [List.range_succ, List.filter_append, List.filter_cons_of_neg (by rw [hp]; decide), List.filter_nil, List.append_nil]
    exact s2 _ _ hd
theorem lit_nat (cs : List Int) {i : Nat} (h : i < cs.length) : atI (cs.map V.int) (i : Int) = some (.int (cs.getD i 0)) := atI_nat (map_at (getD_at 0 h))
end
end Rd

/-! Tx: the layer's third part: texts, the module's constants, isinstance of a caught error -/
namespace PySem.W
open PySem PySem.Spec PySem.Calls PyProof.Rows
section
variable {prog : Program} {w : World} {A : Around} {E : Value → Shared → Prop} {s : Shared} {K : Frag} {x D : Addr} {ox : Obj} {od : Option Obj}
theorem dtx_find {name : Str} {a g : Value} (hc : (clsIn K D).isSome = true) (ha : findIn K (.ref D) name = some (some a)) (hg : specialIn K a "__get__" = some (some g)) (ht : takesIn K a = some true) : findObj K D od name = some (.bind g a) := by
  obtain ⟨cd, hc⟩ := Option.isSome_iff_exists.mp hc
  unfold findObj
  rw [hc, Option.bind_some, ha, Option.bind_some]
  cases od <;> simp [hg, ht]
structure DtxC (K : Frag) (D : Addr) : Prop where
  a1 : findIn K (.ref D) "__getattribute__" = some (some (.builtin "BaseException.__getattribute__"))
  a2 : findIn K (.ref D) "__getattr__" = some none
  a3 : subIn K (.ref D) (.type "BaseException") = some true
  a4 : hasDictIn K D = true
  a5 : findIn K (.ref D) "__class__" = some (some (.builtin "object.__class__"))
  a6 : specialIn K (.builtin "object.__class__") "__get__" = some (some (.builtin "getset_descriptor.__get__"))
  a7 : takesIn K (.builtin "object.__class__") = some true
  a8 : mroIn K D (.type "object") = some true
theorem dtx_class {Q : Option Value → Shared → Prop} (C : DtxC K D) (X : K.In s.heap) (I : InstAt s.heap x ox D od) (h : Q (some (.ref D)) { s with toks := s.toks + 1 }) : wpAny (model prog w) A (getAttr? (.ref x) "__class__") Q E s := by
  have hf : findObj K D od "__class__" = some (.bind (.builtin "getset_descriptor.__get__") (.builtin "object.__class__")) := dtx_find (by obtain ⟨cd, hc, _⟩ := any_some C.a4; rw [hc]; rfl) C.a5 C.a6 C.a7
  obtain ⟨hp, g, dr, t, os⟩ := s
  have l0 := I.type (M := model prog w)
  have l1 := looks_findIn (M := model prog w) X C.a1
  have l2 := looks_findIn (M := model prog w) X C.a2
  have l3 := looks_find (M := model prog w) X I hf
  have isB : Looks (model prog w) hp (isInstance (.ref x) (.type "BaseException")) true := l0.andThen (looks_subIn X C.a3)
  have ne : (Value.builtin "BaseException.__getattribute__" == Value.builtin "object.__getattribute__") = false := by decide +kernel
  unfold getAttr? getAttrBy? getAttrBy
  refine wpAny_bind (wpAny_mkText (wpAny_bind (wpAny_attempt (wpAny_holding (wpAny_bind (l0.at (wpAny_bind (l1.at ?_))))))))
  show wpAny _ _ (if (onTheHeap (Value.ref D) && Value.builtin "BaseException.__getattribute__" == Value.builtin "object.__getattribute__") = true then _ else _) _ _ _
  rw [show (onTheHeap (Value.ref D) && Value.builtin "BaseException.__getattribute__" == Value.builtin "object.__getattribute__") = false by rw [ne]; rfl, if_neg Bool.false_ne_true]
  unfold getAttrByItsOwn hookBefore
  refine wpAny_bind ?_
  rw [if_pos (show onTheHeap (Value.ref D) = true from rfl)]
  refine l2.at (wpAny_bind (wpAny_attempt (wpAny_holding ?_)))
  unfold callGetattribute
  rw [show (false && onTheHeap (Value.builtin "BaseException.__getattribute__")) = false from rfl, if_neg Bool.false_ne_true]
  unfold boundAndCalled
  rw [PySem.F.excAttr_ValueError.ga.bind (.ref x)]
  refine wpAny_bind (wpAny_pure ?_)
  show wpAny _ _ (call (.builtin "BaseException.__getattribute__") [.ref x, .str "__class__" t]) _ _ _
  refine wpAny_call (codeAny_call_builtin PySem.F.excAttr_ValueError.ga.plain PySem.F.entry_bexc_ga (@check_slot (model prog w) _ _ ⟨hp, g, dr, t + 1, os⟩ "BaseException.__getattribute__" "BaseException" "__getattribute__" (.ref x) [.str "__class__" t] [] _ (by decide +kernel) (by decide +kernel) isB (PySem.F.args_bexc_ga (.ref x) (.str "__class__" t)) ?_))
  unfold Builtin.«object.__getattribute__»
  refine wpAny_bind (wpAny_of_eq (a := ((Value.ref x : Value), [Value.str "__class__" t])) (by first | rfl | (simp only [slotArgs]; rfl)) (wpAny_bind (wpAny_pure (wpAny_bind (l0.at (wpAny_bind (l3.at ?_)))))))
  show wpAny _ _ (holding [Value.builtin "object.__class__"] (call (.builtin "getset_descriptor.__get__") [.builtin "object.__class__", .ref x, .ref D]) >>= ret) _ _ _
  refine wpAny_bind (wpAny_holding (wpAny_call (class_get (s := ⟨hp, g, dr, t + 1, os⟩) (ox := ox) (od := od) X I C.a8 (wpAny_pure ?_))))
  show wpAny _ _ (handedOut (.ref D)) _ _ _
  rw [handedOut_of (v := .ref D) rfl]
  first
    | exact wpAny_pure (wpAny_pure h)
    | exact wpAny_pure (wpAny_bind (wpAny_pure (wpAny_pure h)))
    | exact wpAny_pure h
theorem dtx_kit (C : DtxC K D) : KitX K (.ref x) (.ref D) (fun h => ∃ od, InstAt h x ox D od) where
  ty := fun _ _ _ ⟨_, I⟩ => I.type
  it := fun M h X _ => by
    obtain ⟨cdD, hcD, _⟩ := any_some C.a4
    unfold clsIn at hcD
    split at hcD
    · rename_i c1 d1 cd1 sl1 ho
      intro A1 Q1 E1 s1 k q
      unfold isType loadHead
      exact wpAny_bind (wpAny_loadPart (k _ _ (X _ _ ho)) (wpAny_pure q))
    · cases hcD
  ne := fun h tp dd its n sl X htp => by
    obtain ⟨cdD, hcD, _⟩ := any_some C.a4
    refine Bool.eq_false_iff.mpr fun q => ?_
    have e : D = tp := Value.ref.inj (beq_iff_eq.mp q)
    subst e
    unfold clsIn at hcD
    split at hcD
    · rename_i c1 d1 cd1 sl1 ho
      cases (X _ _ ho).symm.trans htp
    · cases hcD
  ca := fun X ⟨_, I⟩ k => dtx_class C X I k
end
def dtxB (K : Frag) (D : Addr) : Bool :=
  decide (findIn K (.ref D) "__getattribute__" = some (some (.builtin "BaseException.__getattribute__"))) && (decide (findIn K (.ref D) "__getattr__" = some none) && (decide (subIn K (.ref D) (.type "BaseException") = some true) && (hasDictIn K D &&
    (decide (findIn K (.ref D) "__class__" = some (some (.builtin "object.__class__"))) && (decide (specialIn K (.builtin "object.__class__") "__get__" = some (some (.builtin "getset_descriptor.__get__"))) && (decide (takesIn K (.builtin "object.__class__") = some true) && decide (mroIn K D (.type "object") = some true)))))))
theorem dtxB_ok {K : Frag} {D : Addr} (h : dtxB K D = true) : DtxC K D := by
  obtain ⟨h1, h⟩ := Bool.and_eq_true_iff.mp h
  obtain ⟨h2, h⟩ := Bool.and_eq_true_iff.mp h
  obtain ⟨h3, h⟩ := Bool.and_eq_true_iff.mp h
  obtain ⟨h4, h⟩ := Bool.and_eq_true_iff.mp h
  obtain ⟨h5, h⟩ := Bool.and_eq_true_iff.mp h
  obtain ⟨h6, h⟩ := Bool.and_eq_true_iff.mp h
  obtain ⟨h7, h8⟩ := Bool.and_eq_true_iff.mp h
  exact ⟨of_decide_eq_true h1, of_decide_eq_true h2, of_decide_eq_true h3, h4, of_decide_eq_true h5, of_decide_eq_true h6, of_decide_eq_true h7, of_decide_eq_true h8⟩
theorem kit_ref {K : Frag} {a c : Addr} {b : Bool} (hc : (clsIn K c).isSome = true) (ht : typeIn K (.ref c) = some (.type "type")) (hs : subIn K (.ref a) (.ref a) = some true) (h : subIn K (.ref a) (.ref c) = some b) : kitOne K (.ref a) (.ref c) = some b := by
  unfold kitOne
  by_cases e : a = c
  · subst e
    rw [hs] at h
    cases h
    rw [if_pos (by simp)]
  · rw [if_neg (by simpa using e)]
    show (if ((clsIn K c).isSome && typeIn K (.ref c) == some (.type "type")) = true then subIn K (.ref a) (.ref c) else none) = some b
    rw [hc, ht]
    exact h
theorem kit_ve {K : Frag} {a : Addr} (h : subIn K (.ref a) (.type "ValueError") = some true) : kitOne K (.ref a) (.type "ValueError") = some true := by
  unfold kitOne
  rw [if_neg (by simp)]
  show (if kitMeta "ValueError" = true then subIn K (.ref a) (.type "ValueError") else none) = some true
  rw [if_pos (by first | rfl | decide +kernel | kernel_rfl)]
  exact h
end PySem.W
namespace L2
open PySem PySem.Spec PyProof.Rows
/-- isinstance(e, c) of a caught error e of the class D, whatever its dict -/
def rIsD (K : PySem.W.Frag) (a : Addr) (cls : Value) (d : Option Addr) : List V → Hp → VK → Prop := fun xs H Q => ∃ (y : V) (D dd : Addr) (fs : List (Str × V)) (cv : Value) (b : Bool), xs = [.ref a, y] ∧ cls = .ref D ∧ (d = some dd ∧ H dd = some (.xd fs)) ∧ PySem.W.DtxC K D ∧ (∀ u, RelV y u → u = cv) ∧ PySem.W.kitOne K (.ref D) cv = some b ∧ Q (.bl b) H
theorem call_isD {X : Cx} {a : Addr} {cls : Value} {d : Option Addr} {oe : Obj} {pn : List (Addr × Obj)} (hz : Zc cls d oe) (hf : ∃ vs, oe.data = .fields vs) : CallR (X.suite a ((a, oe) :: pn)) (.builtin "isinstance") (rIsD X.K a cls d) := by
  intro pins s σ H xs us Q I r h
  obtain ⟨y, D, dd, fs, cv, b, rfl, rfl, ⟨rfl, hdd⟩, C, hcv, e, q⟩ := h
  cases r with
  | cons rx rr =>
    cases rr with
    | cons rt rr =>
      cases rr
      cases rx
      cases hcv _ rt
      obtain ⟨hget, _⟩ := I.pin (a, oe) (List.mem_append.mpr (.inl List.mem_cons_self))
      obtain ⟨vs, hv⟩ := hf
      have J : ∃ od, PySem.W.InstAt s.heap a oe D od := by
        obtain ⟨mA, hns, hr⟩ := (I.hok dd _ hdd : ObjOk X.prog X.w H s.heap dd (.xd fs))
        obtain ⟨od, ho, _⟩ := lookIn_ns hns
        exact ⟨some od, hget, hz.1, by unfold PySem.W.notCls; rw [hv] <;> rfl, by rw [hz.2]; exact ho⟩
      exact PySem.W.kia_one (PySem.W.dtx_kit C) I.kIn J e (fun z => nomatch z) fun tk => ⟨.bl b, H, I.kept (t' := tk) fun _ _ z => z, rfl, q⟩
end L2
namespace Rd
open PySem PySem.Spec PyProof.Rows L2
theorem pe_globE {X : Cx} {x : Str} {v : V} {pos : Pos} (hg : Gl X x) (hm : ∃ u, X.mg x = some u ∧ RelV v u) (hd : (x == ("__debug__" : Str)) = false := by decide) : PE X (.Name x pos) (tC v) := by
  obtain ⟨u, h1, h2⟩ := hm
  exact pe_glob hg h1 h2 hd
def rIntT : List V → Hp → VK → Prop := fun xs H Q => ∃ a n, xs = [.str a] ∧ PySem.intText? a = some n ∧ a.length ≤ 640 ∧ Q (.int n) H
def rFindS : V → List V → Hp → VK → Prop := fun x xs H Q => ∃ a b, x = .str a ∧ xs = [.str b] ∧ Q (.int (Txt.find a b)) H
section
variable {K : PySem.W.Frag} {σ : L2.St} {H : Hp} {Q : VK} {D : Ends}
theorem rd_inC {c : Nat} {z : Str} (h : Q (.bl (decide (c ∈ z.cps.toList))) H) : rInA K (.str ⟨#[c]⟩) (.str z) H Q := .inr ⟨_, _, rfl, rfl, by rw [PySem.StrLaws.found_one]; exact h⟩
theorem rd_notInC {c : Nat} {z : Str} (h : Q (.bl (!decide (c ∈ z.cps.toList))) H) : rNotInA K (.str ⟨#[c]⟩) (.str z) H Q := .inr ⟨_, _, rfl, rfl, by rw [PySem.StrLaws.found_one]; exact h⟩
theorem rd_tyS {z : Str} {R : Prop} (h : R) : tyV K "str" (.str z) H ∧ R := ⟨by first | exact .inr ⟨_, rfl⟩ | exact .inr (.inl ⟨_, rfl, rfl⟩) | exact .inr (.inr ⟨_, rfl⟩) | trivial, h⟩
theorem forS {z : Str} {g : TG} {tb : TS} (Pv : Nat → L2.St → Hp → Prop) (h0 : Pv 0 σ H)
    (hs : ∀ (i : Nat) (c : Nat) σ H, z.cps[i]? = some c → Pv i σ H → g (.str ⟨#[c]⟩) σ H fun σ2 H2 => tb { D with nx := Pv (i + 1), ct := Pv (i + 1), bk := D.nx } σ2 H2) (hd : ∀ σ H, Pv z.cps.size σ H → D.nx σ H) : ForA K (.str z) g tb D σ H := by
  refine .inr (.inr ⟨z, rfl, fun i m σ H => m = z.cps.size - i ∧ i ≤ z.cps.size ∧ Pv i σ H, ⟨_, rfl, Nat.zero_le _, h0⟩, ?_⟩)
  rintro i m σ H ⟨rfl, hi, p⟩
  by_cases lt : i < z.cps.size
  · refine .inr ⟨lt, Pv (i + 1), fun σ' H' p' => ⟨z.cps.size - (i + 1), by omega, rfl, lt, p'⟩, ?_⟩
    rintro x H' ⟨rfl, c, hc, rfl⟩
    exact hs i c σ _ hc p
  · have e : i = z.cps.size := by omega
    subst e
    exact .inl ⟨Nat.le_refl _, hd σ H p⟩
theorem rd_intT {a : Str} {n : Int} (e : PySem.intText? a = some n) (l : a.length ≤ 640) (h : Q (.int n) H) : rIntT [.str a] H Q := ⟨a, n, rfl, e, l, h⟩
theorem rd_find {a b : Str} (h : Q (.int (Txt.find a b)) H) : rFindS (.str a) [.str b] H Q := ⟨a, b, rfl, rfl, h⟩
theorem rd_slT {r : V → Option Int → Option Int → Hp → VK → Prop} {te : TE} {tl th : TO} (h : te σ H fun x H1 => tl σ H1 fun l H2 => th σ H2 fun u H3 => r x l u H3 Q) : tSl r te tl th σ H Q := h
theorem rd_noPart {R : Option Int → Hp → Prop} (h : R none H) : tNoPart σ H R := h
theorem rd_part {te : TE} {R : Option Int → Hp → Prop} (h : te σ H fun x H1 => ∃ i, x = .int i ∧ R (some i) H1) : tPart te σ H R := h
theorem rd_partI {i : Int} {R : Int → Prop} (h : R i) : ∃ j, V.int i = .int j ∧ R j := ⟨i, rfl, h⟩
theorem rd_slS {z : Str} {lo hi : Option Int} (l : z.length ≤ sizeLine) (h : Q (.str (cutS z lo hi)) H) : rSlS (.str z) lo hi H Q := ⟨z, rfl, l, h⟩
theorem cut_le (z : Str) (lo hi : Option Int) : (cutS z lo hi).length ≤ z.length := by
  show ((z.cps.toList.drop _).take _).toArray.size ≤ z.cps.size
  rw [List.size_toArray, List.length_take, List.length_drop, Array.length_toList]
  omega
theorem app_len (a b : Str) : (a ++ b).length = a.length + b.length := by
  show (a.cps ++ b.cps).size = _
  rw [Array.size_append]
  rfl
theorem log_small {a : Int} (h0 : 0 ≤ a) (h1 : a < 1000000000) : a.natAbs.log2 < 1920 := by
  by_cases z : a.natAbs = 0
  · rw [z]; decide
  · refine (Nat.log2_lt z).mpr (Nat.lt_of_lt_of_le (by omega : a.natAbs < 2 ^ 30) (Nat.pow_le_pow_right (by decide) (by decide)))
theorem num_len {a : Int} (h0 : 0 ≤ a) (h1 : a < 1000000000) : (PySem.Str.ofString (toString a)).length ≤ 9 := PyProof.Rows.toString_length_le h0 (by decide) (by omega)
end
end Rd

/-! Ob: the layer's fourth part: objects of own classes -/
namespace Rd
open PySem PySem.Spec PyProof.Rows L2
/-- a field of the class's instances -/
class HasFld (K : PySem.W.Frag) (C : Addr) (f : Str) : Prop where
  cl : Cls K C
  na : NoAttr K C f
/-- a constant of the class -/
class HasCon (K : PySem.W.Frag) (C : Addr) (f : Str) (v : outParam V) : Prop where
  cl : Cls K C
  con : ∃ u, Con K C f v u
/-- what isinstance asks of the class -/
class IsIns (K : PySem.W.Frag) (C : Addr) : Prop where
  cl : Cls K C
  a1 : PySem.W.findIn K (.ref C) "__class__" = some (some (.builtin "object.__class__"))
  a2 : PySem.W.specialIn K (.builtin "object.__class__") "__get__" = some (some (.builtin "getset_descriptor.__get__"))
  a3 : PySem.W.takesIn K (.builtin "object.__class__") = some true
  a4 : PySem.W.mroIn K C (.type "object") = some true
def objB (K : PySem.W.Frag) (C : Addr) (fs : List Str) : Bool :=
  PySem.W.plainGet K C Str.empty && (PySem.W.hasDictIn K C && (PySem.W.plainOver K C && (decide (PySem.W.findIn K (.ref C) "__setattr__" = some (some (.builtin "object.__setattr__"))) && (PySem.W.makesIn K C && (PySem.W.keepIn K (.ref C) &&
    (decide (PySem.W.findIn K (.ref C) "__class__" = some (some (.builtin "object.__class__"))) && (decide (PySem.W.specialIn K (.builtin "object.__class__") "__get__" = some (some (.builtin "getset_descriptor.__get__"))) && (decide (PySem.W.takesIn K (.builtin "object.__class__") = some true) &&
    (decide (PySem.W.mroIn K C (.type "object") = some true) && fs.all fun f => decide (PySem.W.findIn K (.ref C) f = some none))))))))))
structure ObjC (K : PySem.W.Frag) (C : Addr) (fs : List Str) : Prop where
  cl : Cls K C
  mkO : PySem.W.makesIn K C = true
  kpO : PySem.W.keepIn K (.ref C) = true
  ins : IsIns K C
  no : ∀ f ∈ fs, NoAttr K C f
theorem objB_ok {K : PySem.W.Frag} {C : Addr} {fs : List Str} (h : objB K C fs = true) : ObjC K C fs := by
  obtain ⟨h1, h⟩ := Bool.and_eq_true_iff.mp h
  obtain ⟨h2, h⟩ := Bool.and_eq_true_iff.mp h
  obtain ⟨h3, h⟩ := Bool.and_eq_true_iff.mp h
  obtain ⟨h4, h⟩ := Bool.and_eq_true_iff.mp h
  obtain ⟨h5, h⟩ := Bool.and_eq_true_iff.mp h
  obtain ⟨h6, h⟩ := Bool.and_eq_true_iff.mp h
  obtain ⟨h7, h⟩ := Bool.and_eq_true_iff.mp h
  obtain ⟨h8, h⟩ := Bool.and_eq_true_iff.mp h
  obtain ⟨h9, h⟩ := Bool.and_eq_true_iff.mp h
  obtain ⟨h10, h11⟩ := Bool.and_eq_true_iff.mp h
  have cl : Cls K C := ⟨h1, h2, h3, of_decide_eq_true h4⟩
  exact ⟨cl, h5, h6, ⟨cl, of_decide_eq_true h7, of_decide_eq_true h8, of_decide_eq_true h9, of_decide_eq_true h10⟩, fun f hf => (of_decide_eq_true (List.all_eq_true.mp h11 f hf) : PySem.W.findIn K (.ref C) f = some none)⟩
def FldOf (K : PySem.W.Frag) (x : V) (f : Str) (H : Hp) (Q : VK) : Prop := ∃ a C dx fs v, x = .ref a ∧ H a = some (.ins C dx fs) ∧ Cls K C ∧ NoAttr K C f ∧ fs.lookup f = some v ∧ Q v H
def ConOf (K : PySem.W.Frag) (x : V) (f : Str) (H : Hp) (Q : VK) : Prop := ∃ a C dx fs v u, x = .ref a ∧ H a = some (.ins C dx fs) ∧ Cls K C ∧ Con K C f v u ∧ fs.lookup f = none ∧ Q v H
def PutOf (K : PySem.W.Frag) (x : V) (f : Str) (y : V) (H : Hp) (R : Hp → Prop) : Prop := ∃ a C dx fs, x = .ref a ∧ H a = some (.ins C dx fs) ∧ Cls K C ∧ NoAttr K C f ∧ fs.length < 1000 ∧ R (upd H a (.ins C dx (putF f y fs)))
def InsOf (C : Addr) (m : Str) (x : V) (H : Hp) (R : Prop) : Prop := ∃ a dx fs, x = .ref a ∧ H a = some (.ins C dx fs) ∧ fs.lookup m = none ∧ R
def tMethT (C : Addr) (m : Str) (sp : Sp) (E : L2.St → XK) (ta : TE) (t : TA) : TE := fun σ H Q => ta σ H fun x H1 => InsOf C m x H1 (t σ H1 fun vs H2 => sp (x :: vs) H2 Q (E σ))
def tMakeT (C : Addr) (sp : Sp) (E : L2.St → XK) (t : TA) : TE := fun σ H Q => t σ H fun vs H1 => ∀ x dx, H1 x = none → H1 dx = none → dx ≠ x → sp (.ref x :: vs) (upd (upd H1 dx (.own x)) x (.ins C dx [])) (fun v H2 => v = .non ∧ Q (.ref x) H2) (E σ)
def PropAt (C : Addr) (x : V) (H : Hp) (R : Addr → Prop) : Prop := ∃ a dx fs, x = .ref a ∧ H a = some (.ins C dx fs) ∧ R a
section
variable {K : PySem.W.Frag} {σ : L2.St} {H : Hp} {Q : VK} {D : Ends} {te tv : TE} {ta : TA} {a C dx : Addr} {fs : List (Str × V)} {f m : Str} {v y : V} {sp : Sp} {E : L2.St → XK}
theorem rd_fld (h : te σ H fun x H1 => FldOf K x f H1 Q) : tFld K te f σ H Q := h
theorem rd_fldI (h : H a = some (.ins C dx fs)) (i : HasFld K C f) (l : fs.lookup f = some v) (q : Q v H) : FldOf K (.ref a) f H Q := ⟨a, C, dx, fs, v, rfl, h, i.cl, i.na, l, q⟩
theorem rd_con (h : te σ H fun x H1 => ConOf K x f H1 Q) : tCon K te f σ H Q := h
theorem rd_conI (h : H a = some (.ins C dx fs)) (i : HasCon K C f v) (l : fs.lookup f = none) (q : Q v H) : ConOf K (.ref a) f H Q := ⟨a, C, dx, fs, v, i.con.choose, rfl, h, i.cl, i.con.choose_spec, l, q⟩
theorem rd_sFld (h : tv σ H fun y H1 => te σ H1 fun x H2 => PutOf K x f y H2 fun H3 => D.nx σ H3) : sFld K te tv f D σ H := h
theorem rd_putI {R : Hp → Prop} (h : H a = some (.ins C dx fs)) (i : HasFld K C f) (l : fs.length < 1000) (r : R (upd H a (.ins C dx (putF f y fs)))) : PutOf K (.ref a) f y H R := ⟨a, C, dx, fs, rfl, h, i.cl, i.na, l, r⟩
theorem rd_meth (h : te σ H fun x H1 => InsOf C m x H1 (ta σ H1 fun vs H2 => sp (x :: vs) H2 Q (E σ))) : tMethT C m sp E te ta σ H Q := h
theorem rd_insI {R : Prop} (h : H a = some (.ins C dx fs)) (l : fs.lookup m = none) (r : R) : InsOf C m (.ref a) H R := ⟨a, dx, fs, rfl, h, l, r⟩
theorem rd_make (h : ta σ H fun vs H1 => ∀ x dx, H1 x = none → H1 dx = none → dx ≠ x → sp (.ref x :: vs) (upd (upd H1 dx (.own x)) x (.ins C dx [])) (fun v H2 => v = .non ∧ Q (.ref x) H2) (E σ)) : tMakeT C sp E ta σ H Q := h
theorem rd_prop {E : XK} (h : te σ H fun x H1 => PropAt C x H1 fun a => sp [.ref a] H1 Q E) : tProp C sp [] E te σ H Q := h
theorem rd_propI {R : Addr → Prop} (h : H a = some (.ins C dx fs)) (r : R a) : PropAt C (.ref a) H R := ⟨a, dx, fs, rfl, h, r⟩
end
theorem put_lt {f : Str} {v : V} : ∀ {fs : List (Str × V)} {n : Nat}, fs.length < n → (putF f v fs).length < n + 1
  | [], n, h => by
    show 1 < n + 1
    have : 0 < n := h
    omega
  | (g, x) :: r, n, h => by
    unfold putF
    split
    · exact Nat.lt_succ_of_lt h
    · cases n with
      | zero => cases h
      | succ n => exact Nat.succ_lt_succ (put_lt (Nat.lt_of_succ_lt_succ h))
theorem rd_isiO {K : PySem.W.Frag} {H : Hp} {Q : VK} {a C dx : Addr} {fs : List (Str × V)} (h : H a = some (.ins C dx fs)) (i : IsIns K C) (q : Q (.bl true) H) : rIsi K [.ref a, .ref C] H Q :=
  ⟨.ref a, .ref C, .ref C, .ref C, true, rfl, .own C, .base (.ins h i.cl i.a1 i.a2 i.a3 i.a4), by unfold PySem.W.kitOne; rw [if_pos (by simp)], q⟩
/-! ### methods, classes as callers know them -/
structure CalM (P : Program) (w : World) (K : PySem.W.Frag) (mg : Str → Option Value) (base : Heap) (CX : CXT) (C : Addr) (m : Str) (k : Nat) (ps : List Str) (sp : Sp) : Prop where
  cl : Cls K C
  ex : ∃ (f : Addr) (fd : FuncData), FnOk P w K mg base CX k f fd ps sp ∧ Meth K C m f ∧ Binds K fd ps []
structure CalK (P : Program) (w : World) (K : PySem.W.Frag) (mg : Str → Option Value) (base : Heap) (CX : CXT) (x : Str) (C : Addr) (k : Nat) (ps : List Str) (sp : Sp) : Prop where
  g : mg x = some (.ref C)
  ex : ∃ (f : Addr) (fd : FuncData), FnOk P w K mg base CX k f fd ps sp ∧ Mk K C f ∧ Binds K fd ps []
structure CalP (P : Program) (w : World) (K : PySem.W.Frag) (mg : Str → Option Value) (base : Heap) (C : Addr) (m : Str) (k : Nat) (sp : Sp) : Prop where
  cl : Cls K C
  ex : ∃ (p f : Addr) (fd : FuncData), FnOk P w K mg base CX0 k f fd ["self"] sp ∧ PropOf K C m p f ∧ Binds K fd ["self"] []
section
variable {X : Cx} {CX : CXT} {k : Nat} {C : Addr} {m x : Str} {ps : List Str} {sp : Sp} {E : L2.St → XK} {o e : Expr} {es : List Expr} {ta : TE} {t : TA} {apos p pos : Pos} {pl : Sem Bool}
theorem pe_calM (c : CalM X.prog X.w X.K X.mg X.base CX C m k ps sp) (he : PE X o ta) (hr : Room k X.A) (hx : ∀ σ, PassesAt CX X σ (E σ)) (ha : PA X (e :: es) t)
    (hst : starEach (e :: es) X.env = (false, eval e X.env) :: starEach es X.env := by rfl) (hpl : (backTo pos (starEach es X.env)).any (·.1) = false := by rfl)
    (ht : eval (.Call (.Attribute o m apos) (e :: es) [] pos) X.env = (do let ov ← eval o X.env; standAt apos.atName; let (f, first) ← holding [ov] (getMethod ov m pl); callWith pos f first (backTo pos (starEach (e :: es) X.env)) (backToKw pos (keywordEach [] X.env))) := by rfl) :
    PE X (.Call (.Attribute o m apos) (e :: es) [] pos) (tMethT C m sp E ta t) := by
  obtain ⟨cl, f, fd, F, hm, hb⟩ := c
  refine ⟨fun pins s σ H Q I h => PySem.W.methodCall_KW (pl := pl) (thn (he.run pins s σ H _ I h) ?_) ht⟩
  rintro u s1 ⟨x, H1, I1, rx, a, dx, fs, rfl, ea, l, q⟩
  cases rx
  refine getmeth_ok I1 ea cl hm l (PySem.W.callWith_K (first := [.ref a]) (h₀ := X.base) I.ok.mod.kin hm.kp (thn (ha.run pos pins s1 σ H1 _ I1 q) ?_) hst hpl)
  rintro us s2 ⟨vs, H2, I2, r, q2⟩
  exact ⟨I2.kIn, run_fnS (us := .ref a :: us) (vs := .ref a :: vs) F hr hb (hx σ) I2 (.cons rfl r) q2⟩
theorem pe_calM0 (c : CalM X.prog X.w X.K X.mg X.base CX C m k ps sp) (he : PE X o ta) (hr : Room k X.A) (hx : ∀ σ, PassesAt CX X σ (E σ))
    (ht : eval (.Call (.Attribute o m apos) [] [] pos) X.env = (do let ov ← eval o X.env; standAt apos.atName; let (f, first) ← holding [ov] (getMethod ov m pl); callWith pos f first (backTo pos (starEach [] X.env)) (backToKw pos (keywordEach [] X.env))) := by rfl) :
    PE X (.Call (.Attribute o m apos) [] [] pos) (tMethT C m sp E ta tNil) := by
  obtain ⟨cl, f, fd, F, hm, hb⟩ := c
  refine ⟨fun pins s σ H Q I h => PySem.W.methodCall_KW (pl := pl) (thn (he.run pins s σ H _ I h) ?_) ht⟩
  rintro u s1 ⟨x, H1, I1, rx, a, dx, fs, rfl, ea, l, q⟩
  cases rx
  exact getmeth_ok I1 ea cl hm l (PySem.W.callWith_K0 (first := [.ref a]) I1.kIn hm.kp (run_fnS (us := [.ref a]) (vs := [.ref a]) F hr hb (hx σ) I1 (.cons rfl .nil) q))
theorem run_mkS {f : Addr} {fd : FuncData} {pins : List (Addr × Obj)} {σ : L2.St} {H : Hp} {s : Shared} {Q : VK} {us : List Value} {vs : List V} (M : Mk X.K C f) (F : FnOk X.prog X.w X.K X.mg X.base CX k f fd ps sp) (hr : Room (k + 1) X.A) (hb : Binds X.K fd ps []) (hx : PassesAt CX X σ (E σ)) (I : Inv X pins σ H s) (r : Vals vs us)
    (h : ∀ x dx, H x = none → H dx = none → dx ≠ x → sp (.ref x :: vs) (upd (upd H dx (.own x)) x (.ins C dx [])) (fun v H2 => v = .non ∧ Q (.ref x) H2) (E σ)) : wpAny (model X.prog X.w) X.A (call (.ref C) us) (EP X pins σ Q) X.xe s := by
  have h1 := h (s.heap.objs.size + 1) s.heap.objs.size (I.hok.fresh (Nat.le_succ _)) (I.hok.fresh (Nat.le_refl _)) (Nat.ne_of_lt (Nat.lt_succ_self _))
  have J := Inv.made (C := C) I
  have rr : Vals (V.ref (s.heap.objs.size + 1) :: vs) (Value.ref (s.heap.objs.size + 1) :: us) := .cons rfl r
  have b := hb _ (Value.ref (s.heap.objs.size + 1) :: us) J.kIn (by rw [List.append_nil, ← rr.length]; exact F.len _ _ _ _ h1)
  rw [List.append_nil] at b
  refine wpAny_call (make_map (f := f) I.kIn M.makes M.init (beq_iff_eq.mp M.fn) (codeAny_mono (F.run _ X.stack _ _ ⟨_, []⟩ _ _ _ (E σ) (hr.make C us []) (J.env0.make C us []) b rr h1) ?_))
  rintro (er | (_ | _ | _ | u)) s' z
  · exact hx pins _ _ er s' J z
  all_goals first | exact z.elim | skip
  obtain ⟨y, H', J3, ry, ey, q3⟩ := J.after z
  subst ey
  exact ⟨ry, V.ref (s.heap.objs.size + 1), H', J3, rfl, q3⟩
theorem pe_calK (c : CalK X.prog X.w X.K X.mg X.base CX x C k ps sp) (hr : Room (k + 1) X.A) (hx : ∀ σ, PassesAt CX X σ (E σ)) (ha : PA X (e :: es) t) (hg : Gl X x := by rfl)
    (hd : (x == ("__debug__" : Str)) = false := by decide) (he : starEach (e :: es) X.env = (false, eval e X.env) :: starEach es X.env := by rfl) (hpl : (backTo pos (starEach es X.env)).any (·.1) = false := by rfl) :
    PE X (.Call (.Name x p) (e :: es) [] pos) (tMakeT C sp E t) := by
  obtain ⟨g, f, fd, F, M, hb⟩ := c
  refine ⟨fun pins s σ H Q I h => wpAny_Call_Name_kw (ld_glob I hg g (PySem.W.callWith_K (h₀ := X.base) I.ok.mod.kin M.kp (thn (ha.run pos pins s σ H _ I h) ?_) he hpl) hd)⟩
  rintro us s1 ⟨vs, H1, I1, r, q⟩
  exact ⟨I1.kIn, run_mkS M F hr hb (hx σ) I1 r q⟩
theorem pe_calK0 (c : CalK X.prog X.w X.K X.mg X.base CX x C k ps sp) (hr : Room (k + 1) X.A) (hx : ∀ σ, PassesAt CX X σ (E σ)) (hg : Gl X x := by rfl) (hd : (x == ("__debug__" : Str)) = false := by decide) : PE X (.Call (.Name x p) [] [] pos) (tMakeT C sp E tNil) := by
  obtain ⟨g, f, fd, F, M, hb⟩ := c
  exact ⟨fun pins s σ H Q I h => wpAny_Call_Name_kw (ld_glob I hg g (PySem.W.callWith_K0 (first := []) I.kIn M.kp (run_mkS (us := []) (vs := []) M F hr hb (hx σ) I .nil h)) hd)⟩
theorem pe_calP (c : CalP X.prog X.w X.K X.mg X.base C m k sp) (he : PE X o ta) (hr : Room (k + 1) X.A) (hab : attributeBase o m X.env (eval o X.env) = eval o X.env := by rfl) : PE X (.Attribute o m pos) (tProp C sp [] E0 ta) := by
  obtain ⟨cl, q, f, fd, F, hp, hb⟩ := c
  exact pe_prop he cl hp F hr hb .nil (fun _ _ _ _ _ _ _ z => z.elim) hab
end
/-! ### a special method of the class, by its name -/
section
variable {prog : Program} {w : World} {A : Around} {s : Shared} {K : PySem.W.Frag} {a C g : Addr} {ox : Obj} {od : Option Obj}
theorem spec_yes {name : Str} {args : List Value} {Q : Option Value → Shared → Prop} {E : Value → Shared → Prop} (Y : K.In s.heap) (I : PySem.W.InstAt s.heap a ox C od) (hf : PySem.W.findIn K (.ref C) name = some (some (.ref g))) (hg : PySem.W.isFn K (.ref g) = true)
    (h : wpAny (model prog w) A (call (.ref g) (.ref a :: args)) (fun r s' => Q (some r) s') E s) : wpAny (model prog w) A (callSpecial? (.ref a) name args) Q E s := by
  unfold callSpecial? specialOf
  refine wpAny_bind (wpAny_bind (I.type.at ((PySem.W.looks_findIn Y hf).at (wpAny_holding (wpAny_bind ((PySem.W.bind_fn Y (.ref a) (beq_iff_eq.mp hg)).at (wpAny_bind ?_)))))))
  exact wpAny_mono h (fun r s' z => wpAny_pure z) fun _ _ z => z
end
/-- -x of an own class's object -/
def rNegO (C : Addr) (sp : Sp) (E : XK) : V → Hp → VK → Prop := fun x H Q => ∃ a dx fs, x = .ref a ∧ H a = some (.ins C dx fs) ∧ sp [.ref a] H Q E
/-- +, -, .. : what an own class's special method of one argument promises -/
theorem un_negO {X : Cx} {CX : CXT} {k : Nat} {C : Addr} {sp : Sp} {E : XK} (c : CalM X.prog X.w X.K X.mg X.base CX C "__neg__" k ["self"] sp) (hr : Room k X.A) (hx : Passes CX X E) : UnR X (unaryOp .USub) (rNegO C sp E) := by
  intro pins s σ H x u Q I rx h
  obtain ⟨a, dx, fs, rfl, ea, q⟩ := h
  cases rx
  obtain ⟨cl, f, fd, F, hm, hb⟩ := c
  obtain ⟨mA, O, _, _, _, _⟩ := ins_get I.hok ea
  obtain ⟨od, J, _⟩ := O.look
  unfold unaryOp
  refine wpAny_holding ?_
  show wpAny _ _ (callSpecial? (.ref a) "__neg__" [] >>= _) _ _ _
  refine wpAny_bind (spec_yes I.kIn J hm.at_ hm.fn (wpAny_mono (run_fnS (E := fun _ => E) (us := [.ref a]) (vs := [.ref a]) F hr hb (fun pins => hx pins σ) I (.cons rfl .nil) q) (fun r s' z => wpAny_pure z) fun _ _ z => z))
/-! ### a tuple of texts, a dict of the module -/
class KTup (K : PySem.W.Frag) (p : Addr) : Prop where
  ty : ∃ o, K.lookup p = some o ∧ o.cls = .type "tuple" ∧ o.dict = none
theorem rd_tyT {K : PySem.W.Frag} {p : Addr} {H : Hp} {R : Prop} (i : KTup K p) (h : R) : tyV K "tuple" (.ref p) H ∧ R := ⟨.inr (.inl ⟨rfl, i.ty⟩), h⟩
theorem kd_of {K : PySem.W.Frag} {w : World} {p : Addr} {tab : List (Str × V)} (h : ∀ x ∈ tab, KDct K w p x.1 x.2) : ∀ z v, tab.lookup z = some v → KDct K w p z v := by
  intro z v e
  induction tab with
  | nil => cases e
  | cons a l ih =>
    rw [List.lookup_cons] at e
    split at e
    · rename_i q
      cases e
      have q : z = a.1 := by simpa using q
      rw [q]
      exact h a List.mem_cons_self
    · exact ih (fun x hx => h x (List.mem_cons_of_mem _ hx)) e
def rIxT (p : Addr) (tab : List (Str × V)) : R2 := fun x y H Q => ∃ z v, x = .ref p ∧ y = .str z ∧ tab.lookup z = some v ∧ Q v H
theorem ix_tab {X : Cx} {p : Addr} {tab : List (Str × V)} (h : ∀ z v, tab.lookup z = some v → KDct X.K X.w p z v) : IxR X (rIxT p tab) := by
  intro value slice pins s σ H x y v u Q I rx ry ⟨z, r, e1, e2, l, q⟩ hs
  exact ix_kdict value slice pins s σ H x y v u Q I rx ry ⟨p, z, r, e1, e2, h z r l, q⟩ hs
def rIdxT (p : Addr) (ys : List Str) : V → List V → Hp → VK → Prop := fun x xs H Q => ∃ z j, x = .ref p ∧ xs = [.str z] ∧ ys[j]? = some z ∧ (∀ m, m < j → ys[m]? ≠ some z) ∧ Q (.int (j : Nat)) H
theorem mt_idxT {X : Cx} {p : Addr} {ys : List Str} (h : ∀ H, SqT X.K H p (ys.map V.str)) : MtR X "tuple.index" (rIdxT p ys) := by
  intro pins s σ H x xs v us Q I rx rs ⟨z, j, e1, e2, e3, e4, q⟩
  exact mt_tup_index pins s σ H x xs v us Q I rx rs ⟨p, ys, z, j, e1, e2, h H, e3, e4, q⟩
end Rd

/-! Mo: the layer's fifth part: more about heaps -/
namespace Rd
open PySem PySem.Spec PyProof.Rows L2
section
variable {K : PySem.W.Frag} {H H1 H' : Hp} {l : List Addr} {p a C dx : Addr} {xs : List V} {o : HO} {fs : List (Str × V)}
/-- lists stand at these addresses -/
def Lsts (H : Hp) (l : List Addr) : Prop := ∀ x ∈ l, ∃ xs, H x = some (.lst xs)
theorem Lsts.nil : Lsts H [] := fun _ m => by cases m
theorem Lsts.cons (h : H p = some (.lst xs)) (r : Lsts H l) : Lsts H (p :: l) := fun x m => by
  rcases List.mem_cons.mp m with e | e
  · rw [e]; exact ⟨_, h⟩
  · exact r x e
theorem keepT (b : But l H H') (hl : Lsts H l) (h : H p = some (.tup xs)) : H' p = some (.tup xs) :=
  b p _ (fun m => by obtain ⟨ys, e⟩ := hl p m; rw [h] at e; cases e) h
theorem keepI (b : But l H H') (hl : Lsts H l) (h : H p = some (.ins C dx fs)) : H' p = some (.ins C dx fs) :=
  b p _ (fun m => by obtain ⟨ys, e⟩ := hl p m; rw [h] at e; cases e) h
theorem upd_free (h : upd H p o a = none) : H a = none := by
  by_cases e : a = p
  · rw [e, upd_same] at h; cases h
  · rw [upd_ne e] at h; exact h
theorem Same.free (s : Same H H') (h : H' a = none) : H a = none := by
  cases e : H a with
  | none => rfl
  | some u => rw [s a u e] at h; cases h
theorem same_drop (s : Same H H1) (b : But l H1 H') (n : ∀ x ∈ l, H x = none) : Same H H' := fun c u h => b c u (fun m => by have := n c m; rw [h] at this; cases this) (s c u h)
theorem rows_snoc {α β : Type} {P : α → β → Prop} {xs : List α} {ys : List β} (l : xs.length = ys.length) (h : ∀ (i : Nat) v w, xs[i]? = some v → ys[i]? = some w → P v w) {x : α} {y : β} (p : P x y) :
    ∀ (i : Nat) v w, (xs ++ [x])[i]? = some v → (ys ++ [y])[i]? = some w → P v w := by
  intro i v w e1 e2
  by_cases hi : i < xs.length
  · rw [List.getElem?_append_left hi] at e1
    rw [List.getElem?_append_left (by omega)] at e2
    exact h i v w e1 e2
  · rw [List.getElem?_append_right (by omega)] at e1
    rw [List.getElem?_append_right (by omega), ← l] at e2
    cases hj : i - xs.length with
    | zero =>
      rw [hj] at e1 e2
      cases e1
      cases e2
      exact p
    | succ j => rw [hj] at e1; simp at e1
theorem ne_tl {q : Addr} {ys : List V} (h : H p = some (.tup xs)) (g : H q = some (.lst ys)) : p ≠ q := fun e => by rw [e, g] at h; cases h
theorem ne_il {q : Addr} {ys : List V} (h : H p = some (.ins C dx fs)) (g : H q = some (.lst ys)) : p ≠ q := fun e => by rw [e, g] at h; cases h
theorem ne_it {q : Addr} {ys : List V} (h : H p = some (.ins C dx fs)) (g : H q = some (.tup ys)) : p ≠ q := fun e => by rw [e, g] at h; cases h
theorem row_snoc {α : Type} {P : α → Prop} {xs : List α} (h : ∀ v ∈ xs, P v) {x : α} (p : P x) : ∀ v ∈ xs ++ [x], P v := fun v m => by
  rcases List.mem_append.mp m with m | m
  · exact h v m
  · rw [List.mem_singleton.mp m]; exact p
end
end Rd
namespace Rd
open PySem PySem.Spec PyProof.Rows L2
/-- a list of two plain things -/
theorem row2 {M : List Addr} {H : Hp} {n : Nat} {x : Addr} {v w : V} {d e : PyData} (h : H x = some (.lst [v, w])) (m : x ∉ M) (hv : Dt M H n v d := by first | exact .int | exact .str | exact .bl | exact .non) (hw : Dt M H n w e := by first | exact .int | exact .str | exact .bl | exact .non) : Dt M H (n + 1) (.ref x) (.list [d, e]) := by
  refine .lst h m rfl (by simp) fun i v e e1 e2 => ?_
  match i, e1, e2 with
  | 0, e1, e2 => cases e1; cases e2; exact hv
  | 1, e1, e2 => cases e1; cases e2; exact hw
  | i + 2, e1, e2 => simp at e1
end Rd

/-! Mx: the layer's sixth part: several except clauses with and without names, operators of own classes, constants of a class -/
namespace L2
open PySem PySem.Spec PyProof.Rows
/-- several except clauses: each a class, a slot or none, a suite -/
def wMix (K : PySem.W.Frag) (Wout : WX) (D : Ends) : List (Value × Option Nat × (Addr → Value → Option Addr → TS)) → WX
  | [] => Wout
  | (c, none, ts) :: r => fun cls d σ H => ∃ b, PySem.W.exmOne K cls c = some b ∧ (b = true → ∀ a, H a = none → ts a cls d D σ H) ∧ (b = false → wMix K Wout D r cls d σ H)
  | (c, some i, ts) :: r => fun cls d σ H => ∃ b, PySem.W.exmOne K cls c = some b ∧ (b = true → ∀ a, H a = none → ts a cls d { nx := fun σ' H' => D.nx (σ'.set i none) H', rt := D.rt, bk := fun σ' H' => D.bk (σ'.set i none) H', ct := fun σ' H' => D.ct (σ'.set i none) H' } (σ.set i (some (.ref a))) H) ∧
      (b = false → wMix K Wout D r cls d σ H)
def tTryMix (K : PySem.W.Frag) (l : List (Value × Option Nat × (Addr → Value → Option Addr → TS))) (tb : WX → TS) (Wout : WX) : TS := fun D σ H => tb (wMix K Wout D l) D σ H
end L2
namespace L2N
open PySem PySem.Spec PyProof.Rows L2
inductive MixOk (X : Cx) : List ExceptHandler → List (Value × Option Nat × (Addr → Value → Option Addr → TS)) → Prop
  | nil : MixOk X [] []
  | cons {x : Str} {c : Value} {ts : Addr → Value → Option Addr → TS} {b₀ : Stmt} {suite : List Stmt} {np pos' : Pos} {hds : List ExceptHandler} {l : List (Value × Option Nat × (Addr → Value → Option Addr → TS))} (hc : Names X x c)
      (hsu : ∀ (a : Addr) (oe : Obj) (cls : Value) (d : Option Addr) (pn : List (Addr × Obj)), Zn cls d oe → (∃ vs, oe.data = .fields vs) → PSs (X.suite a ((a, oe) :: pn)) (b₀ :: suite) (ts a cls d)) (r : MixOk X hds l) :
      MixOk X (.ExceptHandler (some (.Name x np)) none (b₀ :: suite) pos' :: hds) ((c, none, ts) :: l)
  | as {x n : Str} {i : Nat} {c : Value} {ts : Addr → Value → Option Addr → TS} {b₀ : Stmt} {suite : List Stmt} {np pos' : Pos} {hds : List ExceptHandler} {l : List (Value × Option Nat × (Addr → Value → Option Addr → TS))} (hN : X.N.Nodup) (hi : X.N[i]? = some n) (hln : X.env.kindOf n = some .local) (hc : Names X x c)
      (hsu : ∀ (a : Addr) (oe : Obj) (cls : Value) (d : Option Addr) (pn : List (Addr × Obj)), Zn cls d oe → (∃ vs, oe.data = .fields vs) → PSs (X.suite a ((a, oe) :: pn)) (b₀ :: suite) (ts a cls d)) (r : MixOk X hds l) :
      MixOk X (.ExceptHandler (some (.Name x np)) (some n) (b₀ :: suite) pos' :: hds) ((c, some i, ts) :: l)
section
variable {X : Cx} {body : List Stmt} {h₀ : ExceptHandler} {hds : List ExceptHandler} {l : List (Value × Option Nat × (Addr → Value → Option Addr → TS))} {pos : Pos} {tb : WX → TS} {Wout : WX}
theorem ps_try_mix (hs : X.stack = X.env :: X.outer) (hf : X.env.frame = some X.env.locals) (tk : Takes X Wout)
    (hb : ∀ (W : WX) (pn : List (Addr × Obj)) (xe : Value → Shared → Prop), Takes (X.tr pn xe) W → PassesOwn (model X.prog X.w) X.A X.env xe → PSs (X.tr pn xe) body (tb W))
    (hh : MixOk X (h₀ :: hds) l) : PS X (.Try body (h₀ :: hds) [] [] pos) (tTryMix X.K l tb Wout) := by
  refine ⟨fun pins s σ H D I h => ?_⟩
  have ok := I.ok
  have hfr : X.A.frames = some (X.env :: X.outer) := by rw [ok.frames, hs]
  refine wpAny_Try_except ?_
  refine wpAny_mono ((hb (wMix X.K Wout D l) (X.pn ++ pins) (fun e s₁ => wpAny (model X.prog X.w) X.A (noteFrame e X.env) (fun _ s₂ => wpAny (model X.prog X.w) X.A (setFlight e none) (fun _ s₃ =>
    wpAny (model X.prog X.w) X.A (handleBy e X.env (h₀ :: hds)) (SP X pins D) X.xe s₃) X.xe s₂) X.xe s₁) (fun u s' xx => ?_) PassesOwn.looking).run [] s σ H D (I.toTry _) h) (fun f s1 hsp => ?_) (fun e s1 he => he)
  · -- the catch
    obtain ⟨a, B, sI, pins', σ', H', cls, d, rfl, J', nb, up, sky, na, os, ag, w⟩ := xx
    have J : Inv X pins σ' H' sI := J'.ofTry ok
    have sky' : Sky B (X.env :: X.outer) a (Zn cls d) X.env.locals s'.heap := by rw [← hs]; exact sky
    show wpAny (model X.prog X.w) X.A (noteFrame (.ref a) X.env) _ _ _
    refine Sky.land Zn.steady hfr hf sky' fun h3 fl3 up3 => ?_
    have J3 : Inv X pins σ' H' { s' with heap := h3 } := J.landed nb fl3.1 (up.trans up3) os ag
    obtain ⟨oe3, vs3, he3, hz3, hd3⟩ := fl3.there
    have notFr : ∀ {h : Heap} {o : Obj} {vs : Array Value}, h.FunFrames B (X.env :: X.outer) → h.get? a = some o → o.data = .fields vs → a ∉ frs (X.env :: X.outer) := fun {h o vs} ff e dd hm => by
      obtain ⟨_, o', e', hnf⟩ := ff.mem hm
      rw [e] at e'; cases e'
      exact hnf _ dd
    have nfr := notFr fl3.2.2.1 he3 hd3
    have nL : a ≠ X.env.locals := fun z => nfr (List.mem_filterMap.mpr ⟨X.env, List.mem_cons_self, by rw [hf, z]⟩)
    have nF : a ∉ X.fs := fun hm => by
      obtain ⟨e, he, q⟩ := List.mem_filterMap.mp hm
      exact nfr (List.mem_filterMap.mpr ⟨e, List.mem_cons_of_mem _ he, q⟩)
    have S3 := J3.suite he3 hd3 na nL nF
    have LT : PySem.W.Looks (model X.prog X.w) h3 (typeOf (.ref a)) cls := fun A Q E s k q => wpAny_typeOf_ref (k _ _ he3) (by rw [hz3.1]; exact q)
    have test : ∀ {x : Str} {c : Value} {np : Pos} {Q : Value → Shared → Prop} {E : Value → Shared → Prop}, Names X x c → Q c { s' with heap := h3 } → wpAny (model X.prog X.w) (X.A.mark (some (.ref a))) (eval (.Name x np) X.env) Q E { s' with heap := h3 } := fun {x c np Q E} hc q => by
      obtain ⟨hg, hdbg, hm | ⟨hm, hv, hnn⟩⟩ := hc
      · exact ld_glob (X := X.suite a ((a, oe3) :: (X.pn ++ pins))) S3 hg hm q hdbg
      · exact ld_blt (X := X.suite a ((a, oe3) :: (X.pn ++ pins))) S3 hg hm hv q hnn hdbg
    have go : ∀ {hds' : List ExceptHandler} {l' : List (Value × Option Nat × (Addr → Value → Option Addr → TS))}, MixOk X hds' l' → wMix X.K Wout D l' cls d σ' H' →
        wpAny (model X.prog X.w) X.A (handleBy (.ref a) X.env hds') (SP X pins D) X.xe { s' with heap := h3 } := by
      intro hds' l' hk
      induction hk with
      | nil =>
        intro w
        refine wpAny_handleBy_nil ?_
        obtain ⟨k1, k2, k3, oe, vs, T, oT, ts', he, hz, hd, h1, hr⟩ := id fl3
        unfold PySem.passOn
        refine wpAny_bind (wpAny_field he hd h1 ?_)
        rw [if_neg (show ¬ ((Value.ref T == Value.none) = true) from by simp)]
        have fin : wpAny (model X.prog X.w) X.A (setFlight (.ref a) X.env.frame) (fun _ s4 => wpAny (model X.prog X.w) X.A (throw (.ref a) : Sem Flow) (SP X pins D) X.xe s4) X.xe { s' with heap := h3 } := by
          rw [hf]
          refine HandSPX.setFlight_upZ fl3 fun h4 hh4 up4 => wpAny_throw (tk _ _ ?_)
          exact ⟨a, B, sI, pins, σ', H', cls, d, rfl, J, nb, (up.trans up3).trans up4, .inr (.inr (by rw [hs]; exact hh4)), na, os, ag, w⟩
        first
          | exact wpAny_bind (wpAny_pure (wpAny_bind fin))
          | exact wpAny_bind fin
      | @cons x c ts b₀ suite np pos' hds2 l2 hc hsu r ih =>
        intro w
        obtain ⟨b, hb1, hyes, hno⟩ := w
        refine wpAny_handleBy_cons (codeAny_handlers_test ?_) (by intro q; cases q)
        have LM := PySem.W.exm_one (M := model X.prog X.w) (J3.kIn) LT hb1
        refine test hc (LM.here ?_)
        cases b with
        | true =>
          refine codeAny_handlers_suite ?_
          refine HandSPX.lands_againZ fl3 fun h4 fl4 up4 => ?_
          have J4 : Inv X pins σ' H' { s' with heap := h4 } := J.landed nb fl4.1 ((up.trans up3).trans up4) os ag
          obtain ⟨oe4, vs4, he4, hz4, hd4⟩ := fl4.there
          have S4 := J4.suite he4 hd4 na nL nF
          refine wpAny_mono ((hsu a oe4 cls d (X.pn ++ pins) hz4 ⟨_, hd4⟩).run [] _ _ H' _ S4 (hyes rfl a na)) (fun f s6 hsp => ?_) (fun _ _ z => False.elim z)
          cases f with
          | next =>
            obtain ⟨σ6, H6, S6, q6⟩ := hsp
            exact ⟨_, _, S6.unsuite ok, q6⟩
          | brk =>
            obtain ⟨σ6, H6, S6, q6⟩ := hsp
            exact ⟨_, _, S6.unsuite ok, q6⟩
          | cont =>
            obtain ⟨σ6, H6, S6, q6⟩ := hsp
            exact ⟨_, _, S6.unsuite ok, q6⟩
          | ret u =>
            obtain ⟨v6, σ6, H6, S6, r6, q6⟩ := hsp
            exact ⟨_, _, _, S6.unsuite ok, r6, q6⟩
        | false =>
          show wpAny _ X.A (handleBy (.ref a) X.env hds2) _ _ _
          exact ih (hno rfl)
      | @as x n i c ts b₀ suite np pos' hds2 l2 hN hi hln hc hsu r ih =>
        intro w
        obtain ⟨b, hb1, hyes, hno⟩ := w
        have hloc : Loc X.env.scope n := .inl hln
        refine wpAny_handleBy_cons (codeAny_handlers_test ?_) (by intro q; cases q)
        have LM := PySem.W.exm_one (M := model X.prog X.w) (J3.kIn) LT hb1
        refine test hc (LM.here ?_)
        cases b with
        | true =>
          refine codeAny_handlers_suite_as ?_
          refine HandSPX.lands_againZ fl3 fun h4 fl4 up4 => ?_
          have J4 : Inv X pins σ' H' { s' with heap := h4 } := J.landed nb fl4.1 ((up.trans up3).trans up4) os ag
          obtain ⟨oe4, vs4, he4, hz4, hd4⟩ := fl4.there
          have S4 := J4.suite he4 hd4 na nL nF
          refine store_ok (X := X.suite a ((a, oe4) :: (X.pn ++ pins))) (v := .ref a) S4 hN hi hloc rfl (fun s5 S5 => ?_) (.inr hln)
          refine wpAny_mono ((hsu a oe4 cls d (X.pn ++ pins) hz4 ⟨_, hd4⟩).run [] s5 _ H' _ S5 (hyes rfl a na)) (fun f s6 hsp => ?_) (fun _ _ z => False.elim z)
          have end_ : ∀ {σ6 : St} {H6 : Hp} {Q : Shared → Prop}, Inv (X.suite a ((a, oe4) :: (X.pn ++ pins))) [] σ6 H6 s6 → (∀ s7, Inv X pins (σ6.set i none) H6 s7 → Q s7) →
              wpAny (model X.prog X.w) X.A (do bindName X.env n .none; unbindBehindTheSuite X.env n pos') (fun _ s7 => Q s7) X.xe s6 := fun {σ6 H6 Q} S6 hq => gone_ok (S6.unsuite ok) hN hi hln hq
          cases f with
          | next =>
            obtain ⟨σ6, H6, S6, q6⟩ := hsp
            exact end_ S6 fun s7 J7 => ⟨_, _, J7, q6⟩
          | brk =>
            obtain ⟨σ6, H6, S6, q6⟩ := hsp
            exact end_ S6 fun s7 J7 => ⟨_, _, J7, q6⟩
          | cont =>
            obtain ⟨σ6, H6, S6, q6⟩ := hsp
            exact end_ S6 fun s7 J7 => ⟨_, _, J7, q6⟩
          | ret u =>
            obtain ⟨v6, σ6, H6, S6, r6, q6⟩ := hsp
            exact end_ S6 fun s7 J7 => ⟨_, _, _, J7, r6, q6⟩
        | false =>
          show wpAny _ X.A (handleBy (.ref a) X.env hds2) _ _ _
          exact ih (hno rfl)
    exact go hh w
  · cases f with
    | next =>
      obtain ⟨σ', H', J', q⟩ := hsp
      exact wpAny_execs_nil ⟨σ', H', J'.ofTry ok, q⟩
    | brk =>
      obtain ⟨σ', H', J', q⟩ := hsp
      exact ⟨σ', H', J'.ofTry ok, q⟩
    | cont =>
      obtain ⟨σ', H', J', q⟩ := hsp
      exact ⟨σ', H', J'.ofTry ok, q⟩
    | ret u =>
      obtain ⟨v, σ', H', J', r, q⟩ := hsp
      exact ⟨v, σ', H', J'.ofTry ok, r, q⟩
end
end L2N
namespace Rd
open PySem PySem.Spec PyProof.Rows L2
section
variable {K : PySem.W.Frag} {σ : L2.St} {H : Hp} {D : Ends}
theorem rd_tryMix {l : List (Value × Option Nat × (Addr → Value → Option Addr → TS))} {tb : WX → TS} {W : WX} (h : tb (wMix K W D l) D σ H) : tTryMix K l tb W D σ H := h
end
section
variable {X : Cx} {CX : CXT} {k : Nat} {C : Addr} {m x : Str} {ps : List Str} {sp : Sp} {E : XK}
/-- a def of the text, called at another around -/
theorem run_fnA {A : Around} {f : Addr} {fd : FuncData} {pins : List (Addr × Obj)} {σ : L2.St} {H : Hp} {s : Shared} {Q : VK} {us : List Value} {vs : List V} (F : FnOk X.prog X.w X.K X.mg X.base CX k f fd ps sp) (hr : Room k A) (e0 : Env0 X.prog X.w X.K X.mg X.base A X.stack s H) (hb : Binds X.K fd ps []) (hx : Passes CX X E)
    (I : Inv X pins σ H s) (r : Vals vs us) (h : sp vs H Q E) : wpAny (model X.prog X.w) A (call (.ref f) us) (EP X pins σ Q) X.xe s := by
  have hl : us.length = ps.length := by rw [← r.length]; exact F.len _ _ _ _ h
  have b := hb s us I.kIn (by rw [List.append_nil]; exact hl)
  rw [List.append_nil] at b
  refine wpAny_call (codeAny_mono (F.run A X.stack s H ⟨us, []⟩ us vs Q E hr e0 b r h) fun r s' hq => ?_)
  cases r with
  | error e => exact hx pins σ H s e s' I hq
  | ok fl =>
    cases fl with
    | ret u => exact I.after hq
    | next => exact False.elim hq
    | brk => exact False.elim hq
    | cont => exact False.elim hq
/-- abs(x) of an own class's object -/
def rAbsO (C : Addr) (sp : Sp) (E : XK) : List V → Hp → VK → Prop := fun xs H Q => ∃ a dx fs, xs = [.ref a] ∧ H a = some (.ins C dx fs) ∧ sp [.ref a] H Q E
theorem call_absO (c : CalM X.prog X.w X.K X.mg X.base CX C "__abs__" k ["self"] sp) (hr : Room (k + 1) X.A) (hx : Passes CX X E) : CallR X (.builtin "abs") (rAbsO C sp E) := by
  intro pins s σ H xs us Q I r h
  obtain ⟨a, dx, fs, rfl, ea, q⟩ := h
  obtain ⟨u, rfl, ru⟩ := r.one
  cases (show u = Value.ref a from ru)
  obtain ⟨cl, f, fd, F, hm, hb⟩ := c
  obtain ⟨mA, O, _, _, _, _⟩ := ins_get I.hok ea
  obtain ⟨od, J, _⟩ := O.look
  refine PySem.Calls.call_function_entry kind_abs plain_abs entry_abs (args_abs _) ?_
  unfold Builtin.«abs»
  refine wpAny_bind (m := oneArg "abs" _) (wpAny_pure ?_)
  refine wpAny_bind (m := callSpecial? (.ref a) (Str.ofString "__abs__")) ?_
  refine spec_yes (g := f) I.kIn J hm.at_ hm.fn (wpAny_mono (run_fnA (us := [.ref a]) (vs := [.ref a]) F (Room.in1 hr) I.env0.in1 hb hx I (.cons rfl .nil) q) (fun r s' z => ?_) fun _ _ z => z)
  exact wpAny_pure ⟨_, rfl, z⟩
end
/-! ### x op n, x of an own class, n an int -/
section
variable {prog : Program} {w : World} {A : Around} {E : Value → Shared → Prop} {s : Shared} {K : PySem.W.Frag} {x C f : Addr} {ox : Obj} {od : Option Obj}
/-- what the operator asks of int -/
structure IntOp (op : Operator) : Prop where
  fills : ∀ (M : Model) (h : Heap), PySem.W.Looks M h (fillsNumberSlot (.type "int") op.info.2) true
  sub : ∀ (M : Model) (h : Heap) (C : Addr), PySem.W.Looks M h (isSubtype (.type "int") (.ref C)) false
  refl : ∃ r, ∀ (M : Model) (h : Heap), PySem.W.Looks M h (typeLookup (.type "int") (dunderR op.info.2)) r
theorem intop_mod : IntOp .Mod where
  fills := fun M h => PySem.W.Looks.of_pure (by kernel_rfl)
  sub := fun M h C => PySem.W.Looks.of_pure (by rfl)
  refl := ⟨some (.builtin "int.__rmod__"), fun M h => PySem.W.Looks.of_pure (by kernel_rfl)⟩
/-- what an operator asks of the own class at its left, beside its own method -/
structure OpC (K : PySem.W.Frag) (C : Addr) (nm : String) : Prop where
  self : PySem.W.selfFirst K C = true
  refl : PySem.W.findIn K (.ref C) (dunderR nm) = some none
def opB (K : PySem.W.Frag) (C : Addr) (nm : String) : Bool := PySem.W.selfFirst K C && decide (PySem.W.findIn K (.ref C) (dunderR nm) = some none)
theorem opB_ok {nm : String} (h : opB K C nm = true) : OpC K C nm := by
  obtain ⟨a, b⟩ := Bool.and_eq_true_iff.mp h
  exact ⟨a, of_decide_eq_true b⟩
theorem numslot_own {M : Model} {h : Heap} {nm : String} (X : K.In h) (hs : PySem.W.findIn K (.ref C) (dunder nm) = some (some (.ref f))) (hr : PySem.W.findIn K (.ref C) (dunderR nm) = some none) : PySem.W.Looks M h (numberSlotInPython (.ref C) nm) true := by
  intro A Q E s k q
  unfold numberSlotInPython
  refine wpAny_bind (PySem.W.looks_findIn X hs _ _ _ _ k (wpAny_bind (wpAny_pure ?_)))
  refine wpAny_bind (PySem.W.looks_findIn X hr _ _ _ _ k (wpAny_bind (wpAny_pure ?_)))
  exact wpAny_pure q
theorem binop_int {op : Operator} {b : Value} {Q : Value → Shared → Prop} (IO : IntOp op) (X : K.In s.heap) (I : PySem.W.InstAt s.heap x ox C od) (hb : PySem.W.Looks (model prog w) s.heap (typeOf b) (.type "int")) (hc : PySem.W.selfFirst K C = true)
    (hs : PySem.W.findIn K (.ref C) (dunder op.info.2) = some (some (.ref f))) (hr : PySem.W.findIn K (.ref C) (dunderR op.info.2) = some none) (hf : PySem.W.isFn K (.ref f) = true)
    (h : wpAny (model prog w) A (call (.ref f) [.ref x, b]) (PySem.W.CmpBack Q) E s) : wpAny (model prog w) A (binaryOp op (.ref x) b) Q E s := by
  obtain ⟨cd, hcd, hm⟩ := PySem.W.any_some hc
  obtain ⟨rest, hm⟩ : ∃ rest, cd.mro = .ref C :: rest := by
    cases q : cd.mro with
    | nil => rw [q] at hm; cases hm
    | cons a r => rw [q] at hm; exact ⟨r, by rw [List.head?_cons] at hm; cases (beq_iff_eq.mp hm); rfl⟩
  obtain ⟨rf, IOr⟩ := IO.refl
  have IOf := IO.fills
  have IOs := IO.sub
  clear IO
  unfold binaryOp
  revert hs hr IOf IOr
  generalize op.info = inf
  obtain ⟨sym, nm⟩ := inf
  intro hs hr IOr IOf
  refine wpAny_holding (wpAny_bind ?_)
  unfold binaryOp1
  refine wpAny_bind (I.type.here (wpAny_bind (hb.here (wpAny_bind ((PySem.W.fills_K X hcd hm hs).here ?_)))))
  have ne : (Value.ref C == Value.type "int") = false := rfl
  simp only [ne, Bool.false_eq_true, if_false]
  refine wpAny_bind ((IOf _ _).here ?_)
  simp only [Bool.and_true, if_true]
  refine wpAny_bind ((IOs _ _ C).here ?_)
  simp only [Bool.false_eq_true, if_false, Bool.not_false, Bool.and_true, if_true]
  refine wpAny_bind ((numslot_own X hs hr).here ?_)
  simp only [if_true]
  refine wpAny_bind (wpAny_pure ?_)
  simp only [Bool.not_false, if_true]
  refine wpAny_bind ((IOr _ _).here ?_)
  refine wpAny_bind (m := tryMethod (.ref x) _ b) ?_
  unfold tryMethod
  refine wpAny_bind (PySem.W.special_fn X I hs (beq_iff_eq.mp hf) (wpAny_mono h (fun v s' hv => ?_) fun _ _ e => e))
  cases v <;> first | exact hv.elim | exact wpAny_pure (wpAny_pure (wpAny_pure hv))
end
section
variable {X : Cx} {CX : CXT} {k : Nat} {C : Addr} {m x : Str} {ps : List Str} {sp : Sp} {E : XK}
def tOpS (r : L2.St → R2) (ta tb : TE) : TE := fun σ H Q => ta σ H fun x H1 => tb σ H1 fun y H2 => r σ x y H2 Q
/-- an operation, at the slots that stand -/
def OpRS (X : Cx) (f : Value → Value → Sem Value) (r : L2.St → R2) : Prop :=
  ∀ (pins : List (Addr × Obj)) (s : Shared) (σ : L2.St) (H : Hp) (x y : V) (v u : Value) (Q : VK), Inv X pins σ H s → RelV x v → RelV y u → r σ x y H Q → wpAny (model X.prog X.w) X.A (f v u) (EP X pins σ Q) X.xe s
theorem pe_opS {op : Operator} {r : L2.St → R2} {a b : Expr} {ta tb : TE} {pos : Pos} (ho : OpRS X (binaryOp op) r) (ha : PE X a ta) (hb : PE X b tb) : PE X (.BinOp a op b pos) (tOpS r ta tb) := by
  refine ⟨fun pins s σ H Q I h => ?_⟩
  exact wpAny_BinOp (binT ha hb I h fun v u s2 x y H2 I2 rx ry q => ho pins s2 σ H2 x y v u Q I2 rx ry q)
/-- x op n: what the own method promises -/
def rOpI (C : Addr) (sp : Sp) (E : L2.St → XK) : L2.St → R2 := fun σ x y H Q => ∃ a dx fs i, x = .ref a ∧ y = .int i ∧ H a = some (.ins C dx fs) ∧ sp [.ref a, .int i] H Q (E σ)
theorem op_ownI {op : Operator} {d : Str} {ps : List Str} {E : L2.St → XK} (IO : IntOp op) (hd : d = dunder op.info.2) (cc : OpC X.K C op.info.2) (c : CalM X.prog X.w X.K X.mg X.base CX C d k ps sp) (hR : Room k X.A) (hx : ∀ σ, PassesAt CX X σ (E σ)) :
    OpRS X (binaryOp op) (rOpI C sp E) := by
  intro pins s σ H x y v u Q I rx ry h
  obtain ⟨a, dx, fs, i, rfl, rfl, ea, q⟩ := h
  cases (show v = Value.ref a from rx)
  obtain ⟨t, rfl⟩ := ry
  obtain ⟨cl, f, fd, F, hm, hb⟩ := c
  obtain ⟨mA, O, _, _, _, _⟩ := ins_get I.hok ea
  obtain ⟨od, J, _⟩ := O.look
  refine binop_int IO I.kIn J (PySem.W.Looks.of_pure rfl) cc.self (by rw [← hd]; exact hm.at_) cc.refl hm.fn ?_
  refine wpAny_mono (run_fnS (us := [.ref a, .int i t]) (vs := [.ref a, .int i]) F hR hb (hx σ) I (.cons rfl (.cons ⟨t, rfl⟩ .nil)) q) (fun w s' z => ?_) fun _ _ x => x
  obtain ⟨z', H', I', rz, qz⟩ := z
  exact SlX.cmpback rz ⟨z', H', I', rz, qz⟩
end
section
variable {K : PySem.W.Frag} {σ : L2.St} {H : Hp} {Q : VK} {ta tb : TE} {r : L2.St → R2}
theorem rd_opS (h : ta σ H fun x H1 => tb σ H1 fun y H2 => r σ x y H2 Q) : tOpS r ta tb σ H Q := h
end
/-! ### C.f, C a class, f a constant -/
structure HasCV (K : PySem.W.Frag) (C : Addr) (f : Str) (v : V) : Prop where
  rd : ClX.CRead K C (.type "type")
  val : ∃ u, ClX.CVal K C (.type "type") f v u
def CValOf (K : PySem.W.Frag) (x : V) (f : Str) (H : Hp) (Q : VK) : Prop := ∃ C mc v u, x = .ref C ∧ ClX.CRead K C mc ∧ ClX.CVal K C mc f v u ∧ Q v H
section
variable {K : PySem.W.Frag} {σ : L2.St} {H : Hp} {Q : VK} {ta : TE} {C : Addr} {f : Str} {v : V}
theorem rd_cval (h : ta σ H fun x H1 => CValOf K x f H1 Q) : ClX.tCVal K ta f σ H Q := h
theorem rd_cvalI (c : HasCV K C f v) (h : Q v H) : CValOf K (.ref C) f H Q := ⟨C, _, v, c.val.choose, rfl, c.rd, c.val.choose_spec, h⟩
theorem cval_int {i : Int} {t : Tok} (h : PySem.W.findIn K (.ref C) f = some (some (.int i t))) (ht : PySem.W.findIn K (.type "type") f = some none) (hh : PySem.Builtin.heldUnderItsOwnName f (.int i t) = false) : ClX.CVal K C (.type "type") f (.int i) (.int i t) := by
  refine ⟨?_, ⟨t, rfl⟩⟩
  unfold PySem.W.findCls
  rw [ht, Option.bind_some, Option.bind_some, Option.bind_some, h, Option.bind_some]
  show (if PySem.Builtin.heldUnderItsOwnName f (.int i t) = true then none else _) = _
  rw [hh, if_neg Bool.false_ne_true]
  rfl
end
end Rd

/-! Fa: slices of any kind, more list methods; families: the births as a list of parents, what stands of them -/
namespace Rd
open PySem PySem.Spec PyProof.Rows L2
def rSlAny (K : PySem.W.Frag) : V → Option Int → Option Int → Hp → VK → Prop := fun x lo hi H Q => rSlS x lo hi H Q ∨ (rSlL K x lo hi H Q ∨ rSlA K x lo hi H Q)
theorem sl_any {X : Cx} : SlR X (rSlAny X.K) := sl_str.or (sl_list.or sl_tupA)
def rInsert : V → List V → Hp → VK → Prop := fun x vs H Q => ∃ (l : Addr) (xs : List V) (i : Int) (y : V), x = .ref l ∧ vs = [.int i, y] ∧ H l = some (.lst xs) ∧ xs.length < sizeLine ∧ 0 ≤ i ∧ i < 2 ^ 63 ∧ Q .non (upd H l (.lst (xs.take i.toNat ++ [y] ++ xs.drop i.toNat)))
theorem mt_insertA {X : Cx} : MtR X "list.insert" rInsert := mt_insert
def rTupOf (K : PySem.W.Frag) : List V → Hp → VK → Prop := fun xs H Q => ∃ p ys, xs = [.ref p] ∧ ((SqL K H p ys ∧ ∀ l, H l = none → Q (.ref l) (upd H l (.tup ys))) ∨ (SqT K H p ys ∧ Q (.ref p) H))
theorem call_tupA {X : Cx} : CallR X (.type "tuple") (rTupOf X.K) := call_tuple_of
section
variable {K : PySem.W.Frag} {σ : L2.St} {H : Hp} {Q : VK} {p : Addr} {xs : List V} {y : V} {lo hi : Option Int}
theorem rd_slAS {z : Str} (l : z.length ≤ sizeLine) (h : Q (.str (cutS z lo hi)) H) : rSlAny K (.str z) lo hi H Q := .inl ⟨z, rfl, l, h⟩
theorem rd_slAL (hp : SqL K H p xs) (h : ∀ r, H r = none → Q (.ref r) (upd H r (.lst (cutV xs lo hi)))) : rSlAny K (.ref p) lo hi H Q := .inr (.inl ⟨p, xs, rfl, hp, h⟩)
theorem rd_rev (hp : H p = some (.lst xs)) (h : Q .non (upd H p (.lst xs.reverse))) : rReverse (.ref p) [] H Q := ⟨p, xs, rfl, rfl, hp, h⟩
theorem rd_clear (hp : H p = some (.lst xs)) (h : Q .non (upd H p (.lst []))) : rClear (.ref p) [] H Q := ⟨p, xs, rfl, rfl, hp, h⟩
theorem rd_insert {i : Int} (hp : H p = some (.lst xs)) (hl : xs.length < sizeLine) (h0 : 0 ≤ i) (h1 : i < 2 ^ 63) (h : Q .non (upd H p (.lst (xs.take i.toNat ++ [y] ++ xs.drop i.toNat)))) : rInsert (.ref p) [.int i, y] H Q := ⟨p, xs, i, y, rfl, rfl, hp, hl, h0, h1, h⟩
theorem rd_tupL (hp : SqL K H p xs) (h : ∀ l, H l = none → Q (.ref l) (upd H l (.tup xs))) : rTupOf K [.ref p] H Q := ⟨p, xs, rfl, .inl ⟨hp, h⟩⟩
theorem cut_from (xs : List V) (n : Nat) (h : n ≤ xs.length) : cutV xs (some (n : Int)) none = xs.drop n := by
  unfold cutV
  have e : HT.sIx xs.length 0 (some (n : Int)) = n := by
    unfold HT.sIx
    simp only []
    rw [if_neg (by omega)]
    omega
  have e2 : HT.sIx xs.length xs.length none = xs.length := rfl
  rw [e, e2, List.take_of_length_le (by rw [List.length_drop]; exact Nat.le_refl _)]
theorem cut_to (xs : List V) (n : Nat) (h : n ≤ xs.length) : cutV xs none (some (n : Int)) = xs.take n := by
  unfold cutV
  have e : HT.sIx xs.length xs.length (some (n : Int)) = n := by
    unfold HT.sIx
    simp only []
    rw [if_neg (by omega)]
    omega
  have e2 : HT.sIx xs.length 0 none = 0 := rfl
  rw [e, e2, List.drop_zero, Nat.sub_zero]
end
end Rd
namespace Fa
/-! ### births as a list of parents: task t is born of par ps t -/
def par (ps : List Nat) (t : Nat) : Nat := ps.getD (t - 1) 0
def OkB (ps : List Nat) : Prop := ∀ (i p : Nat), ps[i]? = some p → p ≤ i
theorem OkB.nil : OkB [] := fun i p h => by simp at h
theorem OkB.snoc {ps : List Nat} {p : Nat} (h : OkB ps) (hp : p ≤ ps.length) : OkB (ps ++ [p]) := fun i q e => by
  by_cases hi : i < ps.length
  · rw [List.getElem?_append_left hi] at e; exact h i q e
  · rw [List.getElem?_append_right (by omega)] at e
    cases hj : i - ps.length with
    | zero => rw [hj] at e; cases e; omega
    | succ j => rw [hj] at e; simp at e
theorem par_at {ps : List Nat} {t : Nat} (h1 : 1 ≤ t) (h2 : t ≤ ps.length) : ps[t - 1]? = some (par ps t) := by
  unfold par
  rw [List.getD_eq_getElem?_getD, List.getElem?_eq_getElem (by omega)]; rfl
theorem par_lt {ps : List Nat} (ok : OkB ps) {t : Nat} (h1 : 1 ≤ t) (h2 : t ≤ ps.length) : par ps t < t := by
  have := ok _ _ (par_at h1 h2)
  omega
theorem par_snoc {ps : List Nat} {p t : Nat} (h1 : 1 ≤ t) (h2 : t ≤ ps.length) : par (ps ++ [p]) t = par ps t := by
  unfold par
  rw [List.getD_eq_getElem?_getD, List.getD_eq_getElem?_getD, List.getElem?_append_left (by omega)]
theorem par_last {ps : List Nat} {p : Nat} : par (ps ++ [p]) (ps.length + 1) = p := by
  unfold par
  simp
/-- t, its parent, .. down to the first task -/
def chain (ps : List Nat) : Nat → Nat → List Nat
  | 0, t => [t]
  | f + 1, t => if t = 0 then [t] else t :: chain ps f (par ps t)
def line (ps : List Nat) (t : Nat) : List Nat := chain ps t t
theorem chain_ok {ps : List Nat} (ok : OkB ps) : ∀ (f g t : Nat), t ≤ ps.length → t ≤ f → t ≤ g → chain ps f t = chain ps g t
  | 0, 0, t, _, _, _ => rfl
  | 0, g + 1, t, _, h, _ => by
    obtain rfl : t = 0 := by omega
    rfl
  | f + 1, 0, t, _, _, h => by
    obtain rfl : t = 0 := by omega
    rfl
  | f + 1, g + 1, t, hl, h1, h2 => by
    unfold chain
    by_cases z : t = 0
    · rw [if_pos z, if_pos z]
    · rw [if_neg z, if_neg z]
      have lt := par_lt ok (by omega : 1 ≤ t) hl
      rw [chain_ok ok f g _ (by omega) (by omega) (by omega)]
theorem line_zero (ps : List Nat) : line ps 0 = [0] := rfl
theorem line_succ {ps : List Nat} (ok : OkB ps) {t : Nat} (h1 : 1 ≤ t) (h2 : t ≤ ps.length) : line ps t = t :: line ps (par ps t) := by
  unfold line
  cases t with
  | zero => omega
  | succ t =>
    have lt := par_lt ok h1 h2
    conv => lhs; unfold chain
    rw [if_neg (by omega), chain_ok ok t _ _ (by omega) (by omega) (Nat.le_refl _)]
theorem line_mem {ps : List Nat} (ok : OkB ps) : ∀ (t : Nat), t ≤ ps.length → ∀ x ∈ line ps t, x ≤ t := by
  intro t
  induction t using Nat.strongRecOn with
  | _ t ih =>
    intro h x hx
    by_cases z : t = 0
    · subst z; rw [line_zero] at hx; simp at hx; omega
    · rw [line_succ ok (by omega) h] at hx
      have lt := par_lt ok (by omega : 1 ≤ t) h
      rcases List.mem_cons.mp hx with e | e
      · omega
      · have := ih _ lt (by omega) x e; omega
theorem line_snoc {ps : List Nat} {p : Nat} (ok : OkB ps) (hp : p ≤ ps.length) : ∀ (t : Nat), t ≤ ps.length → line (ps ++ [p]) t = line ps t := by
  intro t
  induction t using Nat.strongRecOn with
  | _ t ih =>
    intro h
    by_cases z : t = 0
    · subst z; rfl
    · have lt := par_lt ok (by omega : 1 ≤ t) h
      rw [line_succ ok (by omega) h, line_succ (ok.snoc hp) (by omega) (by rw [List.length_append]; omega), par_snoc (by omega) h, ih _ lt (by omega)]
theorem line_len {ps : List Nat} (ok : OkB ps) : ∀ (t : Nat), t ≤ ps.length → 1 ≤ (line ps t).length ∧ (line ps t).length ≤ t + 1 := by
  intro t
  induction t using Nat.strongRecOn with
  | _ t ih =>
    intro h
    by_cases z : t = 0
    · subst z; rw [line_zero]; simp
    · have lt := par_lt ok (by omega : 1 ≤ t) h
      rw [line_succ ok (by omega) h, List.length_cons]
      have := ih _ lt (by omega)
      omega
theorem line_last {ps : List Nat} (ok : OkB ps) : ∀ (t : Nat), t ≤ ps.length → (line ps t).getLast? = some 0 := by
  intro t
  induction t using Nat.strongRecOn with
  | _ t ih =>
    intro h
    by_cases z : t = 0
    · subst z; rfl
    · have lt := par_lt ok (by omega : 1 ≤ t) h
      have l := line_len ok (par ps t) (by omega)
      rw [line_succ ok (by omega) h, List.getLast?_cons, ih _ lt (by omega)]
      rfl
def dep (ps : List Nat) (t : Nat) : Nat := (line ps t).length - 1
theorem dep_succ {ps : List Nat} (ok : OkB ps) {t : Nat} (h1 : 1 ≤ t) (h2 : t ≤ ps.length) : dep ps t = dep ps (par ps t) + 1 := by
  unfold dep
  have := line_len ok (par ps t) (by have := par_lt ok h1 h2; omega)
  rw [line_succ ok h1 h2, List.length_cons]
  omega
theorem dep_snoc {ps : List Nat} {p : Nat} (ok : OkB ps) (hp : p ≤ ps.length) {t : Nat} (h : t ≤ ps.length) : dep (ps ++ [p]) t = dep ps t := by
  unfold dep
  rw [line_snoc ok hp t h]
theorem dep_le {ps : List Nat} (ok : OkB ps) {t : Nat} (h : t ≤ ps.length) : dep ps t ≤ t := by
  have := line_len ok t h
  unfold dep
  omega
/-! the depths, the places, the broods -/
def deps (ps : List Nat) : List Nat := (List.range (ps.length + 1)).map (dep ps)
theorem deps_snoc {ps : List Nat} {p : Nat} (ok : OkB ps) (hp : p ≤ ps.length) : deps (ps ++ [p]) = deps ps ++ [dep ps p + 1] := by
  unfold deps
  rw [List.length_append, List.length_singleton, List.range_succ, List.map_append]
  congr 1
  · refine List.map_congr_left fun t ht => ?_
    rw [List.mem_range] at ht
    exact dep_snoc ok hp (by omega)
  · show [dep (ps ++ [p]) (ps.length + 1)] = _
    rw [dep_succ (ok.snoc hp) (by omega) (by rw [List.length_append]; exact Nat.le_refl _), par_last, dep_snoc ok hp hp]
def place (ps : List Nat) (k : Nat) : Nat := ((ps.take k).filter (fun q => q == ps.getD k 0)).length
def places (ps : List Nat) : List Nat := 0 :: (List.range ps.length).map (place ps)
def brood (ps : List Nat) (t : Nat) : List Nat := ((List.range ps.length).filter (fun k => ps.getD k 0 == t)).map (· + 1)
theorem filter_range_take {ps : List Nat} {q : Nat} : ∀ n, n ≤ ps.length → ((List.range n).filter (fun k => ps.getD k 0 == q)).length = ((ps.take n).filter (fun x => x == q)).length
  | 0, _ => rfl
  | n + 1, h => by
    have e : ps[n]? = some (ps.getD n 0) := by rw [List.getD_eq_getElem?_getD, List.getElem?_eq_getElem (by omega)]; rfl
    rw [List.range_succ, List.filter_append, List.length_append, Rd.take_end e, List.filter_append, List.length_append, filter_range_take n (by omega)]
    congr 1
    by_cases z : (ps.getD n 0 == q) = true
    · rw [List.filter_cons_of_pos (p := fun k => ps.getD k 0 == q) z, List.filter_cons_of_pos (p := fun x => x == q) z]; rfl
    · rw [List.filter_cons_of_neg (p := fun k => ps.getD k 0 == q) z, List.filter_cons_of_neg (p := fun x => x == q) z]; rfl
theorem brood_len (ps : List Nat) (q : Nat) : (brood ps q).length = (ps.filter (fun x => x == q)).length := by
  unfold brood
  rw [List.length_map, filter_range_take _ (Nat.le_refl _), List.take_length]
theorem getD_snoc {ps : List Nat} {p k : Nat} (h : k < ps.length) : (ps ++ [p]).getD k 0 = ps.getD k 0 := by
  rw [List.getD_eq_getElem?_getD, List.getD_eq_getElem?_getD, List.getElem?_append_left h]
theorem getD_end {ps : List Nat} {p : Nat} : (ps ++ [p]).getD ps.length 0 = p := by simp
theorem places_snoc {ps : List Nat} {p : Nat} : places (ps ++ [p]) = places ps ++ [(brood ps p).length] := by
  unfold places
  rw [List.length_append, List.length_singleton, List.range_succ, List.map_append, List.cons_append]
  congr 2
  · refine List.map_congr_left fun k hk => ?_
    rw [List.mem_range] at hk
    unfold place
    rw [getD_snoc hk, List.take_append_of_le_length (by omega)]
  · show [place (ps ++ [p]) ps.length] = _
    unfold place
    rw [getD_end, List.take_append_of_le_length (Nat.le_refl _), List.take_length, brood_len]
theorem brood_snoc (ps : List Nat) (p t : Nat) : brood (ps ++ [p]) t = if t = p then brood ps t ++ [ps.length + 1] else brood ps t := by
  unfold brood
  rw [List.length_append, List.length_singleton, List.range_succ, List.filter_append, List.map_append]
  have e : (List.range ps.length).filter (fun k => (ps ++ [p]).getD k 0 == t) = (List.range ps.length).filter (fun k => ps.getD k 0 == t) := by
    refine List.filter_congr fun k hk => ?_
    rw [List.mem_range] at hk
    rw [getD_snoc hk]
  rw [e]
  by_cases z : t = p
  · rw [if_pos z, List.filter_cons_of_pos (by rw [getD_end]; simp [z])]
    rfl
  · rw [if_neg z, List.filter_cons_of_neg (by rw [getD_end]; simpa using fun c => z c.symm)]
    simp
theorem brood_mem {ps : List Nat} {t x : Nat} : x ∈ brood ps t → 1 ≤ x ∧ x ≤ ps.length ∧ par ps x = t := by
  unfold brood par
  intro h
  obtain ⟨k, hk, rfl⟩ := List.mem_map.mp h
  obtain ⟨h1, h2⟩ := List.mem_filter.mp hk
  rw [List.mem_range] at h1
  exact ⟨by omega, by omega, by simpa using h2⟩
theorem brood_new {ps : List Nat} (ok : OkB ps) : brood ps (ps.length + 1) = [] := by
  unfold brood
  rw [List.map_eq_nil_iff, List.filter_eq_nil_iff]
  intro k hk
  rw [List.mem_range] at hk
  have := ok k (ps.getD k 0) (by rw [List.getD_eq_getElem?_getD, List.getElem?_eq_getElem hk]; rfl)
  simp only [beq_iff_eq]
  omega
/-! one step up -/
def up (ps : List Nat) (t : Nat) : Option Nat := if t = 0 then none else some (par ps t)
def upLine (ps : List Nat) : Option Nat → List Nat
  | none => []
  | some a => line ps a
theorem line_up {ps : List Nat} (ok : OkB ps) {t : Nat} (h : t ≤ ps.length) : line ps t = t :: upLine ps (up ps t) := by
  unfold up
  by_cases z : t = 0
  · subst z; rfl
  · rw [if_neg z, line_succ ok (by omega) h]; rfl
def ov : Option Nat → L2.V
  | none => .non
  | some a => .int (a : Int)
theorem up_at {ps : List Nat} {t : Nat} (h : t ≤ ps.length) : (L2.V.non :: ps.map Rd.iv)[t]? = some (ov (up ps t)) := by
  unfold up
  cases t with
  | zero => rfl
  | succ t =>
    rw [if_neg (by omega), List.getElem?_cons_succ]
    exact Rd.map_at (par_at (by omega) h)
theorem up_lt {ps : List Nat} (ok : OkB ps) {t a : Nat} (h : t ≤ ps.length) (e : up ps t = some a) : a < t := by
  unfold up at e
  split at e
  · cases e
  · rename_i z
    cases e
    exact par_lt ok (by omega) h
def pathUp (ps : List Nat) (l : List Nat) : List Nat := (l.filter (fun o => decide (0 < o))).map (fun o => place ps (o - 1))
def pathOf (ps : List Nat) (t : Nat) : List Nat := (pathUp ps (line ps t)).reverse
theorem pathUp_le (ps : List Nat) (l : List Nat) : (pathUp ps l).length ≤ l.length := by
  unfold pathUp
  rw [List.length_map]
  exact List.length_filter_le _ _
theorem places_at {ps : List Nat} {t : Nat} (h1 : 1 ≤ t) (h : t ≤ ps.length) : (places ps)[t]? = some (place ps (t - 1)) := by
  unfold places
  cases t with
  | zero => omega
  | succ t =>
    rw [List.getElem?_cons_succ, List.getElem?_map, List.getElem?_range (by omega)]
    rfl
def height (ps : List Nat) : Nat := (deps ps).foldl (fun h d => if d > h then d else h) 0
theorem foldl_take {α β : Type} {f : α → β → α} {a : α} {l : List β} {i : Nat} {x : β} (h : l[i]? = some x) : (l.take (i + 1)).foldl f a = f ((l.take i).foldl f a) x := by
  rw [Rd.take_end h, List.foldl_append]
  rfl
end Fa
namespace Rd
open PySem PySem.Spec PyProof.Rows L2
section
variable {K : PySem.W.Frag} {σ : L2.St} {H : Hp} {Q : VK} {j : Nat} {tt : TT} {te : TE}
/-- a comprehension over the images of a list -/
theorem lcG {α : Type} {g : α → V} {ys : List α} {a : Addr} (hx : SqL K H a (ys.map g)) (p : α → Bool) (f : α → V) (hz : ys.length ≤ 1000000)
    (ht : ∀ (i : Nat) (y : α) (Dd : Addr) (acc : List V), ys[i]? = some y → H Dd = none → ∀ R : Bool → Hp → Prop, R (p y) (upd H Dd (.lst acc)) → tt ((wipe σ [j]).set j (some (g y))) (upd H Dd (.lst acc)) R)
    (he : ∀ (i : Nat) (y : α) (Dd : Addr) (acc : List V), ys[i]? = some y → p y = true → H Dd = none → ∀ R : VK, R (f y) (upd H Dd (.lst acc)) → te ((wipe σ [j]).set j (some (g y))) (upd H Dd (.lst acc)) R)
    (q : ∀ Dd, H Dd = none → Q (.ref Dd) (upd H Dd (.lst ((ys.filter p).map f)))) : LcA K (.ref a) (gName j) tt te [j] σ H Q := by
  refine lcL hx fun Dd hD => ⟨fun i H' => H' = upd H Dd (.lst (((ys.take i).filter p).map f)), by simp, fun i H' _ e => by rw [e]; exact (same_new hD).seq hx, fun i x H' hi e => ?_, fun H' e => by rw [e, List.length_map, List.take_length]; exact q Dd hD⟩
  obtain ⟨y, hy, rfl⟩ := at_map hi
  refine ⟨wipe1 σ j _, ?_⟩
  subst e
  refine ht i y Dd _ hy hD _ ?_
  have hl := take_end hy
  cases hp : p y with
  | true =>
    refine rd_ite1 (he i y Dd _ hy hp hD _ ⟨_, upd_same, ?_, ?_⟩)
    · refine size_lt ?_
      have h1 := List.length_filter_le p (ys.take i)
      have h2 := List.length_take_le' i ys
      rw [List.length_map]; omega
    · show upd _ _ _ = _
      rw [upd_upd, hl, List.filter_append, List.map_append, List.filter_cons, if_pos hp]
      rfl
  | false =>
    refine rd_ite0 ?_
    show upd _ _ _ = _
    rw [hl, List.filter_append, List.map_append, List.filter_cons, if_neg (by rw [hp]; decide)]
    simp
end
end Rd
namespace Rd
open PySem PySem.Spec PyProof.Rows L2 Fa
/-! ### a family's object: its lists all at addresses of their own -/
def famF (t p pl d b : Addr) : List (Str × V) := [("_tasks", .ref t), ("_parents", .ref p), ("_places", .ref pl), ("_depths", .ref d), ("_broods", .ref b)]
structure FamW (C : Addr) (H : Hp) (fa dx t p pl d b : Addr) (bs : List Addr) (ps : List Nat) : Prop where
  obj : H fa = some (.ins C dx (famF t p pl d b))
  nd : (t :: p :: pl :: d :: b :: bs).Nodup
  lb : bs.length = ps.length + 1
  ok : OkB ps
  ht : H t = some (.lst ((List.range (ps.length + 1)).map iv))
  hp : H p = some (.lst (.non :: ps.map iv))
  hpl : H pl = some (.lst ((places ps).map iv))
  hd : H d = some (.lst ((deps ps).map iv))
  hb : H b = some (.lst (bs.map V.ref))
  hbs : ∀ (i : Nat) a, bs[i]? = some a → H a = some (.lst ((brood ps i).map iv))
def Fam (C : Addr) (H : Hp) (fa : Addr) (ps : List Nat) (A : List Addr) : Prop := ∃ dx t p pl d b bs, FamW C H fa dx t p pl d b bs ps ∧ A = t :: p :: pl :: d :: b :: bs
section
variable {C : Addr} {H H' : Hp} {fa : Addr} {ps : List Nat} {A l : List Addr}
theorem FamW.lists {dx t p pl d b : Addr} {bs : List Addr} (F : FamW C H fa dx t p pl d b bs ps) : Lsts H (t :: p :: pl :: d :: b :: bs) := by
  refine .cons F.ht (.cons F.hp (.cons F.hpl (.cons F.hd (.cons F.hb fun x hx => ?_))))
  obtain ⟨i, hi, rfl⟩ := List.getElem_of_mem hx
  exact ⟨_, F.hbs i _ (List.getElem?_eq_getElem hi)⟩
theorem Fam.lists (F : Fam C H fa ps A) : Lsts H A := by
  obtain ⟨dx, t, p, pl, d, b, bs, W, rfl⟩ := F
  exact W.lists
theorem Fam.ok (F : Fam C H fa ps A) : OkB ps := by
  obtain ⟨dx, t, p, pl, d, b, bs, W, rfl⟩ := F
  exact W.ok
theorem Fam.obj (F : Fam C H fa ps A) : ∃ dx t p pl d b, H fa = some (.ins C dx (famF t p pl d b)) := by
  obtain ⟨dx, t, p, pl, d, b, bs, W, rfl⟩ := F
  exact ⟨dx, t, p, pl, d, b, W.obj⟩
theorem Fam.keep (F : Fam C H fa ps A) (B : But l H H') (n : fa ∉ l) (nA : ∀ x ∈ A, x ∉ l) : Fam C H' fa ps A := by
  obtain ⟨dx, t, p, pl, d, b, bs, W, rfl⟩ := F
  refine ⟨dx, t, p, pl, d, b, bs, ⟨B _ _ n W.obj, W.nd, W.lb, W.ok, B _ _ (nA _ (by simp)) W.ht, B _ _ (nA _ (by simp)) W.hp, B _ _ (nA _ (by simp)) W.hpl, B _ _ (nA _ (by simp)) W.hd, B _ _ (nA _ (by simp)) W.hb, fun i a e => B _ _ (nA _ ?_) (W.hbs i a e)⟩, rfl⟩
  have := List.mem_of_getElem? e
  simp [this]
theorem Fam.same (F : Fam C H fa ps A) (s : Same H H') : Fam C H' fa ps A := F.keep (l := []) (But.of s) (by simp) (by simp)
theorem Fam.al (F : Fam C H fa ps A) : ∀ x ∈ A, H x ≠ none := fun x hx => by
  obtain ⟨ys, e⟩ := F.lists x hx
  rw [e]; simp
end
end Rd

/-! Sp: the layer's eighth part: what is never reached, static methods, comparisons by own methods -/
namespace Rd
open PySem PySem.Spec PyProof.Rows L2
/-! ### what is never reached wants no rule -/
def tNever : TE := fun _ _ _ => False
theorem pe_never {X : Cx} {e : Expr} : PE X e tNever := ⟨fun _ _ _ _ _ _ h => h.elim⟩
def tNeverS : TS := fun _ _ _ => False
theorem ps_never {X : Cx} {s : Stmt} : PS X s tNeverS := ⟨fun _ _ _ _ _ _ h => h.elim⟩
/-! ### C.m(..), m a static method -/
structure CalS (P : Program) (w : World) (K : PySem.W.Frag) (mg : Str → Option Value) (base : Heap) (CX : CXT) (C : Addr) (m : Str) (k : Nat) (ps : List Str) (sp : Sp) : Prop where
  rd : ClX.CRead K C (.type "type")
  ex : ∃ (p f : Addr) (fd : FuncData) (rest : List Value), FnOk P w K mg base CX k f fd ps sp ∧ PySem.W.findCls K (.ref C) (.type "type") m = some (.get (.builtin "staticmethod.__get__") (.ref p) .none (.ref C)) ∧ PySem.W.recIn K p "staticmethod" = some (.ref f :: rest) ∧ PySem.W.keepIn K (.ref f) = true ∧ Binds K fd ps []
theorem stat_find {K : PySem.W.Frag} {C p : Addr} {m : Str} (h : PySem.W.findIn K (.ref C) m = some (some (.ref p))) (hm : PySem.W.findIn K (.type "type") m = some none) (ht : PySem.W.typeIn K (.ref p) = some (.type "staticmethod"))
    (hg : PySem.W.specialIn K (.ref p) "__get__" = some (some (.builtin "staticmethod.__get__"))) : PySem.W.findCls K (.ref C) (.type "type") m = some (.get (.builtin "staticmethod.__get__") (.ref p) .none (.ref C)) := by
  unfold PySem.W.findCls
  rw [hm, Option.bind_some, Option.bind_some, Option.bind_some, h, Option.bind_some]
  show (if PySem.Builtin.heldUnderItsOwnName m (.ref p) = true then none else _) = _
  rw [if_neg (show ¬ PySem.Builtin.heldUnderItsOwnName m (.ref p) = true from Bool.false_ne_true), ht, Option.bind_some, hg]
  rw [if_neg (show ¬ (PySem.W.bareKinds.contains (.type "staticmethod") = true) from by decide +kernel)]
  rfl
def IsC (x : V) (C : Addr) (R : Prop) : Prop := x = .ref C ∧ R
def tStat (C : Addr) (sp : Sp) (E : L2.St → XK) (ta : TE) (t : TA) : TE := fun σ H Q => ta σ H fun x H1 => IsC x C (t σ H1 fun vs H2 => sp vs H2 Q (E σ))
section
variable {X : Cx} {CX : CXT} {k : Nat} {C : Addr} {m : Str} {ps : List Str} {sp : Sp} {E : L2.St → XK} {o e : Expr} {es : List Expr} {ta : TE} {t : TA} {apos pos : Pos} {pl : Sem Bool}
theorem pe_calSt (c : CalS X.prog X.w X.K X.mg X.base CX C m k ps sp) (he : PE X o ta) (hr : Room k X.A) (hx : ∀ σ, PassesAt CX X σ (E σ)) (ha : PA X (e :: es) t)
    (hst : starEach (e :: es) X.env = (false, eval e X.env) :: starEach es X.env := by rfl) (hpl : (backTo pos (starEach es X.env)).any (·.1) = false := by rfl)
    (ht : eval (.Call (.Attribute o m apos) (e :: es) [] pos) X.env = (do let ov ← eval o X.env; standAt apos.atName; let (f, first) ← holding [ov] (getMethod ov m pl); callWith pos f first (backTo pos (starEach (e :: es) X.env)) (backToKw pos (keywordEach [] X.env))) := by rfl) :
    PE X (.Call (.Attribute o m apos) (e :: es) [] pos) (tStat C sp E ta t) := by
  obtain ⟨rd, p, f, fd, rest, F, hf, hp, hk, hb⟩ := c
  refine ⟨fun pins s σ H Q I h => PySem.W.methodCall_KW (pl := pl) (thn (he.run pins s σ H _ I h) ?_) ht⟩
  rintro u s1 ⟨x, H1, I1, rx, rfl, q⟩
  cases rx
  refine PySem.W.method_cls I1.kIn rd.ga (PySem.W.cls_bind I1.kIn rd.rd hf (wpAny_call (PySem.W.sm_get (s := { s1 with toks := s1.toks + 1 }) I1.kIn hp (PySem.W.handed_on rfl ?_))))
  have I2 : Inv X pins σ H1 { s1 with toks := s1.toks + 1 } := I1.tok _
  refine PySem.W.callWith_K (first := []) (h₀ := X.base) I2.ok.mod.kin hk (thn (ha.run pos pins _ σ H1 _ I2 q) ?_) hst hpl
  rintro us s2 ⟨vs, H2, I3, r, q2⟩
  exact ⟨I3.kIn, run_fnS F hr hb (hx σ) I3 r q2⟩
end
/-! ### x op y by an own method, both of the class -/
def rCmpO (C : Addr) (sp : Sp) (E : XK) : R2 := fun x y H Q => ∃ a dx fs b dy gs, x = .ref a ∧ y = .ref b ∧ H a = some (.ins C dx fs) ∧ H b = some (.ins C dy gs) ∧ sp [.ref a, .ref b] H Q E
theorem op_ownCmp {X : Cx} {CX : CXT} {k : Nat} {C : Addr} {d : Str} {ps : List Str} {sp : Sp} {E : XK} {op : CmpOp} (hop : ∀ a b, compareOp op a b = richCompare op a b) (hd : d = (cmpInfo op).2.1) (c : CalM X.prog X.w X.K X.mg X.base CX C d k ps sp) (hr : Room k X.A) (hx : Passes CX X E) :
    OpR X (compareOp op) (rCmpO C sp E) := by
  intro pins s σ H x y v u Q I rx ry h
  obtain ⟨a, dx, fs, b, dy, gs, rfl, rfl, ea, eb, q⟩ := h
  cases (show v = Value.ref a from rx)
  cases (show u = Value.ref b from ry)
  obtain ⟨cl, f, fd, F, hm, hb⟩ := c
  obtain ⟨mA, O, _, _, _, _⟩ := ins_get I.hok ea
  obtain ⟨od, J, _⟩ := O.look
  obtain ⟨mB, O', _, _, _, _⟩ := ins_get I.hok eb
  obtain ⟨od', J', _⟩ := O'.look
  obtain ⟨m, hF⟩ := I.fr
  rw [hop]
  refine PySem.W.cmp_K (op := op) (tb := .ref C) hr.units0 hF I.ok.mod.kin J J'.type (by unfold PySem.W.notFirst; simp) (by rw [← hd]; exact hm.at_) hm.fn ?_
  refine wpAny_mono (run_fnS (E := fun _ => E) (us := [.ref a, .ref b]) (vs := [.ref a, .ref b]) F hr hb (fun pins => hx pins σ) I (.cons rfl (.cons rfl .nil)) q) (fun w s' z => ?_) fun _ _ x => x
  obtain ⟨z', H', I', rz, qz⟩ := z
  exact SlX.cmpback rz ⟨z', H', I', rz, qz⟩
section
variable {K : PySem.W.Frag} {σ : L2.St} {H : Hp} {Q : VK} {D : Ends} {ta te : TE} {t : TA} {C : Addr} {sp : Sp} {E : L2.St → XK} {R : Prop}
theorem rd_stat (h : ta σ H fun x H1 => IsC x C (t σ H1 fun vs H2 => sp vs H2 Q (E σ))) : tStat C sp E ta t σ H Q := h
theorem rd_isC (h : R) : IsC (.ref C) C R := ⟨rfl, h⟩
theorem rd_asg2 {g1 g2 : TG} (h : te σ H fun x H1 => g1 x σ H1 fun σ1 H2 => g2 x σ1 H2 D.nx) : tAsg2 te g1 g2 D σ H := h
theorem flat_in {t : Int} {ys : List Int} {j : Nat} (h : ys[j]? = some t) (hno : ∀ m, m < j → ys[m]? ≠ some t) {a : Addr} (hp : SqL K H a (ys.map V.int)) (q : Q (.int (j : Nat)) H) : rIndex K (.ref a) [.int t] H Q := by
  refine ⟨a, _, .int t, j, .int t, rfl, rfl, hp, rfl, flat_int _, map_at h, by simp [eqV], fun m z hm e => ?_, q⟩
  obtain ⟨y, hy, rfl⟩ := at_map e
  have : y ≠ t := fun c => hno m hm (by rw [hy, c])
  simp [eqV, this]
theorem dp_tup3 {a : Addr} {x y z : Int} (h : SqT K H a [.int x, .int y, .int z]) : Dp K H (.ref a) (.tuple [.int x, .int y, .int z]) := .tup h (.cons (.int _) (.cons (.int _) (.cons (.int _) .nil)))
end
end Rd
namespace Rd
open PySem PySem.Spec PyProof.Rows L2
section
variable {K : PySem.W.Frag} {σ : L2.St} {H : Hp} {Q : VK} {j : Nat} {tt : TT} {te : TE}
/-- a comprehension over the images of a list; tests and elements may leave new things behind -/
theorem lcGs {α : Type} {g : α → V} {ys : List α} {a : Addr} (hx : SqL K H a (ys.map g)) (p : α → Bool) (f : α → V) (hz : ys.length ≤ 1000000)
    (ht : ∀ (i : Nat) (y : α) (H1 : Hp), ys[i]? = some y → Same H H1 → ∀ R : Bool → Hp → Prop, (∀ H2, Same H1 H2 → R (p y) H2) → tt ((wipe σ [j]).set j (some (g y))) H1 R)
    (he : ∀ (i : Nat) (y : α) (H1 : Hp), ys[i]? = some y → p y = true → Same H H1 → ∀ R : VK, (∀ H2, Same H1 H2 → R (f y) H2) → te ((wipe σ [j]).set j (some (g y))) H1 R)
    (q : ∀ (Dd : Addr) (H' : Hp), H Dd = none → Same H H' → H' Dd = some (.lst ((ys.filter p).map f)) → Q (.ref Dd) H') : LcA K (.ref a) (gName j) tt te [j] σ H Q := by
  refine lcL hx fun Dd hD => ⟨fun i H' => H' Dd = some (.lst (((ys.take i).filter p).map f)) ∧ Same H H', ⟨upd_same, same_new hD⟩, fun i H' _ h => h.2.seq hx, ?_, fun H' h => q Dd H' hD h.2 (by have := h.1; rwa [List.length_map, List.take_length] at this)⟩
  rintro i x H1 hi ⟨hd, s⟩
  obtain ⟨y, hy, rfl⟩ := at_map hi
  refine ⟨wipe1 _ _ _, ht i y H1 hy s _ fun H2 s2 => ?_⟩
  have len : ((ys.take i).filter p).length ≤ 1000000 := Nat.le_trans (List.length_filter_le _ _) (Nat.le_trans (List.length_take_le' _ _) hz)
  cases hp : p y with
  | true =>
    refine rd_ite1 (he i y H2 hy hp (s.trans s2) _ fun H3 s3 => ⟨_, s3 _ _ (s2 _ _ hd), size_lt (by rw [List.length_map]; omega), ?_, same_mut ((s.trans s2).trans s3) hD⟩)
    rw [take_end hy, List.filter_append, List.map_append, List.filter_cons_of_pos hp]
    exact upd_same
  | false =>
    refine rd_ite0 ⟨?_, s.trans s2⟩
    rw [take_end hy, List.filter_append, List.filter_cons_of_neg (by rw [hp]; decide), List.filter_nil, List.append_nil]
    exact s2 _ _ hd
end
end Rd

/-! Kn: kinship in a family, in plain lists -/
namespace Fa
theorem dep_zero (ps : List Nat) : dep ps 0 = 0 := rfl
theorem line_ne {ps : List Nat} (t : Nat) : line ps t ≠ [] := by
  unfold line chain
  split
  · simp
  · split <;> simp
theorem line_head {ps : List Nat} (ok : OkB ps) {t : Nat} (h : t ≤ ps.length) : (line ps t).head? = some t := by
  rw [line_up ok h]; rfl
theorem line_self {ps : List Nat} (ok : OkB ps) {t : Nat} (h : t ≤ ps.length) : t ∈ line ps t := by
  rw [line_up ok h]; simp
theorem line_inj {ps : List Nat} (ok : OkB ps) {a b : Nat} (ha : a ≤ ps.length) (hb : b ≤ ps.length) (e : line ps a = line ps b) : a = b := by
  have := line_head ok ha
  rw [e, line_head ok hb] at this
  exact (Option.some.inj this).symm
/-- what stands in a line goes down -/
theorem line_pw {ps : List Nat} (ok : OkB ps) : ∀ (t : Nat), t ≤ ps.length → (line ps t).Pairwise (fun x y => y < x) := by
  intro t
  induction t using Nat.strongRecOn with
  | _ t ih =>
    intro h
    by_cases z : t = 0
    · subst z; rw [line_zero]; simp
    · have lt := par_lt ok (by omega : 1 ≤ t) h
      rw [line_succ ok (by omega) h]
      refine List.pairwise_cons.mpr ⟨fun x hx => ?_, ih _ lt (by omega)⟩
      have := line_mem ok _ (by omega) x hx
      omega
theorem line_split {ps : List Nat} (ok : OkB ps) : ∀ (t : Nat), t ≤ ps.length → ∀ x ∈ line ps t, ∃ pre, line ps t = pre ++ line ps x := by
  intro t
  induction t using Nat.strongRecOn with
  | _ t ih =>
    intro h x hx
    by_cases z : t = 0
    · subst z; rw [line_zero] at hx; simp at hx; subst hx; exact ⟨[], rfl⟩
    · have lt := par_lt ok (by omega : 1 ≤ t) h
      rw [line_succ ok (by omega) h] at hx ⊢
      rcases List.mem_cons.mp hx with e | e
      · subst e; exact ⟨[], by rw [List.nil_append, line_succ ok (by omega) h]⟩
      · obtain ⟨pre, hp⟩ := ih _ lt (by omega) x e
        exact ⟨t :: pre, by rw [hp]; rfl⟩
theorem line_in {ps : List Nat} (ok : OkB ps) {t x : Nat} (h : t ≤ ps.length) (hx : x ∈ line ps t) : x ≤ ps.length := Nat.le_trans (line_mem ok t h x hx) h
/-- behind a place of a line stands that task's line -/
theorem line_drop {ps : List Nat} (ok : OkB ps) {t i x : Nat} (h : t ≤ ps.length) (e : (line ps t)[i]? = some x) : (line ps t).drop i = line ps x := by
  have hx := List.mem_of_getElem? e
  obtain ⟨pre, hp⟩ := line_split ok t h x hx
  have hpre : pre.length = i := by
    have nd := (line_pw ok t h)
    have nd : (line ps t).Nodup := nd.imp fun q => by omega
    have e2 : (line ps t)[pre.length]? = some x := by
      rw [hp, List.getElem?_append_right (Nat.le_refl _), Nat.sub_self, ← List.head?_eq_getElem?, line_head ok (line_in ok h hx)] 
    exact (List.getElem?_inj (List.getElem?_eq_some_iff.mp e2).1 nd).mp (by rw [e, e2])
  rw [hp, ← hpre, List.drop_left]
theorem dep_in {ps : List Nat} (ok : OkB ps) : ∀ (t : Nat), t ≤ ps.length → ∀ x ∈ line ps t, dep ps x ≤ dep ps t ∧ (dep ps x = dep ps t → x = t) := by
  intro t
  induction t using Nat.strongRecOn with
  | _ t ih =>
    intro h x hx
    by_cases z : t = 0
    · subst z; rw [line_zero] at hx; simp at hx; subst hx; exact ⟨Nat.le_refl _, fun _ => rfl⟩
    · have lt := par_lt ok (by omega : 1 ≤ t) h
      have ds := dep_succ ok (by omega : 1 ≤ t) h
      rw [line_succ ok (by omega) h] at hx
      rcases List.mem_cons.mp hx with e | e
      · subst e; exact ⟨Nat.le_refl _, fun _ => rfl⟩
      · have := ih _ lt (by omega) x e
        exact ⟨by omega, fun q => by omega⟩
theorem dep_pos {ps : List Nat} (ok : OkB ps) {t : Nat} (h : t ≤ ps.length) (h1 : 1 ≤ t) : 1 ≤ dep ps t := by
  rw [dep_succ ok h1 h]; omega
structure Climb (ps : List Nat) (a b l r : Nat) (pa pb : List Nat) : Prop where
  la : line ps a = pa ++ line ps l
  lb : line ps b = pb ++ line ps r
  na : ∀ x ∈ pa, x ∉ line ps b
  nb : ∀ x ∈ pb, x ∉ line ps a
  hl : l ≤ ps.length
  hr : r ≤ ps.length
section
variable {ps : List Nat} {a b l r c : Nat} {pa pb : List Nat}
theorem Climb.start (ha : a ≤ ps.length) (hb : b ≤ ps.length) : Climb ps a b a b [] [] := ⟨rfl, rfl, by simp, by simp, ha, hb⟩
theorem Climb.symm (C : Climb ps a b l r pa pb) : Climb ps b a r l pb pa := ⟨C.lb, C.la, C.nb, C.na, C.hr, C.hl⟩
theorem Climb.stepL (ok : OkB ps) (C : Climb ps a b l r pa pb) (ne : l ≠ r) (hd : dep ps r ≤ dep ps l) : 1 ≤ l ∧ Climb ps a b (par ps l) r (pa ++ [l]) pb := by
  have l1 : 1 ≤ l := by
    rcases Nat.eq_zero_or_pos l with e | e
    · subst e
      rw [dep_zero] at hd
      rcases Nat.eq_zero_or_pos r with f | f
      · omega
      · have := dep_pos ok C.hr f; omega
    · exact e
  have lt := par_lt ok l1 C.hl
  refine ⟨l1, ⟨by rw [C.la, line_succ ok l1 C.hl, List.append_assoc]; rfl, C.lb, fun x hx => ?_, C.nb, by have := C.hl; omega, C.hr⟩⟩
  rcases List.mem_append.mp hx with h | h
  · exact C.na x h
  · rw [List.mem_singleton.mp h]
    intro m
    rw [C.lb] at m
    rcases List.mem_append.mp m with m | m
    · exact C.nb l m (by rw [C.la]; exact List.mem_append_right _ (line_self ok C.hl))
    · have := dep_in ok r C.hr l m
      exact ne (this.2 (by omega))
theorem Climb.stepR (ok : OkB ps) (C : Climb ps a b l r pa pb) (ne : l ≠ r) (hd : dep ps l ≤ dep ps r) : 1 ≤ r ∧ Climb ps a b l (par ps r) pa (pb ++ [r]) :=
  have h := C.symm.stepL ok (Ne.symm ne) hd
  ⟨h.1, h.2.symm⟩
/-- the side: which of the two last before the meeting task is elder -/
def sideW (pa pb : List Nat) : Nat := if pa = [] ∨ pb = [] then 0 else if pb.getLastD 0 < pa.getLastD 0 then 1 else 2
/-- u up, d down, on that side -/
def IsKin (ps : List Nat) (a b u d w : Nat) : Prop := ∃ c pa pb, Climb ps a b c c pa pb ∧ u = pa.length ∧ d = pb.length ∧ w = sideW pa pb
theorem Climb.one (C : Climb ps a b c c pa pb) (ok : OkB ps) {c' : Nat} {pa' pb' : List Nat} (C' : Climb ps a b c' c' pa' pb') : pa = pa' ∧ pb = pb' := by
  have key : ∀ {a b c c' : Nat} {pa pb pa' pb' : List Nat}, Climb ps a b c c pa pb → Climb ps a b c' c' pa' pb' → ¬ pa.length < pa'.length := by
    intro a b c c' pa pb pa' pb' C C' lt
    have e : pa'[pa.length]? = some c := by
      have e1 : (line ps a)[pa.length]? = some c := by rw [C.la, List.getElem?_append_right (Nat.le_refl _), Nat.sub_self, ← List.head?_eq_getElem?, line_head ok C.hl]
      rw [C'.la, List.getElem?_append_left lt] at e1
      exact e1
    exact C'.na c (List.mem_of_getElem? e) (by rw [C.lb]; exact List.mem_append_right _ (line_self ok C.hr))
  have la : pa.length = pa'.length := by have := key C C'; have := key C' C; omega
  have lb : pb.length = pb'.length := by have := key C.symm C'.symm; have := key C'.symm C.symm; omega
  have ea : pa ++ line ps c = pa' ++ line ps c' := by rw [← C.la, ← C'.la]
  have eb : pb ++ line ps c = pb' ++ line ps c' := by rw [← C.lb, ← C'.lb]
  exact ⟨(List.append_inj ea la).1, (List.append_inj eb lb).1⟩
theorem IsKin.one {u d w u' d' w' : Nat} (ok : OkB ps) (h : IsKin ps a b u d w) (h' : IsKin ps a b u' d' w') : u = u' ∧ d = d' ∧ w = w' := by
  obtain ⟨c, pa, pb, C, rfl, rfl, rfl⟩ := h
  obtain ⟨c', pa', pb', C', rfl, rfl, rfl⟩ := h'
  obtain ⟨rfl, rfl⟩ := C.one ok C'
  exact ⟨rfl, rfl, rfl⟩
def oppW (w : Nat) : Nat := if w = 0 then 0 else if w = 1 then 2 else 1
theorem last_mem {l : List Nat} (h : l ≠ []) : l.getLastD 0 ∈ l := by
  obtain ⟨pre, x, rfl⟩ : ∃ pre x, l = pre ++ [x] := ⟨l.dropLast, l.getLast h, (List.dropLast_concat_getLast h).symm⟩
  simp
theorem IsKin.symm {u d w : Nat} (h : IsKin ps a b u d w) : IsKin ps b a d u (oppW w) := by
  obtain ⟨c, pa, pb, C, rfl, rfl, rfl⟩ := h
  refine ⟨c, pb, pa, C.symm, rfl, rfl, ?_⟩
  unfold sideW oppW
  by_cases e1 : pa = []
  · simp [e1]
  by_cases e2 : pb = []
  · simp [e2]
  have n1 : ¬ (pa = [] ∨ pb = []) := fun z => z.elim e1 e2
  have n2 : ¬ (pb = [] ∨ pa = []) := fun z => z.elim e2 e1
  have ne : pa.getLastD 0 ≠ pb.getLastD 0 := fun e => C.na _ (last_mem e1) (by rw [C.lb, e]; exact List.mem_append_left _ (last_mem e2))
  rw [if_neg n1, if_neg n2]
  by_cases lt : pb.getLastD 0 < pa.getLastD 0
  · have nlt : ¬ pa.getLastD 0 < pb.getLastD 0 := by omega
    simp only [if_pos lt, if_neg nlt]
    rfl
  · have lt2 : pa.getLastD 0 < pb.getLastD 0 := by omega
    simp only [if_neg lt, if_pos lt2]
    rfl
theorem IsKin.bounds {u d w : Nat} (ok : OkB ps) (ha : a ≤ ps.length) (hb : b ≤ ps.length) (h : IsKin ps a b u d w) : u ≤ a ∧ d ≤ b ∧ ((u = 0 ∨ d = 0) → w = 0) ∧ (¬ (u = 0 ∨ d = 0) → w = 1 ∨ w = 2) := by
  obtain ⟨c, pa, pb, C, rfl, rfl, rfl⟩ := h
  have l1 := (line_len ok a ha).2
  have l2 := (line_len ok b hb).2
  have l3 := (line_len ok c C.hl).1
  rw [C.la, List.length_append] at l1
  rw [C.lb, List.length_append] at l2
  refine ⟨by omega, by omega, fun z => ?_, fun z => ?_⟩
  · unfold sideW
    rw [if_pos (by rcases z with z | z; exact .inl (List.length_eq_zero_iff.mp z); exact .inr (List.length_eq_zero_iff.mp z))]
  · unfold sideW
    rw [if_neg (fun q => z (by rcases q with q | q; exact .inl (by rw [q]; rfl); exact .inr (by rw [q]; rfl)))]
    split
    · exact .inl rfl
    · exact .inr rfl
/-! the paths: a common front, then the branches -/
theorem pathUp_app (ps l m : List Nat) : pathUp ps (l ++ m) = pathUp ps l ++ pathUp ps m := by unfold pathUp; rw [List.filter_append, List.map_append]
theorem pathUp_pos {ps l : List Nat} (h : ∀ x ∈ l, 1 ≤ x) : pathUp ps l = l.map fun o => place ps (o - 1) := by
  unfold pathUp
  rw [List.filter_eq_self.mpr (fun x hx => decide_eq_true (by have := h x hx; omega) : ∀ x ∈ l, decide (0 < x) = true)]
theorem Climb.pos (ok : OkB ps) (C : Climb ps a b l r pa pb) (ha : a ≤ ps.length) : ∀ x ∈ pa, 1 ≤ x := fun x hx => by
  have pw := line_pw ok a ha
  rw [C.la, List.pairwise_append] at pw
  have := pw.2.2 x hx l (line_self ok C.hl)
  omega
theorem Climb.path (ok : OkB ps) (C : Climb ps a b l r pa pb) (ha : a ≤ ps.length) : pathOf ps a = pathOf ps l ++ (pa.map fun o => place ps (o - 1)).reverse := by
  unfold pathOf
  rw [C.la, pathUp_app, List.reverse_append, pathUp_pos (C.pos ok ha)]
/-- the last one ahead of l is a child of l -/
theorem Climb.last (ok : OkB ps) (C : Climb ps a b l r pa pb) (ha : a ≤ ps.length) (ne : pa ≠ []) : 1 ≤ pa.getLastD 0 ∧ pa.getLastD 0 ≤ ps.length ∧ par ps (pa.getLastD 0) = l := by
  obtain ⟨pre, x, rfl⟩ : ∃ pre x, pa = pre ++ [x] := ⟨pa.dropLast, pa.getLast ne, (List.dropLast_concat_getLast ne).symm⟩
  have hx : (pre ++ [x]).getLastD 0 = x := by simp
  rw [hx]
  have x1 := C.pos ok ha x (by simp)
  have e : (line ps a)[pre.length]? = some x := by rw [C.la]; simp
  have xl := line_in ok ha (List.mem_of_getElem? e)
  have hd := line_drop ok ha e
  rw [C.la, List.append_assoc, List.drop_left, line_succ ok x1 xl] at hd
  have hd2 : line ps l = line ps (par ps x) := by injection hd
  exact ⟨x1, xl, (line_inj ok C.hl (by have := par_lt ok x1 xl; omega) hd2).symm⟩
/-- of two children of one task the elder has the lesser place -/
theorem place_lt {x y : Nat} (hx : 1 ≤ x) (hy : y ≤ ps.length) (e : par ps x = par ps y) (lt : x < y) : place ps (x - 1) < place ps (y - 1) := by
  unfold place
  have e1 : ps.getD (x - 1) 0 = par ps x := rfl
  have e2 : ps.getD (y - 1) 0 = par ps y := rfl
  rw [e1, e2, e]
  have hat := par_at hx (by omega : x ≤ ps.length)
  have s : ps.take (y - 1) = ps.take x ++ (ps.drop x).take (y - 1 - x) := by
    rw [← List.take_append_drop x (ps.take (y - 1)), List.take_take, List.drop_take]
    congr 2
    omega
  have s2 : ps.take x = ps.take (x - 1) ++ [par ps x] := by
    have := Rd.take_end hat
    rw [show x - 1 + 1 = x by omega] at this
    exact this
  rw [s, s2, List.filter_append, List.filter_append, List.length_append, List.length_append, List.filter_cons_of_pos (by rw [e]; simp)]
  simp
  omega
/-! there is one -/
theorem climb_ex (ok : OkB ps) : ∀ (n l r : Nat) (pa pb : List Nat), l + r ≤ n → Climb ps a b l r pa pb → ∃ u d w, IsKin ps a b u d w
  | n, l, r, pa, pb, hn, C => by
    by_cases e : l = r
    · subst e; exact ⟨_, _, _, l, pa, pb, C, rfl, rfl, rfl⟩
    · cases n with
      | zero => omega
      | succ n =>
        by_cases hd : dep ps r ≤ dep ps l
        · obtain ⟨l1, C'⟩ := C.stepL ok e hd
          exact climb_ex ok n _ _ _ _ (by have := par_lt ok l1 C.hl; omega) C'
        · obtain ⟨r1, C'⟩ := C.stepR ok e (by omega)
          exact climb_ex ok n _ _ _ _ (by have := par_lt ok r1 C.hr; omega) C'
def sideS (w : Nat) : PySem.Str := if w = 0 then "line" else if w = 1 then "elder" else "younger"
open Classical in
noncomputable def kinT (ps : List Nat) (a b : Nat) : Int × Int × PySem.Str := if h : ∃ t : Nat × Nat × Nat, IsKin ps a b t.1 t.2.1 t.2.2 then ((h.choose.1 : Int), (h.choose.2.1 : Int), sideS h.choose.2.2) else (0, 0, "line")
theorem kinT_eq (ok : OkB ps) {u d w : Nat} (h : IsKin ps a b u d w) : kinT ps a b = ((u : Int), (d : Int), sideS w) := by
  have e : ∃ t : Nat × Nat × Nat, IsKin ps a b t.1 t.2.1 t.2.2 := ⟨(u, d, w), h⟩
  unfold kinT
  rw [dif_pos e]
  obtain ⟨h1, h2, h3⟩ := e.choose_spec.one ok h
  rw [h1, h2, h3]
theorem kin_ex (ok : OkB ps) (ha : a ≤ ps.length) (hb : b ≤ ps.length) : ∃ u d w, IsKin ps a b u d w := climb_ex ok _ _ _ _ _ (Nat.le_refl _) (Climb.start ha hb)
/-! the first of a's line that stands in b's line -/
theorem climb_first (ok : OkB ps) (ha : a ≤ ps.length) (hb : b ≤ ps.length) {u d c : Nat} (hu : (line ps a)[u]? = some c) (hno : ∀ i x, i < u → (line ps a)[i]? = some x → x ∉ line ps b) (hd : (line ps b)[d]? = some c) :
    Climb ps a b c c ((line ps a).take u) ((line ps b).take d) := by
  have d1 := line_drop ok ha hu
  have d2 := line_drop ok hb hd
  have hc := line_in ok ha (List.mem_of_getElem? hu)
  have na : ∀ x ∈ (line ps a).take u, x ∉ line ps b := fun x hx => by
    obtain ⟨i, hi, e⟩ := List.getElem_of_mem hx
    rw [List.length_take] at hi
    rw [List.getElem_take] at e
    exact hno i x (by omega) (by rw [List.getElem?_eq_getElem (by omega), e])
  refine ⟨by rw [← d1, List.take_append_drop], by rw [← d2, List.take_append_drop], na, fun x hx m => ?_, hc, hc⟩
  rw [← List.take_append_drop u (line ps a)] at m
  have xb : x ∈ line ps b := List.mem_of_mem_take hx
  rcases List.mem_append.mp m with m | m
  · exact na x m xb
  · rw [d1] at m
    have l1 := line_mem ok c hc x m
    have pw := line_pw ok b hb
    rw [← List.take_append_drop d (line ps b), List.pairwise_append] at pw
    have := pw.2.2 x hx c (by rw [d2]; exact line_self ok hc)
    omega
def sideH (m n : List Nat) : Nat := if m = [] ∨ n = [] then 0 else if n.headD 0 < m.headD 0 then 1 else 2
theorem headD_rev (l : List Nat) (f : Nat → Nat) (h : l ≠ []) : (l.map f).reverse.headD 0 = f (l.getLastD 0) := by
  obtain ⟨pre, x, rfl⟩ : ∃ pre x, l = pre ++ [x] := ⟨l.dropLast, l.getLast h, (List.dropLast_concat_getLast h).symm⟩
  simp
theorem Climb.sides (ok : OkB ps) (C : Climb ps a b c c pa pb) (ha : a ≤ ps.length) (hb : b ≤ ps.length) :
    sideH (pa.map fun o => place ps (o - 1)).reverse (pb.map fun o => place ps (o - 1)).reverse = sideW pa pb ∧ (pa ≠ [] → pb ≠ [] → (pa.map fun o => place ps (o - 1)).reverse.headD 0 ≠ (pb.map fun o => place ps (o - 1)).reverse.headD 0) := by
  have key : pa ≠ [] → pb ≠ [] → ((pb.map fun o => place ps (o - 1)).reverse.headD 0 < (pa.map fun o => place ps (o - 1)).reverse.headD 0 ↔ pb.getLastD 0 < pa.getLastD 0) ∧ (pa.map fun o => place ps (o - 1)).reverse.headD 0 ≠ (pb.map fun o => place ps (o - 1)).reverse.headD 0 := fun e1 e2 => by
    obtain ⟨x1, xl, xp⟩ := C.last ok ha e1
    obtain ⟨y1, yl, yp⟩ := C.symm.last ok hb e2
    have ne : pa.getLastD 0 ≠ pb.getLastD 0 := fun e => C.na _ (last_mem e1) (by rw [C.lb, e]; exact List.mem_append_left _ (last_mem e2))
    rw [headD_rev _ _ e1, headD_rev _ _ e2]
    rcases Nat.lt_or_gt_of_ne ne with lt | lt
    · have := place_lt (ps := ps) x1 yl (xp.trans yp.symm) lt
      exact ⟨⟨fun h => by omega, fun h => by omega⟩, by omega⟩
    · have := place_lt (ps := ps) y1 xl (yp.trans xp.symm) lt
      exact ⟨⟨fun h => by omega, fun h => by omega⟩, by omega⟩
  refine ⟨?_, fun e1 e2 => (key e1 e2).2⟩
  unfold sideH sideW
  by_cases e1 : pa = []
  · subst e1; simp
  by_cases e2 : pb = []
  · subst e2; simp
  have n1 : ¬ ((pa.map fun o => place ps (o - 1)).reverse = [] ∨ (pb.map fun o => place ps (o - 1)).reverse = []) := by simp [e1, e2]
  have n2 : ¬ (pa = [] ∨ pb = []) := fun z => z.elim e1 e2
  rw [if_neg n1, if_neg n2]
  by_cases lt : pb.getLastD 0 < pa.getLastD 0
  · rw [if_pos lt, if_pos ((key e1 e2).1.mpr lt)]
  · rw [if_neg lt, if_neg (fun z => lt ((key e1 e2).1.mp z))]
end
end Fa

/-! Ft: the layer's tenth part: f-strings, pop of a place, texts put together -/
namespace Rd
open PySem PySem.Spec PyProof.Rows L2
def tJoin (ts : List TE) : TE := fun σ H Q => tJs ts Str.empty σ H fun out H1 => Q (.str out) H1
section
variable {K : PySem.W.Frag} {σ : L2.St} {H : Hp} {Q : VK} {te : TE} {ts : List TE} {acc : Str} {R : Str → Hp → Prop}
theorem rd_join (h : tJs ts Str.empty σ H fun out H1 => Q (.str out) H1) : tJoin ts σ H Q := h
theorem rd_jnil (h : R acc H) : tJs [] acc σ H R := h
theorem rd_jcons (h : te σ H fun x H1 => ∃ y : Str, x = .str y ∧ (acc ++ y).length ≤ sizeLine ∧ tJs ts (acc ++ y) σ H1 R) : tJs (te :: ts) acc σ H R := h
def FmtOf (x : V) (H : Hp) (Q : VK) : Prop := (∃ y : Str, x = .str y ∧ y.length ≤ sizeLine ∧ Q (.str y) H) ∨ ∃ i : Int, x = .int i ∧ i.natAbs.log2 < 1920 ∧ Q (.str (toString i)) H
theorem rd_fmt (h : te σ H fun x H1 => FmtOf x H1 Q) : tFmt te σ H Q := h
theorem rd_fmtS {y : Str} (l : y.length ≤ sizeLine) (h : Q (.str y) H) : FmtOf (.str y) H Q := .inl ⟨y, rfl, l, h⟩
theorem rd_fmtI {i : Int} (l : i.natAbs.log2 < 1920) (h : Q (.str (toString i)) H) : FmtOf (.int i) H Q := .inr ⟨i, rfl, l, h⟩
theorem rd_jstr {y : Str} {P : Str → Prop} (l : (acc ++ y).length ≤ sizeLine) (h : P y) : ∃ z : Str, V.str y = .str z ∧ (acc ++ z).length ≤ sizeLine ∧ P z := ⟨y, rfl, l, h⟩
theorem rd_popAt {p : Addr} {xs : List V} {i : Int} {k : Nat} {y : V} (hp : H p = some (.lst xs)) (h1 : -(2 ^ 63) ≤ i) (h2 : i < 2 ^ 63) (hk : seqIndex? i xs.length = some k) (hy : xs[k]? = some y) (q : Q y (upd H p (.lst (xs.eraseIdx k)))) : rPopAt (.ref p) [.int i] H Q := ⟨p, xs, i, k, y, rfl, rfl, hp, h1, h2, hk, hy, q⟩
end
theorem str_assoc (a b c : Str) : (a ++ b) ++ c = a ++ (b ++ c) := by
  show (⟨(a.cps ++ b.cps) ++ c.cps⟩ : Str) = ⟨a.cps ++ (b.cps ++ c.cps)⟩
  rw [Array.append_assoc]
theorem str_empty (a : Str) : Str.empty ++ a = a := by
  show (⟨#[] ++ a.cps⟩ : Str) = a
  rw [Array.empty_append]
end Rd
namespace Ce
open PySem L2 Rd
/-! ### the cells of a reach, in plain lists -/
abbrev Cell := Int × Int × PySem.Str
def sidesC (u d : Int) : List PySem.Str := if u = 0 ∨ d = 0 then ["line"] else ["elder", "younger"]
def cellsAt (r : Nat) (far : Int) (up : Nat) : List Cell := if 0 ≤ far - up ∧ far - up ≤ r then (sidesC up (far - up)).map (fun s => ((up : Int), far - up, s)) else []
def rowTo (r : Nat) (far : Int) (n : Nat) : List Cell := (List.range n).flatMap (cellsAt r far)
def cellsTo (r n : Nat) : List Cell := (List.range n).flatMap (fun (i : Nat) => rowTo r (1 + (i : Int)) (r + 1))
def cellsL (r : Nat) : List Cell := cellsTo r (2 * r)
theorem rowTo_succ (r : Nat) (far : Int) (n : Nat) : rowTo r far (n + 1) = rowTo r far n ++ cellsAt r far n := by unfold rowTo; rw [List.range_succ, List.flatMap_append]; simp
theorem cellsTo_succ (r n : Nat) : cellsTo r (n + 1) = cellsTo r n ++ rowTo r (1 + (n : Int)) (r + 1) := by unfold cellsTo; rw [List.range_succ, List.flatMap_append]; simp
theorem cellsAt_len (r : Nat) (far : Int) (up : Nat) : (cellsAt r far up).length ≤ 2 := by
  unfold cellsAt sidesC
  split
  · split <;> simp
  · simp
theorem rowTo_len (r : Nat) (far : Int) : ∀ n, (rowTo r far n).length ≤ 2 * n
  | 0 => by simp [rowTo]
  | n + 1 => by rw [rowTo_succ, List.length_append]; have := rowTo_len r far n; have := cellsAt_len r far n; omega
theorem cellsTo_len (r : Nat) : ∀ n, (cellsTo r n).length ≤ n * (2 * (r + 1))
  | 0 => by simp [cellsTo]
  | n + 1 => by rw [cellsTo_succ, List.length_append, Nat.succ_mul]; have := cellsTo_len r n; have := rowTo_len r (1 + (n : Int)) (r + 1); omega
theorem cellsL_len {r : Nat} (h1 : 1 ≤ r) (h4 : r ≤ 4) : (cellsL r).length = 2 * r + 2 * r * r := by
  have : r = 1 ∨ r = 2 ∨ r = 3 ∨ r = 4 := by omega
  rcases this with rfl | rfl | rfl | rfl <;> decide +kernel
theorem cellsTo_mem {r n : Nat} {c : Cell} (h : c ∈ cellsTo r n) : 0 ≤ c.1 ∧ c.1 ≤ r ∧ 0 ≤ c.2.1 ∧ c.2.1 ≤ r ∧ c.2.2 ∈ sidesC c.1 c.2.1 := by
  unfold cellsTo at h
  obtain ⟨i, _, h⟩ := List.mem_flatMap.mp h
  unfold rowTo at h
  obtain ⟨j, hj, h⟩ := List.mem_flatMap.mp h
  rw [List.mem_range] at hj
  unfold cellsAt at h
  by_cases hc : 0 ≤ 1 + (i : Int) - (j : Int) ∧ 1 + (i : Int) - (j : Int) ≤ r
  · rw [if_pos hc] at h
    obtain ⟨s, hs, rfl⟩ := List.mem_map.mp h
    exact ⟨by show (0 : Int) ≤ (j : Int); omega, by show (j : Int) ≤ r; omega, hc.1, hc.2, hs⟩
  · rw [if_neg hc] at h
    cases h
/-- tuples of three stand for these cells -/
def TupsAt (H : Hp) (ts : List V) (cs : List Cell) : Prop := ts.length = cs.length ∧ ∀ (i : Nat) v c, ts[i]? = some v → cs[i]? = some c → ∃ t, v = .ref t ∧ H t = some (.tup [.int c.1, .int c.2.1, .str c.2.2])
theorem TupsAt.keep {H H' : Hp} {l : List Addr} {ts : List V} {cs : List Cell} (h : TupsAt H ts cs) (b : But l H H') (hl : Lsts H l) : TupsAt H' ts cs := ⟨h.1, fun i v c e1 e2 => by
  obtain ⟨t, e, ht⟩ := h.2 i v c e1 e2
  exact ⟨t, e, keepT b hl ht⟩⟩
theorem TupsAt.same {H H' : Hp} {ts : List V} {cs : List Cell} (h : TupsAt H ts cs) (s : Same H H') : TupsAt H' ts cs := h.keep (But.of s) Lsts.nil
theorem TupsAt.grow {H H1 : Hp} {l t : Addr} {ts : List V} {cs : List Cell} {u d : Int} {s : PySem.Str} (h : TupsAt H1 ts cs) (hl : H1 l = some (.lst ts)) (nt : H1 t = none) :
    TupsAt (upd (upd H1 t (.tup [.int u, .int d, .str s])) l (.lst (ts ++ [.ref t]))) (ts ++ [.ref t]) (cs ++ [(u, d, s)]) ∧ (Same H H1 → H l = none → Same H (upd (upd H1 t (.tup [.int u, .int d, .str s])) l (.lst (ts ++ [.ref t])))) := by
  have B : But [l] H1 (upd (upd H1 t (.tup [.int u, .int d, .str s])) l (.lst (ts ++ [.ref t]))) := ((But.refl _ _).new nt).set (.head _)
  refine ⟨⟨by rw [List.length_append, List.length_append, h.1]; rfl, rows_snoc h.1 (h.keep B (.cons hl .nil)).2 ⟨t, rfl, ?_⟩⟩, fun s h => same_mut (s.trans (same_new nt)) h⟩
  rw [upd_ne (ne_of_none hl nt).symm]
  exact upd_same
end Ce

/-! St: the layer's eleventh part: str(o) of an own class, class methods, calls of a class held by a name, split and join -/
namespace OwX
open PySem PySem.Spec PyProof.Rows
section
variable {prog : Program} {w : World} {A : Around} {E : Value → Shared → Prop} {s : Shared} {K : PySem.W.Frag} {x C D f : Addr} {ox od : Obj} {odd : Option Obj}
theorem strOf_own {Q : Value → Shared → Prop} (hu : A.units < cLine) (X : K.In s.heap) (I : PySem.W.InstAt s.heap x ox C odd) (hs : PySem.W.findIn K (.ref C) "__str__" = some (some (.ref f))) (hf : PySem.W.isFn K (.ref f) = true)
    (h : wpAny (model prog w) A (call (.ref f) [.ref x]) (fun r s₁ => ∃ y u, r = Value.str y u ∧ Q r s₁) E s) : wpAny (model prog w) A (Builtin.Str.strOf (.ref x)) Q E s := by
  unfold Builtin.Str.strOf
  rw [show Builtin.Str.isExactStr (.ref x) = false from rfl, if_neg Bool.false_ne_true]
  refine wpAny_bind (wpAny_cRoomFor hu ?_)
  refine wpAny_bind (m := callSpecial? (.ref x) (Str.ofString "__str__")) (PySem.W.special_fn X I hs (beq_iff_eq.mp hf) (wpAny_mono h (fun r s' hr => ?_) fun _ _ y => y))
  obtain ⟨n, u, rfl, hq⟩ := hr
  exact wpAny_bind (wpAny_pure (wpAny_pure hq))
/-- str(x) -/
theorem str_own {Q : Value → Shared → Prop} (hu : A.in1.in1.units < cLine) (X : K.In s.heap) (I : PySem.W.InstAt s.heap x ox C odd) (hs : PySem.W.findIn K (.ref C) "__str__" = some (some (.ref f))) (hf : PySem.W.isFn K (.ref f) = true)
    (h : wpAny (model prog w) A.in1.in1 (call (.ref f) [.ref x]) (fun r s₁ => ∃ n u, r = Value.str n u ∧ Q r s₁) E s) : wpAny (model prog w) A (call (.type "str") [.ref x]) Q E s := by
  refine callType_codes (T := "str") (Bi := Builtin.«object.__init__») (Q₁ := fun r s₁ => ∃ n u, r = Value.str n u ∧ Q r s₁) PySem.F.called_str (PySem.F.typeCall_str_1 _) PySem.F.entry_object_init ?_ ?_
  · refine codeAny_of_tree ?_
    show wpAny _ A.in1.in1 (do checkBuiltinCall "str.__new__" ⟨[.type "str", .ref x], []⟩; again (.builtin "str.__new__" ⟨[.type "str", .ref x], []⟩)) _ _ s
    refine wpAny_bind (wpAny_of_eq (PySem.F.newCall_str_1 _) (wpAny_pure ⟨plainId_quiet (by decide +kernel) _, codeAny_builtin PySem.F.entry_str_new ?_⟩))
    rw [Around.under_plainId (by decide +kernel) _]
    rw [str_new_tree]
    refine wpAny_bind (wpAny_pure ?_)
    refine wpAny_bind (wpAny_of_eq isSubtype_str_str ?_)
    refine wpAny_bind (strOf_own hu X I hs hf (wpAny_mono h (fun r s₁ hr => ?_) fun _ _ y => y))
    obtain ⟨n, u, rfl, hq⟩ := hr
    exact ⟨n, u, rfl, wpAny_pure ⟨n, u, rfl, hq⟩⟩
  · rintro obj s₁ ⟨n, u, rfl, hq⟩
    exact ⟨typeIs_str _ _ _, PySem.F.args_object_init_2 _ _, object_init_meets PySem.F.called_str.init.lookup PySem.F.called_str.made (by decide) prog w A.in1 _ s₁ ⟨typeIs_str _ _ _, rfl, hq⟩⟩
end
end OwX
namespace Rd
open PySem PySem.Spec PyProof.Rows L2
def rStrO (C : Addr) (sp : Sp) (E : XK) : List V → Hp → VK → Prop := fun xs H Q => ∃ a dx fs, xs = [.ref a] ∧ H a = some (.ins C dx fs) ∧ sp [.ref a] H (fun z H' => ∃ y, z = .str y ∧ Q z H') E
section
variable {X : Cx} {CX : CXT} {k : Nat} {C : Addr} {m x : Str} {ps : List Str} {sp : Sp} {E : XK}
theorem call_strO (c : CalM X.prog X.w X.K X.mg X.base CX C "__str__" k ["self"] sp) (hr : Room (k + 2) X.A) (hx : Passes CX X E) : CallR X (.type "str") (rStrO C sp E) := by
  intro pins s σ H xs us Q I r h
  obtain ⟨a, dx, fs, rfl, ea, q⟩ := h
  obtain ⟨u, rfl, ru⟩ := r.one
  cases (show u = Value.ref a from ru)
  obtain ⟨cl, f, fd, F, hm, hb⟩ := c
  obtain ⟨mA, O, _, _, _, _⟩ := ins_get I.hok ea
  obtain ⟨od, J, _⟩ := O.look
  have hr2 : Room k X.A.in1.in1 := (show Room (k + 1) X.A.in1 from Room.in1 hr).in1
  refine OwX.str_own hr2.units0 I.kIn J hm.at_ hm.fn (wpAny_mono (run_fnA (us := [.ref a]) (vs := [.ref a]) F hr2 I.env0.in1.in1 hb hx I (.cons rfl .nil) q) (fun w s' z => ?_) fun _ _ z => z)
  obtain ⟨z', H', I', rz, y, ey, qz⟩ := z
  subst ey
  obtain ⟨t, e⟩ := (show ∃ t, w = Value.str y t from rz)
  cases e
  exact ⟨y, t, rfl, .str y, H', I', ⟨t, rfl⟩, qz⟩
end
/-! ### class methods -/
structure CalC (P : Program) (w : World) (K : PySem.W.Frag) (mg : Str → Option Value) (base : Heap) (CX : CXT) (C : Addr) (m : Str) (k : Nat) (ps : List Str) (sp : Sp) : Prop where
  rd : ClX.CRead K C (.type "type")
  ex : ∃ (p f : Addr) (fd : FuncData), FnOk P w K mg base CX k f fd ps sp ∧ ClX.CMet K C (.type "type") m p f ∧ Binds K fd ps []
theorem cls_find {K : PySem.W.Frag} {C p : Addr} {m : Str} (h : PySem.W.findIn K (.ref C) m = some (some (.ref p))) (hm : PySem.W.findIn K (.type "type") m = some none) (ht : PySem.W.typeIn K (.ref p) = some (.type "classmethod"))
    (hg : PySem.W.specialIn K (.ref p) "__get__" = some (some (.builtin "classmethod.__get__"))) : PySem.W.findCls K (.ref C) (.type "type") m = some (.get (.builtin "classmethod.__get__") (.ref p) .none (.ref C)) := by
  unfold PySem.W.findCls
  rw [hm, Option.bind_some, Option.bind_some, Option.bind_some, h, Option.bind_some]
  show (if PySem.Builtin.heldUnderItsOwnName m (.ref p) = true then none else _) = _
  rw [if_neg (show ¬ PySem.Builtin.heldUnderItsOwnName m (.ref p) = true from Bool.false_ne_true), ht, Option.bind_some, hg]
  rw [if_neg (show ¬ (PySem.W.bareKinds.contains (.type "classmethod") = true) from by decide +kernel)]
  rfl
def tClsM (C : Addr) (sp : Sp) (E : L2.St → XK) (ta : TE) (t : TA) : TE := fun σ H Q => ta σ H fun x H1 => IsC x C (t σ H1 fun vs H2 => sp (.ref C :: vs) H2 Q (E σ))
section
variable {X : Cx} {CX : CXT} {k : Nat} {C : Addr} {m x : Str} {ps : List Str} {sp : Sp} {E : L2.St → XK} {o e : Expr} {es : List Expr} {ta : TE} {t : TA} {apos pos p : Pos} {pl : Sem Bool}
theorem run_cmS {q g : Addr} {fd : FuncData} {pins : List (Addr × Obj)} {σ : L2.St} {H : Hp} {s : Shared} {Q : VK} {us : List Value} {vs : List V} (F : FnOk X.prog X.w X.K X.mg X.base CX k g fd ps sp) (hr : Room k X.A) (hb : Binds X.K fd ps []) (hx : PassesAt CX X σ (E σ)) (I : Inv X ((q, PySem.W.methodObj (.ref g) (.ref C)) :: pins) σ H s)
    (r : Vals vs us) (h : sp (.ref C :: vs) H Q (E σ)) : wpAny (model X.prog X.w) X.A (call (.ref q) us) (EP X pins σ Q) X.xe s := by
  have z : wpAny (model X.prog X.w) X.A (call (.ref q) us) (EP X ((q, PySem.W.methodObj (.ref g) (.ref C)) :: pins) σ Q) X.xe s := by
    have hl : (Value.ref C :: us).length = ps.length := by rw [← F.len _ _ _ _ h, List.length_cons, List.length_cons, r.length]
    have b := hb s (.ref C :: us) I.kIn (by rw [List.append_nil]; exact hl)
    rw [List.append_nil] at b
    refine wpAny_call (PySem.W.method_call (ClX.pin_at I) (codeAny_mono (F.run X.A X.stack s H ⟨.ref C :: us, []⟩ (.ref C :: us) (.ref C :: vs) Q (E σ) hr I.env0 b (.cons rfl r) h) fun r s' hq => ?_))
    cases r with
    | error e => exact hx _ H s e s' I hq
    | ok fl =>
      cases fl with
      | ret u => exact I.after hq
      | next => exact False.elim hq
      | brk => exact False.elim hq
      | cont => exact False.elim hq
  exact thn z fun _ _ y => ClX.unpinE y
theorem pe_calC (c : CalC X.prog X.w X.K X.mg X.base CX C m k ps sp) (he : PE X o ta) (hr : Room k X.A) (hx : ∀ σ, PassesAt CX X σ (E σ)) (ha : PA X (e :: es) t)
    (hst : starEach (e :: es) X.env = (false, eval e X.env) :: starEach es X.env := by rfl) (hpl : (backTo pos (starEach es X.env)).any (·.1) = false := by rfl)
    (ht : eval (.Call (.Attribute o m apos) (e :: es) [] pos) X.env = (do let ov ← eval o X.env; standAt apos.atName; let (f, first) ← holding [ov] (getMethod ov m pl); callWith pos f first (backTo pos (starEach (e :: es) X.env)) (backToKw pos (keywordEach [] X.env))) := by rfl) :
    PE X (.Call (.Attribute o m apos) (e :: es) [] pos) (tClsM C sp E ta t) := by
  obtain ⟨rd, p, f, fd, F, M, hb⟩ := c
  refine ⟨fun pins s σ H Q I h => PySem.W.methodCall_KW (pl := pl) (thn (he.run pins s σ H _ I h) ?_) ht⟩
  rintro u s1 ⟨x, H1, I1, rx, ex, q⟩
  subst ex
  obtain rfl : u = Value.ref C := rx
  refine ClX.getmethcm_ok I1 rd M fun s2 I2 => ?_
  refine ClX.callwith_cm I2 (ClX.base_none I1 (Nat.le_refl _)) M.fi (thn (ha.run pos _ s2 σ H1 _ I2 q) fun us s3 ⟨vs, H2, I3, rv, q2⟩ => ⟨⟨ClX.pin_at I3, I3.kIn⟩, ?_⟩) hst hpl
  exact run_cmS F hr hb (hx σ) I3 rv q2
/-- v(..), v a name that holds the class at C -/
def tMakeV (C : Addr) (sp : Sp) (E : L2.St → XK) (tx : TE) (t : TA) : TE := fun σ H Q => tx σ H fun v H0 => IsC v C (t σ H0 fun vs H1 => ∀ x dx, H1 x = none → H1 dx = none → dx ≠ x → sp (.ref x :: vs) (upd (upd H1 dx (.own x)) x (.ins C dx [])) (fun v H2 => v = .non ∧ Q (.ref x) H2) (E σ))
theorem pe_calKv {y : Str} {tx : TE} (c : CalK X.prog X.w X.K X.mg X.base CX y C k ps sp) (hf : PE X (.Name x p) tx) (hr : Room (k + 1) X.A) (hx : ∀ σ, PassesAt CX X σ (E σ)) (ha : PA X (e :: es) t)
    (he : starEach (e :: es) X.env = (false, eval e X.env) :: starEach es X.env := by rfl) (hpl : (backTo pos (starEach es X.env)).any (·.1) = false := by rfl) :
    PE X (.Call (.Name x p) (e :: es) [] pos) (tMakeV C sp E tx t) := by
  obtain ⟨g, f, fd, F, M, hb⟩ := c
  refine ⟨fun pins s σ H Q I h => wpAny_Call_Name_kw (thn (hf.run pins s σ H _ I h) fun u s0 ⟨v, H0, I0, r0, ev, q0⟩ => ?_)⟩
  subst ev
  obtain rfl : u = Value.ref C := r0
  refine PySem.W.callWith_K (h₀ := X.base) I0.ok.mod.kin M.kp (thn (ha.run pos pins s0 σ H0 _ I0 q0) ?_) he hpl
  rintro us s1 ⟨vs, H1, I1, r, q⟩
  exact ⟨I1.kIn, run_mkS M F hr hb (hx σ) I1 r q⟩
end
/-! ### split, join -/
def rSplitS : V → List V → Hp → VK → Prop := fun x xs H Q => ∃ a b, x = .str a ∧ xs = [.str b] ∧ (b.length == 0) = false ∧ a.length + 2 ≤ sizeLine ∧ ∀ p, H p = none → Q (.ref p) (upd H p (.lst ((Txt.split a b).map V.str)))
theorem mt_splitS {X : Cx} : MtR X "str.split" rSplitS := mt_split
def rJoinS (K : PySem.W.Frag) : V → List V → Hp → VK → Prop := fun x xs H Q => ∃ a p, ∃ ys : List Str, x = .str a ∧ xs = [.ref p] ∧ (SqL K H p (ys.map V.str) ∨ SqT K H p (ys.map V.str)) ∧ (ys.map (·.length)).sum + ys.length * a.length ≤ 16777216 ∧ Q (.str (Txt.join a ys)) H
theorem mt_joinS {X : Cx} : MtR X "str.join" (rJoinS X.K) := mt_join
section
variable {K : PySem.W.Frag} {σ : L2.St} {H : Hp} {Q : VK} {tx ta : TE} {t : TA} {C : Addr} {sp : Sp} {E : L2.St → XK}
theorem rd_clsM (h : ta σ H fun x H1 => IsC x C (t σ H1 fun vs H2 => sp (.ref C :: vs) H2 Q (E σ))) : tClsM C sp E ta t σ H Q := h
theorem rd_makeV (h : tx σ H fun v H0 => IsC v C (t σ H0 fun vs H1 => ∀ x dx, H1 x = none → H1 dx = none → dx ≠ x → sp (.ref x :: vs) (upd (upd H1 dx (.own x)) x (.ins C dx [])) (fun v H2 => v = .non ∧ Q (.ref x) H2) (E σ))) : tMakeV C sp E tx t σ H Q := h
theorem rd_split {a b : Str} (hb : (b.length == 0) = false) (ha : a.length + 2 ≤ sizeLine) (q : ∀ p, H p = none → Q (.ref p) (upd H p (.lst ((Txt.split a b).map V.str)))) : rSplitS (.str a) [.str b] H Q := ⟨a, b, rfl, rfl, hb, ha, q⟩
theorem rd_joinS {a : Str} {p : Addr} {ys : List Str} (hp : SqL K H p (ys.map V.str)) (hz : (ys.map (·.length)).sum + ys.length * a.length ≤ 16777216) (q : Q (.str (Txt.join a ys)) H) : rJoinS K (.str a) [.ref p] H Q := ⟨a, p, ys, rfl, rfl, .inl hp, hz, q⟩
end
end Rd

/-! En: the layer's twelfth part: starred items of a display, comprehensions over enumerate(list) -/
namespace Rd
open PySem PySem.Spec PyProof.Rows L2
def LcE (K : PySem.W.Frag) (as : List V) (g : TG) (tt : TT) (te : TE) (vs : List Nat) (σ : L2.St) (H : Hp) (Q : VK) : Prop := ∃ a xs, as = [V.ref a] ∧ SqL K H a xs ∧ LcJ g tt te vs σ Q (Ite K a) H
def ForE (K : PySem.W.Frag) (as : List V) (g : TG) (tb : TS) (D : Ends) (σ : L2.St) (H : Hp) : Prop := ∃ a xs, as = [V.ref a] ∧ SqL K H a xs ∧ ForJ g tb D σ (Ite K a) H
section
variable {K : PySem.W.Frag} {D : Ends} {σ : L2.St} {H : Hp} {g : TG} {tb : TS} {te : TE} {ta : TA} {tt : TT} {vs : List Nat} {Q : VK} {i j : Nat}
theorem rd_lcE (h : ta σ H fun as H1 => LcE K as g tt te vs σ H1 Q) : tLc (iEnum K ta) g tt te vs σ H Q := h
theorem rd_forE (h : ta σ H fun as H1 => ForE K as g tb D σ H1) : tFor (iEnum K ta) g tb D σ H := h
/-- [.. for index, x in enumerate(list)]: the pair at T is new -/
theorem lcE {a : Addr} {xs : List V} (hx : SqL K H a xs) (h : ∀ Dd, H Dd = none → ∃ Pv : Nat → Hp → Prop, Pv 0 (upd H Dd (.lst [])) ∧ (∀ i H, i ≤ xs.length → Pv i H → SqL K H a xs) ∧
    (∀ (i : Nat) (x : V) (T : Addr) H, xs[i]? = some x → Pv i H → H T = none → g (.ref T) (wipe σ vs) (upd H T (.tup [.int (i : Int), x])) fun σ2 H2 => wipe σ2 vs = wipe σ vs ∧ tt σ2 H2 fun b H3 =>
      if b = true then te σ2 H3 fun y H4 => ∃ acc, H4 Dd = some (.lst acc) ∧ acc.length < sizeLine ∧ Pv (i + 1) (upd H4 Dd (.lst (acc ++ [y]))) else Pv (i + 1) H3) ∧ (∀ H, Pv xs.length H → Q (.ref Dd) H)) : LcE K [.ref a] g tt te vs σ H Q := by
  refine ⟨a, xs, rfl, hx, fun Dd hD => ?_⟩
  obtain ⟨Pv, h0, hl, hs, hd⟩ := h Dd hD
  refine L2.lc_it L2.walk_enum Pv h0 hl (fun i x H H' hi p y => ?_) hd
  obtain ⟨T, u, v, rfl, hT, rfl, e1, e2⟩ := y
  have e1 : V.int (i : Int) = u := Option.some.inj e1
  subst e1
  exact hs i v T H e2 p hT
/-- i, j = a new pair -/
theorem g_pair {T : Addr} {x y : V} {k : L2.St → Hp → Prop} (hT : SqT K H T [x, y]) (q : k ((σ.set i (some x)).set j (some y)) H) : gTup K 2 (gCons (gName i) (gCons (gName j) gNil)) (.ref T) σ H k :=
  ⟨T, [x, y], rfl, hT, rfl, x, [y], rfl, y, [], rfl, rfl, q⟩
/-- *xs within a display -/
theorem rd_starL {t : TA} {R : List V → Hp → Prop} (h : te σ H fun x H1 => ∃ p xs, x = V.ref p ∧ (SqT K H1 p xs ∨ SqL K H1 p xs) ∧ t σ H1 fun ys H2 => R (xs ++ ys) H2) : StX.tStar K te t σ H R := h
theorem rd_star1 {p : Addr} {xs : List V} {G : Prop} (hp : SqL K H p xs) (q : G) : ∃ p' xs', V.ref p = V.ref p' ∧ (SqT K H p' xs' ∨ SqL K H p' xs') ∧ G := ⟨p, xs, rfl, .inr hp, q⟩
end
end Rd

/-! Lx: the layer's thirteenth part: list comprehensions whose element may raise out of a call -/
namespace Rd
open PySem PySem.Spec PyProof.Rows L2
/-! ### an exception that leaves the block of a comprehension -/
theorem ff_less {B B1 : Heap} (k : ∀ b, B.get? b = none → B1.get? b = none) {h : Heap} : ∀ {l : List Env}, h.FunFrames B l → h.FunFrames B1 l
  | [], _ => trivial
  | _ :: _, ⟨hk, ⟨L, o, hf, hn, ho, hd⟩, hr⟩ => ⟨hk, ⟨L, o, hf, k L hn, ho, hd⟩, ff_less k hr⟩
/-- a smaller ground -/
theorem held_less {B B1 : Heap} {l : List Env} {a : Addr} {Z : Obj → Prop} {L : Addr} {h : Heap} (k : ∀ b o, B1.get? b = some o → B.get? b = some o) (x : HandSPX.HeldZ B l a Z L h) : HandSPX.HeldZ B1 l a Z L h := by
  have kn : ∀ b, B.get? b = none → B1.get? b = none := fun b e => by
    cases q : B1.get? b with
    | none => rfl
    | some o => rw [k b o q] at e; cases e
  obtain ⟨x1, x2, x3, oe, vs, T, oT, ts, y1, y2, y3, y4, y5, y6⟩ := x
  exact ⟨fun b o e => x1 b o (k b o e), kn _ x2, ff_less kn x3, oe, vs, T, oT, ts, y1, y2, y3, y4, kn _ y5, y6⟩
/-- the block's names are let go -/
theorem held_gone {B : Heap} {l : List Env} {a C : Addr} {Z : Obj → Prop} {L : Addr} {h h' : Heap} {m m' : Str → Option Value} (hC : B.get? C = none) (hn : h.Ns C m) (hn' : h'.Ns C m') (sb : Heap.SameBut C h h') (x : HandSPX.HeldZ B l a Z L h) : HandSPX.HeldZ B l a Z L h' := by
  obtain ⟨x1, x2, x3, oe, vs, T, oT, ts, y1, y2, y3, y4, y5, y6, y7, y8, y9⟩ := x
  obtain ⟨oC, es, ep, hoC, hdC, _⟩ := id hn
  have rcd : ∀ b o vs, h.get? b = some o → o.data = .fields vs → b ≠ C := fun b o vs e d z => by
    rw [z, hoC] at e
    cases e
    rw [hdC] at d
    cases d
  exact ⟨fun b o e => (sb.2 b fun z => by rw [z, hC] at e; cases e).trans (x1 b o e), x2, Heap.FunFrames.sameBut sb hn' x3, oe, vs, T, oT, ts, (sb.2 _ (rcd _ _ _ y1 y3)).trans y1, y2, y3, y4, y5, y6, (sb.2 _ (rcd _ _ _ y7 y8)).trans y7, y8, y9⟩
abbrev hide1 (h : Heap) (C : Addr) : Heap := PySem.W.hideAll h [C]
theorem hide1_of {h : Heap} {C b : Addr} {o : Obj} (e : (hide1 h C).get? b = some o) : h.get? b = some o ∧ b ≠ C := by
  refine ⟨PySem.W.of_hideAll _ e, fun z => ?_⟩
  rw [z, PySem.W.hideAll_none _ (List.mem_singleton.mpr rfl)] at e
  cases e
theorem hide1_get {h : Heap} {C b : Addr} {o : Obj} (e : h.get? b = some o) (n : b ≠ C) : (hide1 h C).get? b = some o := PySem.W.hideAll_get _ e fun m => n (List.mem_singleton.mp m)
theorem hide1_none {h : Heap} {C : Addr} : (hide1 h C).get? C = none := PySem.W.hideAll_none _ (List.mem_singleton.mpr rfl)
/-- the same context, another wish -/
abbrev wish (X : Cx) (xe : Value → Shared → Prop) : Cx := { X with xe := xe }
theorem inv_wish {X : Cx} {pins : List (Addr × Obj)} {σ : L2.St} {H : Hp} {s : Shared} (xe : Value → Shared → Prop) (I : Inv X pins σ H s) : Inv (wish X xe) pins σ H s :=
  ⟨⟨I.ok.mod, I.ok.kind, I.ok.glob, I.ok.blt, I.ok.above, I.ok.inj, I.ok.has, I.ok.cab, I.ok.hd, I.ok.frames, I.ok.stk, I.ok.exf, I.ok.bs, I.ok.bsz, I.ok.noex, I.ok.exfs, I.ok.funs, I.ok.frf⟩, I.os, I.bare, I.base, I.loc, I.cell, I.free, I.freeC, I.pin, I.hok, I.len⟩
theorem inv_unwish {X : Cx} {pins : List (Addr × Obj)} {σ : L2.St} {H : Hp} {s : Shared} {xe : Value → Shared → Prop} (ok : X.Ok) (I : Inv (wish X xe) pins σ H s) : Inv X pins σ H s :=
  ⟨ok, I.os, I.bare, I.base, I.loc, I.cell, I.free, I.freeC, I.pin, I.hok, I.len⟩
/-- what a call in the block of Y let out -/
def xB (Y : Cx) (Ec : XK) : Value → Shared → Prop := fun u s' => ∃ pins σ H s, Inv Y pins σ H s ∧ L2N.CX Y.prog Y.w Y.stack H s Ec u s'
section
variable {X : Cx} {pins : List (Addr × Obj)} {σ : L2.St} {H3 : Hp} {s3 : Shared} {Ec : XK} {W : WX}
theorem out_comp (hs : X.stack = X.env :: X.outer) (hf : X.env.frame = some X.env.locals) (tk : L2N.Takes X W) (hW : ∀ cls d H, Ec cls d H → W cls d σ H) (I3 : Inv X pins σ H3 s3) {scope : Scope} {ce : Env} {fp : List Addr} (cF : ce.frame = X.env.frame) (cL : ce.locals = s3.heap.objs.size)
    (hfp : ∀ b ∈ fp, FpOk X pins H3 b) {u : Value} {s' : Shared} (x : xB (X.blk s3 H3 scope ce fp) Ec u s') : notedBy (model X.prog X.w) X.A ce (fun e s1 => CompFails (model X.prog X.w) X.A X.xe ce e s1) u s' := by
  obtain ⟨pins', σ', H', s, J, a, B, H'', cls, d, rfl, fl, hok, ub, na, os, ag, hE⟩ := x
  have hfr : X.A.frames = some (X.env :: X.outer) := by rw [I3.ok.frames, hs]
  have fl : HandSPX.FlyingZ B (X.env :: X.outer) a (L2N.Zn cls d) s'.heap := by rw [← hs]; exact fl
  have ub : UB (frs X.stack) H' H'' s.heap B s'.heap := ub
  have un : Un (frs X.stack) fp H3 H' s3.heap s.heap := J.base
  have nC : H' ce.locals = none := J.free
  have CF : ce.locals ∉ frs X.stack := fun hm => by
    obtain ⟨_, o, e, _⟩ := I3.stack.mem hm
    have z := Heap.lt_size e
    rw [cL] at z
    exact absurd z (Nat.lt_irrefl _)
  obtain ⟨m, hns, _⟩ := J.loc
  have hns : s.heap.Ns ce.locals m := hns
  have st : B.StaysIn s'.heap := fl.1
  have hns' : s'.heap.Ns ce.locals m := by
    obtain ⟨o, es, ep, e, q⟩ := hns
    exact ⟨o, es, ep, st _ _ (ub.keep _ _ e nC CF), q⟩
  show wpAny _ _ (noteFrame (.ref a) ce) _ _ _
  rw [noteFrame_env _ cF]
  refine PXN.looks_onZ L2N.Zn.steady hfr hf fl fun h1 held up1 => ?_
  have held : HandSPX.HeldZ (hide1 B ce.locals) (X.env :: X.outer) a (L2N.Zn cls d) X.env.locals h1 := held_less (fun b o e => (hide1_of e).1) held
  have hn1 : h1.Ns ce.locals m := up1.ns hns'
  refine ⟨m, hn1, fun h2 m2 hn2 sb => ?_⟩
  have held2 := held_gone hide1_none hn1 hn2 sb held
  obtain ⟨f1, f2, f3, f4⟩ := id held2
  obtain ⟨oe, vs, T, oT, ts, e1, e2, e3, e4, _⟩ := id f4
  unfold PySem.passOn
  refine wpAny_bind (wpAny_field e1 e3 e4 ?_)
  rw [if_neg (show ¬ ((Value.ref T == Value.none) = true) from by simp), cF, hf]
  have fin : wpAny (model X.prog X.w) X.A (setFlight (.ref a) (some X.env.locals)) (fun _ s4 => wpAny (model X.prog X.w) X.A (throw (.ref a) : Sem Value) (fun _ _ => False) X.xe s4) X.xe { s' with heap := h2 } := by
    refine HandSPX.setFlight_anyZ f1 f3 f4 fun h4 g1 g2 g3 up4 => wpAny_throw (tk _ _ ?_)
    obtain ⟨G, i1, i2⟩ := restrict s'.heap fun b => ((hide1 B ce.locals).get? b).isSome || decide (b ∈ frs X.stack)
    have gB : ∀ b o, B.get? b = some o → b ≠ ce.locals → G.get? b = some o := fun b o e n => by
      rw [i1 b (by simp [hide1_get e n])]
      exact st b o e
    have gF : ∀ b, b ∈ frs X.stack → G.get? b = s'.heap.get? b := fun b hb => i1 b (by simp [hb])
    have og : ∀ b o, G.get? b = some o → s'.heap.get? b = some o ∧ (((hide1 B ce.locals).get? b).isSome = true ∨ b ∈ frs X.stack) := fun b o e => by
      cases q : (((hide1 B ce.locals).get? b).isSome || decide (b ∈ frs X.stack)) with
      | false => rw [i2 b q] at e; cases e
      | true =>
        rw [i1 b q] at e
        exact ⟨e, by simpa [Bool.or_eq_true] using q⟩
    have old : ∀ b o, s3.heap.get? b = some o → b ≠ ce.locals := fun b o e z => by
      have q := Heap.lt_size e
      rw [z, cL] at q
      exact absurd q (Nat.lt_irrefl _)
    have nC2 : H'' ce.locals = none := by
      obtain ⟨o, es, ep, e, _⟩ := hns
      exact ub.free _ _ e nC
    have hokG : HOk X.prog X.w H'' G := fun b o q => (hok b o q).stay (fun c u hc r => gB c u r fun z => by
      rcases hc with hc | hc
      · rw [← hc, z, nC2] at q; cases q
      · rw [z, nC2] at hc; cases hc) (fun _ r => r) fun _ _ r => r
    have Io : Inv X pins σ H'' { s3 with heap := G, gens := s'.gens, drawn := s'.drawn, toks := s'.toks } := by
      refine I3.call (ch := fp) ⟨fun b o e n hb hc => ?_, fun b o e n hb hc => ?_, fun b o e n hc => ?_, fun b o e hc => ?_, fun b xs e => ?_, fun b o xs e => ?_, fun b ps e => ?_⟩ hokG ag fun b hb => ⟨(hfp b hb).2.2.2.1, (hfp b hb).2.1, (hfp b hb).2.2.2.2.1, (hfp b hb).2.2.2.2.2⟩
      · exact gB b o (ub.keep b o (un.keep b o e n hb hc) (un.free b o e n hc) hb) (old b o e)
      · obtain ⟨sl, q⟩ := un.slot b o e n hb hc
        obtain ⟨sl2, q2⟩ := ub.slot b _ q hb
        exact ⟨sl2, by rw [gF b hb]; exact q2⟩
      · have f := un.free b o e n hc
        obtain ⟨o', q⟩ := un.there b o e hc
        exact ub.free b o' q f
      · obtain ⟨o', q⟩ := un.there b o e hc
        by_cases hb : b ∈ frs X.stack
        · obtain ⟨sl, q2⟩ := ub.slot b _ q hb
          exact ⟨_, by rw [gF b hb]; exact q2⟩
        · obtain ⟨o2, q2⟩ := ub.there b _ q hb
          exact ⟨o2, gB b o2 q2 (old b o e)⟩
      · exact ub.tups b xs (un.tups b xs e)
      · exact ub.frzs b o xs (un.frzs b o xs e)
      · obtain ⟨m1, q1⟩ := un.tbls b ps e
        obtain ⟨m2, q2⟩ := ub.tbls b _ q1
        exact ⟨m1 ++ m2, by rw [q2, Array.append_assoc]⟩
    refine ⟨a, hide1 B ce.locals, _, pins, σ, H'', cls, d, rfl, Io, fun b o e hb => ?_, ?_, .inr (.inr (by rw [hs]; exact ⟨g1, f2, g2, g3⟩)), na, os.trans (J.os.trans rfl), ag, hW _ _ _ hE⟩
    · obtain ⟨e', h⟩ := og b o e
      rcases h with h | h
      · obtain ⟨o', q⟩ := Option.isSome_iff_exists.mp h
        have z := st b o' (hide1_of q).1
        rw [e'] at z; cases z
        exact q
      · exact absurd h hb
    · intro b o e nf
      obtain ⟨e', h⟩ := og b o e
      have bC : b ≠ ce.locals := fun z => by
        rcases h with h | h
        · obtain ⟨o', q⟩ := Option.isSome_iff_exists.mp h
          exact (hide1_of q).2 z
        · exact CF (by rw [← z]; exact h)
      obtain ⟨sl, k1⟩ := up1 b o e' nf
      exact up4 b _ ((sb.2 b bC).trans k1) nf |>.elim fun sl2 k2 => ⟨sl2, k2⟩
  first
    | exact wpAny_bind (wpAny_pure (wpAny_bind fin))
    | exact wpAny_bind fin
theorem ends_err {M : Model} {A : Around} {E : Value → Shared → Prop} {use : Option (Value → Sem Unit)} {Q : Value → Shared → Prop} {acc x : Value} {ce : Env} {s : Shared} (h : CompFails M A E ce x s) : compEnds M A E use Q acc ce (.error x) s := by
  cases use <;> exact h
theorem noted_ends {M : Model} {A : Around} {E : Value → Shared → Prop} {use : Option (Value → Sem Unit)} {Q : Value → Shared → Prop} {acc x : Value} {ce : Env} {s : Shared} (h : notedBy M A ce (fun e s1 => CompFails M A E ce e s1) x s) : notedBy M A ce (fun e s1 => compEnds M A E use Q acc ce (.error e) s1) x s := by
  have e : (fun e s1 => compEnds M A E use Q acc ce (.error e) s1) = fun e s1 => CompFails M A E ce e s1 := by cases use <;> rfl
  rw [e]
  exact h
theorem lcX_core {s : Shared} {σ : L2.St} {H : Hp} {Q : VK} {elt tg iter : Expr} {ifs : List Expr} {scope : Scope} {own : List (Str × Nat)} {pos pos' : Pos} {wi : TI} {g : TG} {tt : TT} {te : TE} {use : Option (Value → Sem Unit)} {Qf : Value → Shared → Prop}
    (hs : X.stack = X.env :: X.outer) (hf : X.env.frame = some X.env.locals) (tk : L2N.Takes X W) (hW : ∀ cls d σ H, Ec cls d H → W cls d σ H) (hc : X.calm = true) (hN : X.N.Nodup) (I : Inv X pins σ H s) (hi : PI X tg iter wi) (ok : BlkOk X.N X.env.scope scope own)
    (hg : ∀ (s : Shared) (H : Hp) (C : Addr) (cl : List (Str × Addr)) (fp : List Addr), PG (X.blk s H scope (compEnvC scope cl C X.env) fp) tg g) (ht : ∀ (s : Shared) (H : Hp) (C : Addr) (cl : List (Str × Addr)) (fp : List Addr), PTs (X.blk s H scope (compEnvC scope cl C X.env) fp) ifs tt)
    (he : ∀ (s : Shared) (H : Hp) (C : Addr) (cl : List (Str × Addr)) (fp : List Addr) (xe : Value → Shared → Prop), (∀ σ, PassesAt (L2N.CX X.prog X.w) (wish (X.blk s H scope (compEnvC scope cl C X.env) fp) xe) σ Ec) → PE (wish (X.blk s H scope (compEnvC scope cl C X.env) fp) xe) elt te)
    (hs' : ∀ x, foldedSetIterable iter X.env x = pure x) (h : tLc wi g tt te (own.map (·.2)) σ H Q)
    (hRR : ∀ D ce s' m H', Inv X pins σ H' s' → Q (.ref D) H' → s'.heap.Ns ce.locals m → FpOk X pins H' ce.locals → compEnds (model X.prog X.w) X.A X.xe use Qf (.ref D) ce (.ok .next) s') :
    wpAny (model X.prog X.w) X.A (comprehension (.ListComp elt [⟨tg, iter, ifs, 0⟩] scope pos) scope X.env pos' (newList []) false (eval iter X.env) use) Qf X.xe s := by
  have hfree : ∀ y ∈ scope.names, y.2 = .free → ∃ c, X.env.cells.lookup y.1 = some c := fun y hy e => I.ok.has _ (ok.free y hy e)
  refine comprehension_at (use := use) rfl hs' (closure_ok hfree) ok.kind (fun y hy e => by rw [ok.uniq y hy, e]) (thn (hi.run pins s σ H _ I h) fun xv s1 hx => thn hx fun itv s2 ⟨it, fp, tn, J, H2, e, I2, T, st2, f2, q⟩ => ?_)
  subst e
  refine wpAny_newObj_type (newEnv_comp ?_) (by show 0 ≤ sizeLine; decide)
  generalize hD : s2.heap.objs.size = D
  obtain ⟨Wt, ⟨m0, w0⟩, turn⟩ := q D (I2.hok.fresh (Nat.le_of_eq hD))
  generalize hs3 : ({ s2 with heap := s2.heap.push { cls := .type "list", data := .seq ([] : List Value).toArray } } : Shared) = s3
  have h3 : s3.heap = s2.heap.push { cls := .type "list", data := .seq ([] : List Value).toArray } := by rw [← hs3]
  have I3 : Inv X pins σ (upd H2 D (.lst [])) s3 := by
    rw [← hs3]
    exact I2.laid (t' := s2.toks) (fun b o e => Heap.get?_push_of_some _ e) (Nat.le_of_eq hD) ⟨Nat.zero_le _, [], 0, .nil, by rw [← hD]; exact Heap.get?_push_size _ rfl⟩
  have f3 : ∀ b ∈ fp, FpOk X pins (upd H2 D (.lst [])) b ∧ b < s3.heap.objs.size := fun b hb => by
    obtain ⟨o, e, _⟩ := T.obj _ _ st2 b hb
    have hlt := Heap.lt_size e
    refine ⟨⟨?_, (f2 b hb).2⟩, by rw [h3, Heap.size_push]; exact Nat.lt_succ_of_lt hlt⟩
    rw [upd_ne (by rw [← hD]; exact Nat.ne_of_lt hlt)]
    exact (f2 b hb).1
  have st3 : tn 0 s3.heap := T.keep _ _ _ st2 fun b _ o e => by rw [h3]; exact Heap.get?_push_of_some _ e
  have I4 := block_start I3 ok hN f3
  have pg := hg s3 (upd H2 D (.lst [])) s3.heap.objs.size (cellsFrom (s3.heap.objs.size + 1) scope.names (cloFrom X.env.cells scope.names [])) fp
  have pt := ht s3 (upd H2 D (.lst [])) s3.heap.objs.size (cellsFrom (s3.heap.objs.size + 1) scope.names (cloFrom X.env.cells scope.names [])) fp
  have pe := he s3 (upd H2 D (.lst [])) s3.heap.objs.size (cellsFrom (s3.heap.objs.size + 1) scope.names (cloFrom X.env.cells scope.names [])) fp
  show codeAny _ _ (.compStart (.ListComp elt [⟨tg, iter, ifs, 0⟩] scope pos) 0 (.ref it) (.ref D) (compEnvC scope (cellsFrom (s3.heap.objs.size + 1) scope.names (cloFrom X.env.cells scope.names [])) s3.heap.objs.size X.env))
    (compEnds (model X.prog X.w) X.A X.xe use Qf (.ref D) (compEnvC scope (cellsFrom (s3.heap.objs.size + 1) scope.names (cloFrom X.env.cells scope.names [])) s3.heap.objs.size X.env)) { s3 with heap := pushCells (s3.heap.push { cls := .type "dict", data := .dict #[] }) scope.names }
  generalize hce : compEnvC scope (cellsFrom (s3.heap.objs.size + 1) scope.names (cloFrom X.env.cells scope.names [])) s3.heap.objs.size X.env = ce at I4 pg pt pe ⊢
  have cL : ce.locals = s3.heap.objs.size := by subst hce; rfl
  have cF : ce.frame = X.env.frame := by subst hce; rfl
  generalize hH3 : upd H2 D (.lst []) = H3 at I3 I4 pg pt pe w0 f3
  have okB := I4.ok
  have pe := pe (xB (X.blk s3 H3 scope ce fp) Ec) fun σ pins' H' s e s' J c => ⟨pins', σ, H', s, inv_unwish okB J, c⟩
  generalize hs4 : ({ s3 with heap := pushCells (s3.heap.push { cls := .type "dict", data := .dict #[] }) scope.names } : Shared) = s4 at I4 ⊢
  have st4 : tn 0 s4.heap := T.keep _ _ _ st3 fun b _ o e => by rw [← hs4]; exact pushCells_keeps _ _ _ _ (Heap.get?_push_of_some _ e)
  have stat : ∀ {σ' : L2.St} {H' : Hp} {s' : Shared}, Inv (X.blk s3 H3 scope ce fp) [] σ' H' s' → (∀ b ∈ fp, H' b = none) → ∀ b ∈ fp, FpOk (X.blk s3 H3 scope ce fp) [] H' b := fun {σ' H' s'} I' hn b hb =>
    ⟨hn b hb, (I'.ok.exf b hb).1, I'.ok.exfs b hb, .inl hb, fun x c e => (I'.ok.exf b hb).2 x c e, fun p hp => absurd (show p ∈ ([] : List (Addr × Obj)) ++ [] from hp) (by simp)⟩
  have loop : codeAny (model X.prog X.w) X.A (.compLoop (.ListComp elt [⟨tg, iter, ifs, 0⟩] scope pos) 0 (.ref it) (.ref D) ce) (compEnds (model X.prog X.w) X.A X.xe use Qf (.ref D) ce) s4 := by
    refine compLoop_any (fun n s' => ∃ i H', Inv (X.blk s3 H3 scope ce fp) [] (wipe σ (own.map (·.2))) H' s' ∧ tn i s'.heap ∧ (∀ b ∈ fp, H' b = none) ∧ Wt i n H') ?_ m0 ⟨0, H3, I4, st4, fun b hb => (f3 b hb).1.1, w0⟩
    rintro n s5 ⟨i, H5, I5, st5, n5, w5⟩
    rcases turn i n H5 w5 with ⟨stop, qq⟩ | ⟨go, Nx, hNx, step⟩
    · refine thnF (T.done (X.blk s3 H3 scope ce fp) rfl rfl rfl hc i [] s5 _ H5 (fun _ _ => False) I5 (stat I5 n5) st5 stop) fun r s6 ⟨hr, I6⟩ => ?_
      subst hr
      have I7 : Inv X pins σ H5 s6 := I3.call' (ch := fp) I6.os I6.base I6.hok I6.bare fun b hb => ⟨(f3 b hb).1.2.2.2.1, (f3 b hb).1.2.1, (f3 b hb).1.2.2.2.2.1, (f3 b hb).1.2.2.2.2.2⟩
      have nC : H5 ce.locals = none := I6.free
      obtain ⟨m, hn, _⟩ := I6.loc
      exact hRR D ce s6 m H5 I7 qq hn (I3.fpOk (Nat.le_of_eq cL.symm) nC)
    · refine thnF (T.item (X.blk s3 H3 scope ce fp) rfl rfl rfl hc i [] s5 _ H5 (fun _ _ => False) I5 (stat I5 n5) st5 go) fun r s6 ⟨u, hr, h6⟩ => ?_
      subst hr
      refine thnF h6 fun _ s7 ⟨x, H7, I7, r7, y7, st7, n7⟩ => ?_
      refine thnF (pg.run _ s7 _ H7 x u _ (I7.pinned (stat I7 n7) (T.obj _ _ st7)) r7 (step x H7 y7)) fun _ s8 ⟨σ8, H8, I8, hw8, q8⟩ => ?_
      refine thnF (pt.run _ s8 σ8 H8 _ I8 q8) fun b s9 ⟨H9, I9, q9⟩ => ?_
      have fin : ∀ {s' : Shared} {H' : Hp}, Inv (X.blk s3 H3 scope ce fp) ([] ++ pinsAt fp s7.heap) σ8 H' s' → Nx H' → ∃ m, m < n ∧ ∃ i H', Inv (X.blk s3 H3 scope ce fp) [] (wipe σ (own.map (·.2))) H' s' ∧ tn i s'.heap ∧ (∀ b ∈ fp, H' b = none) ∧ Wt i m H' := fun {s' H'} I' nx => by
        obtain ⟨m', hm, w'⟩ := hNx H' nx
        have pin' : ∀ b ∈ fp, ∀ o, s7.heap.get? b = some o → s'.heap.get? b = some o ∧ H' b = none := fun b hb o e =>
          let z := I'.pin (b, o) (List.mem_append_right _ (List.mem_append_right _ (mem_pinsAt hb e)))
          ⟨z.1, z.2.1⟩
        refine ⟨m', hm, i + 1, H', (I'.unpinned (pins := [])).weak (by rw [← hw8, wipe_length]) (fun j v e => ?_), T.keep _ _ _ st7 fun b hb o e => (pin' b hb o e).1, fun b hb => ?_, w'⟩
        · rw [← hw8] at e
          exact (wipe_some e).1
        · obtain ⟨o, e, _⟩ := T.obj _ _ st7 b hb
          exact (pin' b hb o e).2
      cases b with
      | false =>
        simp only [Bool.false_eq_true, if_false] at q9 ⊢
        exact fin I9 q9
      | true =>
        simp only [if_true] at q9 ⊢
        refine wpAny_mono (pe.run _ s9 σ8 H9 _ (inv_wish _ I9) q9) (fun z s10 ⟨yv, H10, I10, r10, acc, hD10, hz10, nx⟩ => ?_) fun u s10 x => noted_ends (out_comp hs hf tk (fun cls d H e => hW cls d σ H e) I3 cF cL (fun b hb => (f3 b hb).1) x)
        exact app_ok (X := X.blk s3 H3 scope ce fp) (inv_unwish okB I10) hD10 hz10 r10 fun s11 I11 => fin I11 nx
  exact codeAny_compStart_list loop (T.self X.A 0 _ _ _ st4 loop)
end
section
variable {X : Cx} {Ec : XK} {W : WX} {elt tg iter : Expr} {ifs : List Expr} {scope : Scope} {own : List (Str × Nat)} {pos spos : Pos} {wi : TI} {g : TG} {tt : TT} {te : TE}
theorem pe_lcX (hs : X.stack = X.env :: X.outer) (hf : X.env.frame = some X.env.locals) (tk : L2N.Takes X W) (hW : ∀ cls d σ H, Ec cls d H → W cls d σ H) (hc : X.calm = true) (hN : X.N.Nodup) (hi : PI X tg iter wi) (ok : BlkOk X.N X.env.scope scope own)
    (hg : ∀ (s : Shared) (H : Hp) (C : Addr) (cl : List (Str × Addr)) (fp : List Addr), PG (X.blk s H scope (compEnvC scope cl C X.env) fp) tg g) (ht : ∀ (s : Shared) (H : Hp) (C : Addr) (cl : List (Str × Addr)) (fp : List Addr), PTs (X.blk s H scope (compEnvC scope cl C X.env) fp) ifs tt)
    (he : ∀ (s : Shared) (H : Hp) (C : Addr) (cl : List (Str × Addr)) (fp : List Addr) (xe : Value → Shared → Prop), (∀ σ, PassesAt (L2N.CX X.prog X.w) (wish (X.blk s H scope (compEnvC scope cl C X.env) fp) xe) σ Ec) → PE (wish (X.blk s H scope (compEnvC scope cl C X.env) fp) xe) elt te)
    (hs' : ∀ x, foldedSetIterable iter X.env x = pure x := by intro _; rfl) :
    PE X (.ListComp elt [⟨tg, iter, ifs, 0⟩] scope pos) (tLc wi g tt te (own.map (·.2))) := by
  refine ⟨fun pins s σ H Q I h => ?_⟩
  rw [eval_ListComp]
  refine lcX_core hs hf tk hW hc hN I hi ok hg ht he hs' h fun D ce s' m H' I' q hn f => ⟨m, hn, fun h'' sb => ?_⟩
  obtain ⟨f0, f1, f2, f3, f4, f5⟩ := f
  exact ⟨.ref D, H', I'.turned (t' := s'.toks) (fun b o hb e => (sb.2 b hb).trans e) f0 f1 f3 f4 f5, rfl, q⟩
theorem ps_setLcX {i : Nat} {y : Str} {py : Pos} (hs : X.stack = X.env :: X.outer) (hf : X.env.frame = some X.env.locals) (tk : L2N.Takes X W) (hW : ∀ cls d σ H, Ec cls d H → W cls d σ H) (hc : X.calm = true) (hN : X.N.Nodup) (hy : X.N[i]? = some y) (hyl : X.env.scope.names.lookup y = some .local)
    (hsw : swapsWith (.ListComp elt [⟨tg, iter, ifs, 0⟩] scope pos) (some (.Name y py)) spos.line X.env = pure true) (hi : PI X tg iter wi) (ok : BlkOk X.N X.env.scope scope own)
    (hg : ∀ (s : Shared) (H : Hp) (C : Addr) (cl : List (Str × Addr)) (fp : List Addr), PG (X.blk s H scope (compEnvC scope cl C X.env) fp) tg g) (ht : ∀ (s : Shared) (H : Hp) (C : Addr) (cl : List (Str × Addr)) (fp : List Addr), PTs (X.blk s H scope (compEnvC scope cl C X.env) fp) ifs tt)
    (he : ∀ (s : Shared) (H : Hp) (C : Addr) (cl : List (Str × Addr)) (fp : List Addr) (xe : Value → Shared → Prop), (∀ σ, PassesAt (L2N.CX X.prog X.w) (wish (X.blk s H scope (compEnvC scope cl C X.env) fp) xe) σ Ec) → PE (wish (X.blk s H scope (compEnvC scope cl C X.env) fp) xe) elt te)
    (hs' : ∀ x, foldedSetIterable iter X.env x = pure x := by intro _; rfl) :
    PS X (.Assign [.Name y py] (.ListComp elt [⟨tg, iter, ifs, 0⟩] scope pos) spos) (tAsg (tLc wi g tt te (own.map (·.2))) (gName i)) := by
  refine ⟨fun pins s σ H D I h => ?_⟩
  rw [exec_Assign_Name_used _ _ _ _ hsw]
  refine wpAny_bind (wpAny_standAt (wpAny_bind ?_))
  show wpAny _ X.A (do let _ ← comprehension (.ListComp elt [⟨tg, iter, ifs, 0⟩] scope pos) scope X.env (firstIterPos [⟨tg, iter, ifs, 0⟩] pos) (newList []) false (eval iter X.env) (some (assign (.Name y py) X.env))) _ _ s
  have h : tLc wi g tt te (own.map (·.2)) σ H (fun x H1 => gName i x σ H1 D.nx) := h
  refine wpAny_bind (thn (lcX_core (Qf := fun _ s' => SP X pins D .next s') hs hf tk hW hc hN I hi ok hg ht he hs' h fun L ce s' m H' I' q hn f => ?_) fun _ s' hq => wpAny_pure (wpAny_pure hq))
  show wpAny _ _ (assign (.Name y py) X.env (.ref L)) _ _ _
  refine wpAny_assign_Name (store_ok2 (v := V.ref L) I' hN hy (.inl hyl) rfl (fun s2 I2 ⟨a, sb, ha⟩ => ?_) (.inr hyl))
  obtain ⟨f0, f1, f2, f3, f4, f5⟩ := f
  have haC : ce.locals ≠ a := by
    rcases ha with z | z
    · rw [z]; exact f1
    · exact fun e => f4 y a z e.symm
  exact ⟨m, hn.sameBut sb haC, fun h3 sb3 => ⟨_, H', I2.turned (t' := s2.toks) (fun b o hb e => (sb3.2 b hb).trans e) f0 f1 f3 f4 f5, q⟩⟩
end
end Rd

/-! Tb: the layer's fourteenth part: tables of the module (dicts with text keys): in -/
namespace Rd
open PySem PySem.Spec PyProof.Rows L2
def tabB (es : List DictEntry) (ks : List Str) : Bool := es.all fun e => match e.key with
  | .str k _ => ks.contains k
  | _ => false
theorem nsIn_miss {K : PySem.W.Frag} {p : Addr} {c : Value} {d : Option Addr} {es : Array DictEntry} {n : Nat} {sl : Array (Option Value)} {ks : List Str} {z : Str} (lk : K.lookup p = some ⟨c, d, .dict es n, sl⟩) (h : tabB es.toList ks = true) (nz : z ∉ ks) : PySem.W.nsIn K p z = some none := by
  have key : ∀ e ∈ es.toList, e.key.isStr z = false ∧ e.refKey = false := fun e he => by
    have := List.all_eq_true.mp h e he
    cases hk : e.key with
    | str k t =>
      rw [hk] at this
      refine ⟨?_, by unfold DictEntry.refKey; rw [hk]⟩
      rw [Bool.eq_false_iff]
      intro q
      have q : k = z := by simpa [Value.isStr] using q
      rw [q] at this
      exact nz (by simpa using this)
    | _ => rw [hk] at this; cases this
  have f : es.toList.find? (·.key.isStr z) = none := List.find?_eq_none.mpr fun e he => by rw [(key e he).1]; decide
  have r : es.toList.any (·.refKey) = false := by
    rw [List.any_eq_false]
    exact fun e he => by rw [(key e he).2]; decide
  unfold PySem.W.nsIn
  rw [lk]
  simp only [f, r]
  rfl
structure TabC (K : PySem.W.Frag) (w : World) (p : Addr) (tab : List (Str × V)) : Prop where
  kd : ∀ z v, tab.lookup z = some v → KDct K w p z v
  miss : ∀ z, tab.lookup z = none → KMiss K w p z
  low : (p == sysModules) = false
theorem lookup_keys {tab : List (Str × V)} {z : Str} (h : tab.lookup z = none) : z ∉ tab.map (·.1) := by
  induction tab with
  | nil => simp
  | cons a l ih =>
    rw [List.lookup_cons] at h
    split at h
    · cases h
    · rename_i q
      intro m
      rcases List.mem_cons.mp m with m | m
      · rw [m] at q; simp at q
      · exact ih h m
theorem tab_of {K : PySem.W.Frag} {w : World} {p : Addr} {es : Array DictEntry} {n : Nat} {tab : List (Str × V)} {ks : List Str} (lk : K.lookup p = some ⟨.type "dict", none, .dict es n, #[]⟩) (kl : PySem.W.KeysLit w.params es.toList) (b : tabB es.toList ks = true) (ek : tab.map (·.1) = ks) (low : (p == sysModules) = false)
    (kd : ∀ z v, tab.lookup z = some v → KDct K w p z v) : TabC K w p tab :=
  ⟨kd, fun z hz => ⟨es, n, lk, kl, low, nsIn_miss lk b (by rw [← ek]; exact lookup_keys hz)⟩, low⟩
def rInTab (p : Addr) (tab : List (Str × V)) : R2 := fun x y H Q => ∃ z, x = .str z ∧ y = .ref p ∧ Q (.bl (tab.lookup z).isSome) H
theorem op_in_tab {X : Cx} {p : Addr} {tab : List (Str × V)} (h : TabC X.K X.w p tab) : OpR X (compareOp .In) (rInTab p tab) := by
  rintro pins s σ H x y v u Q I rx ry ⟨z, rfl, rfl, q⟩
  cases e : tab.lookup z with
  | some v0 =>
    obtain ⟨es, n, u0, hl, hk, hn, _⟩ := h.kd z v0 e
    rw [e] at q
    exact op_in_kd ⟨hl, hk, h.low⟩ pins s σ H _ _ _ _ Q I rx ry ⟨z, _, rfl, rfl, hn, q⟩
  | none =>
    obtain ⟨es, n, hl, hk, lo, hn⟩ := h.miss z e
    rw [e] at q
    exact op_in_kd ⟨hl, hk, lo⟩ pins s σ H _ _ _ _ Q I rx ry ⟨z, _, rfl, rfl, hn, q⟩
theorem rd_inTab {p : Addr} {tab : List (Str × V)} {z : Str} {H : Hp} {Q : VK} (q : Q (.bl (tab.lookup z).isSome) H) : rInTab p tab (.str z) (.ref p) H Q := ⟨z, rfl, rfl, q⟩
theorem rd_ixTab {p : Addr} {tab : List (Str × V)} {z : Str} {v : V} {H : Hp} {Q : VK} (e : tab.lookup z = some v) (q : Q v H) : rIxT p tab (.ref p) (.str z) H Q := ⟨z, v, rfl, rfl, e, q⟩
end Rd

/-! Ow: the layer's fifteenth part: len(o) by an own __len__, x != y by an own __eq__, cls() -/
namespace OwX
open PySem PySem.Spec PyProof.Rows
section
variable {prog : Program} {w : World} {A : Around} {E : Value → Shared → Prop} {s : Shared} {K : PySem.W.Frag} {x y C D f : Addr} {ox od : Obj} {odd : Option Obj}
theorem len_own {Q : Value → Shared → Prop} (X : K.In s.heap) (I : PySem.W.InstAt s.heap x ox C odd) (hs : PySem.W.findIn K (.ref C) "__len__" = some (some (.ref f))) (hf : PySem.W.isFn K (.ref f) = true)
    (h : wpAny (model prog w) A.in1 (call (.ref f) [.ref x]) (fun r s₁ => ∃ (n : Int) (u : Tok), r = Value.int n u ∧ 0 ≤ n ∧ n < 2 ^ 63 ∧ ∀ t tk, Q (.int n t) { s₁ with toks := tk }) E s) : wpAny (model prog w) A (call (.builtin "len") [.ref x]) Q E s := by
  refine Calls.call_function_entry kind_len plain_len entry_len (args_len1 _) ?_
  unfold Builtin.«len»
  refine wpAny_bind (m := oneArg "len" _) (wpAny_pure ?_)
  refine wpAny_bind (m := callSpecial? (.ref x) (Str.ofString "__len__")) (PySem.W.special_fn X I hs (beq_iff_eq.mp hf) (wpAny_mono h (fun r s' hr => ?_) fun _ _ z => z))
  obtain ⟨n, u, rfl, h0, h1, q⟩ := hr
  refine wpAny_bind (wpAny_holding (wpAny_pure ?_))
  refine wpAny_bind (wpAny_letGo ?_)
  show wpAny _ _ (if n < 0 then _ else _) _ _ _
  rw [if_neg (by omega)]
  show wpAny _ _ (if n ≥ 2 ^ 63 then _ else _) _ _ _
  rw [if_neg (by omega)]
  exact wpAny_bind (wpAny_mkInt (wpAny_pure ⟨_, rfl, q _ _⟩))
theorem ifBound_slot {M : Model} {T : String} {name : Str} {id : String} {args : List Value} {Q : Option Value → Shared → Prop} (S : Slot T name id) (X : K.In s.heap) (I : PySem.W.InstAt s.heap x ox C odd) (hs : PySem.W.findIn K (.ref C) name = some (some (.builtin id)))
    (h : wpAny M A (call (.builtin id) (.ref x :: args)) (fun v => Q (some v)) E s) : wpAny M A (callSpecialIfBound? (.ref x) name args) Q E s := by
  simp only [callSpecialIfBound?, bindSpecialIfBound?]
  refine wpAny_holding (wpAny_bind (wpAny_bind (wpAny_bind (I.type.here ((PySem.W.looks_findIn X hs).here ?_)))))
  refine wpAny_bind (wpAny_askSetting (wpAny_ite ?_))
  have fin : wpAny M A (call (.builtin id) ([.ref x] ++ args) >>= fun v => pure (some v)) Q E s := wpAny_bind (wpAny_mono h (fun v s' h' => wpAny_pure h') fun _ _ h' => h')
  rw [S.bind]
  split
  · exact wpAny_bind (wpAny_pure (wpAny_pure (by exact fin)))
  · exact wpAny_tryCatch (wpAny_bind (wpAny_pure (wpAny_pure (by exact fin))))
/-- x != y, both of the class C, which has an own __eq__ and no own __ne__ -/
theorem ne_own {Q : Value → Shared → Prop} (hu : A.units + 1 < cLine) (X : K.In s.heap) (I : PySem.W.InstAt s.heap x ox C odd) (hy : PySem.W.Looks (model prog w) s.heap (typeOf (.ref y)) (.ref C))
    (hn : PySem.W.findIn K (.ref C) "__ne__" = some (some (.builtin "object.__ne__"))) (ho : PySem.W.subIn K (.ref C) (.type "object") = some true) (hs : PySem.W.findIn K (.ref C) "__eq__" = some (some (.ref f))) (hf : PySem.W.isFn K (.ref f) = true)
    (h : wpAny (model prog w) A.in1 (call (.ref f) [.ref x, .ref y]) (fun v s' => ∃ b, v = .bool b ∧ Q (.bool (!b)) s') E s) : wpAny (model prog w) A (richCompare .NotEq (.ref x) (.ref y)) Q E s := by
  have body : wpAny (model prog w) A.in1 (Builtin.«object.__ne__» ⟨[.ref x, .ref y], []⟩) (fun fin s' => ∃ v, fin = .done (.ret v) ∧ v ≠ .notImplemented ∧ Q v s') E s := by
    have fin : ∀ (b : Bool) (s' : Shared), Q (.bool (!b)) s' → ∃ v, Fin.done (.ret (.bool (!b))) = Fin.done (.ret v) ∧ v ≠ .notImplemented ∧ Q v s' := fun b s' q => ⟨_, rfl, (fun z => by cases z), q⟩
    have mid : wpAny (model prog w) A.in1 (callSpecialIfBound? (.ref x) "__eq__" [.ref y]) (fun r s' => ∃ b, r = some (.bool b) ∧ Q (.bool (!b)) s') E s :=
      PySem.W.ifBound_K X I hs hf (wpAny_mono h (fun r s' ⟨b, e, hq⟩ => ⟨b, by rw [e], hq⟩) fun _ _ e => e)
    unfold Builtin.«object.__ne__»
    refine wpAny_bind (m := slotArgs "__ne__" 1 _) (wpAny_pure ?_)
    show wpAny _ _ (cRoomFor "comparison" [.ref x, .ref y] >>= _) _ _ _
    refine wpAny_bind (wpAny_cRoomFor (by show A.units + 1 < cLine; omega) ?_)
    refine wpAny_bind (wpAny_mono mid (fun r s' hr => ?_) fun _ _ e => e)
    obtain ⟨b, rfl, hq⟩ := hr
    show wpAny _ _ (truthy (.bool b) >>= _) _ _ _
    exact wpAny_bind (wpAny_truthy_bool (wpAny_pure (fin b _ hq)))
  have one : wpAny (model prog w) A (tryCompare (.ref x) "__ne__" (.ref y)) (fun r s' => ∃ v, r = some v ∧ Q v s') E s := by
    unfold tryCompare
    refine wpAny_bind (ifBound_slot F.cmp_object.ne X I hn ?_)
    refine wpAny_call (codeAny_call_builtin F.cmp_object.ne.plain F.cmpEntry_ne (PySem.W.check_slot F.cmpKind_ne F.cmpSplit_ne (I.type.andThen (PySem.W.looks_subIn X ho)) (F.cmpArgs_ne _ _) (wpAny_mono body (fun fin s' z => ?_) fun _ _ e => e)))
    obtain ⟨v, rfl, nv, hq⟩ := z
    show wpAny _ _ _ _ _ _
    cases v <;> first | exact absurd rfl nv | exact wpAny_pure ⟨_, rfl, hq⟩
  unfold richCompare
  simp only [oneThing_ref]
  refine wpAny_holding (wpAny_bind (wpAny_cRoomFor (by omega) ?_))
  rw [cmpInfo_NotEq]
  dsimp only
  refine wpAny_bind (I.type.here (wpAny_bind (hy.here ?_)))
  rw [show (Value.ref C != Value.ref C) = false from by simp]
  simp only [Bool.false_eq_true, if_false]
  refine wpAny_bind (wpAny_pure ?_)
  simp only [Bool.false_eq_true, if_false]
  refine wpAny_bind (wpAny_mono one (fun r s' z => ?_) fun _ _ e => e)
  obtain ⟨v, rfl, hq⟩ := z
  exact wpAny_pure hq
end
end OwX
namespace Rd
open PySem PySem.Spec PyProof.Rows L2
def rLenO (C : Addr) (sp : Sp) (E : XK) : List V → Hp → VK → Prop := fun xs H Q => ∃ a dx fs, xs = [.ref a] ∧ H a = some (.ins C dx fs) ∧ sp [.ref a] H (fun z H' => ∃ n : Int, z = .int n ∧ 0 ≤ n ∧ n < 1000000000 ∧ Q (.int n) H') E
def rNeO (C : Addr) (sp : Sp) (E : XK) : R2 := fun x y H Q => ∃ a dx fs b dy gs, x = .ref a ∧ y = .ref b ∧ H a = some (.ins C dx fs) ∧ H b = some (.ins C dy gs) ∧ sp [.ref a, .ref b] H (fun z H' => ∃ c, z = .bl c ∧ Q (.bl (!c)) H') E
structure NeC (K : PySem.W.Frag) (C : Addr) : Prop where
  ne : PySem.W.findIn K (.ref C) "__ne__" = some (some (.builtin "object.__ne__"))
  ob : PySem.W.subIn K (.ref C) (.type "object") = some true
section
variable {X : Cx} {CX : CXT} {k : Nat} {C : Addr} {ps : List Str} {sp : Sp} {E : XK}
theorem call_lenO (c : CalM X.prog X.w X.K X.mg X.base CX C "__len__" k ["self"] sp) (hr : Room (k + 1) X.A) (hx : Passes CX X E) : CallR X (.builtin "len") (rLenO C sp E) := by
  intro pins s σ H xs us Q I r h
  obtain ⟨a, dx, fs, rfl, ea, q⟩ := h
  obtain ⟨u, rfl, ru⟩ := r.one
  cases (show u = Value.ref a from ru)
  obtain ⟨cl, f, fd, F, hm, hb⟩ := c
  obtain ⟨mA, O, _, _, _, _⟩ := ins_get I.hok ea
  obtain ⟨od, J, _⟩ := O.look
  have hr2 : Room k X.A.in1 := Room.in1 hr
  refine OwX.len_own I.kIn J hm.at_ hm.fn (wpAny_mono (run_fnA (us := [.ref a]) (vs := [.ref a]) F hr2 I.env0.in1 hb hx I (.cons rfl .nil) q) (fun w s' z => ?_) fun _ _ z => z)
  obtain ⟨z', H', I', rz, n, en, n0, n1, qz⟩ := z
  subst en
  obtain ⟨t, e⟩ := (show ∃ t, w = Value.int n t from rz)
  exact ⟨n, t, e, n0, by omega, fun t2 tk => ⟨.int n, H', I'.tok tk, ⟨t2, rfl⟩, qz⟩⟩
theorem op_neO (hn : NeC X.K C) (c : CalM X.prog X.w X.K X.mg X.base CX C "__eq__" k ps sp) (hr : Room (k + 1) X.A) (hx : Passes CX X E) : OpR X (compareOp .NotEq) (rNeO C sp E) := by
  intro pins s σ H x y v u Q I rx ry h
  obtain ⟨a, dx, fs, b, dy, gs, rfl, rfl, ea, eb, q⟩ := h
  cases (show v = Value.ref a from rx)
  cases (show u = Value.ref b from ry)
  obtain ⟨cl, f, fd, F, hm, hb⟩ := c
  obtain ⟨mA, O, _, _, _, _⟩ := ins_get I.hok ea
  obtain ⟨od, J, _⟩ := O.look
  obtain ⟨mB, O', _, _, _, _⟩ := ins_get I.hok eb
  obtain ⟨od', J', _⟩ := O'.look
  have hr2 : Room k X.A.in1 := Room.in1 hr
  have hu := hr.units0
  refine PySem.W.cmp_ofNotEq (OwX.ne_own (by have := hr.units; omega) I.kIn J J'.type hn.ne hn.ob hm.at_ hm.fn (wpAny_mono (run_fnA (us := [.ref a, .ref b]) (vs := [.ref a, .ref b]) F hr2 I.env0.in1 hb hx I (.cons rfl (.cons rfl .nil)) q) (fun w s' z => ?_) fun _ _ z => z))
  obtain ⟨z', H', I', rz, c, ec, qz⟩ := z
  subst ec
  exact ⟨c, rz, .bl (!c), H', I', rfl, qz⟩
end
section
variable {X : Cx} {CX : CXT} {k : Nat} {C : Addr} {x : Str} {ps : List Str} {sp : Sp} {E : L2.St → XK} {p pos : Pos}
theorem pe_calKv0 {y : Str} {tx : TE} (c : CalK X.prog X.w X.K X.mg X.base CX y C k ps sp) (hf : PE X (.Name x p) tx) (hr : Room (k + 1) X.A) (hx : ∀ σ, PassesAt CX X σ (E σ)) : PE X (.Call (.Name x p) [] [] pos) (tMakeV C sp E tx tNil) := by
  obtain ⟨g, f, fd, F, M, hb⟩ := c
  refine ⟨fun pins s σ H Q I h => wpAny_Call_Name_kw (thn (hf.run pins s σ H _ I h) fun u s0 ⟨v, H0, I0, r0, ev, q0⟩ => ?_)⟩
  subst ev
  obtain rfl : u = Value.ref C := r0
  exact PySem.W.callWith_K0 (first := []) I0.kIn M.kp (run_mkS (us := []) (vs := []) M F hr hb (hx σ) I0 .nil q0)
end
end Rd
/-! ### str.replace of written texts, in a display behind a text with a written end (a token is out then) -/
namespace Rd
open PySem PySem.Spec PyProof.Rows L2
theorem pet_of {X : Cx} {e : Expr} {t : TE} (h : PE X e t) : PET X e t := fun pins s σ H Q _ I q => h.run pins s σ H Q I q
theorem pa_strT {X : Cx} {op : Operator} {r : R2} {a : Expr} {es : List Expr} {c : Str} {j : Nat} {cp pos : Pos} {ta : TE} {t : TA} (ho : OpR X (binaryOp op) r) (ha : PE X a ta) (hr : PAT X es t)
    (hs : starEach (.BinOp a op (.Constant (.str c) j cp) pos :: es) X.env = (false, eval (.BinOp a op (.Constant (.str c) j cp) pos) X.env) :: starEach es X.env := by rfl) :
    PA X (.BinOp a op (.Constant (.str c) j cp) pos :: es) (tCons (tOp r ta (tC (.str c))) t) := by
  refine ⟨fun pos' pins s σ H Q I h => ?_⟩
  rw [hs]
  show wpAny _ _ (spliced ((false, eval (.BinOp a op (.Constant (.str c) j cp) pos) X.env) :: backTo pos' (starEach es X.env))) _ _ s
  refine Calls.spliced_cons (wpAny_BinOp (thn (ha.run pins s σ H _ I h) fun v s1 ⟨x, H1, I1, r1, q1⟩ => Calls.Constant_str ?_))
  refine wpAny_mono (PySem.wpAny_toks (ho pins { s1 with toks := s1.toks + 1 } σ H1 x (.str c) v (.str c s1.toks) _ (I1.tok _) r1 ⟨_, rfl⟩ q1)) (fun w s2 q => ?_) fun _ _ z => z.2
  obtain ⟨hk, y, H2, I2, r2, q2⟩ := q
  have hk : s1.toks + 1 ≤ s2.toks := hk
  exact thn (hr pos' pins s2 σ H2 _ (by omega) I2 q2) fun us s3 ⟨xs, H3, I3, r3, q3⟩ => ⟨y :: xs, H3, I3, .cons r2 r3, q3⟩
theorem rd_replC {σ : L2.St} {H : Hp} {Q : VK} {to : TE} {y z : Str} (h : to σ H fun v H1 => ∃ x, v = .str x ∧ x.length + (x.length + 1) * z.length ≤ 16777216 ∧ Q (.str (Txt.replace x y z)) H1) : CwR.tReplC to y z σ H Q := h
theorem rd_lenO {C : Addr} {sp : Sp} {E : XK} {H : Hp} {Q : VK} {a dx : Addr} {fs : List (Str × V)} (ea : H a = some (.ins C dx fs)) (q : sp [.ref a] H (fun z H' => ∃ n : Int, z = .int n ∧ 0 ≤ n ∧ n < 1000000000 ∧ Q (.int n) H') E) : rLenO C sp E [.ref a] H Q := ⟨a, dx, fs, rfl, ea, q⟩
end Rd

/-! Os: the layer's sixteenth part: own special methods: x in o, o[i], o op= x -/
namespace Rd
open PySem PySem.Spec PyProof.Rows L2
theorem fnIn_of {K : PySem.W.Frag} {x qual : Str} {st : Stmt} {f : Addr} {fd : FuncData} (F : Fun K x qual st f fd) : PySem.W.fnIn K f = true := by
  obtain ⟨oc, od, kV, doc, pm, an, cdv, ct, osl, rfl, lk, hcd⟩ := F.ex
  unfold PySem.W.fnIn
  rw [lk]
/-- a method as its callers know it, the function's object known too -/
structure CalG (P : Program) (w : World) (K : PySem.W.Frag) (mg : Str → Option Value) (base : Heap) (CX : CXT) (C : Addr) (m : Str) (k : Nat) (ps : List Str) (sp : Sp) : Prop where
  cl : Cls K C
  ex : ∃ (f : Addr) (fd : FuncData), FnOk P w K mg base CX k f fd ps sp ∧ Meth K C m f ∧ Binds K fd ps [] ∧ PySem.W.fnIn K f = true
def rInO (C : Addr) (sp : Sp) (E : XK) : R2 := fun x y H Q => ∃ a dx fs, y = .ref a ∧ H a = some (.ins C dx fs) ∧ sp [.ref a, x] H (fun z H' => ∃ b, z = .bl b ∧ Q (.bl b) H') E
def rNotInO (C : Addr) (sp : Sp) (E : XK) : R2 := fun x y H Q => ∃ a dx fs, y = .ref a ∧ H a = some (.ins C dx fs) ∧ sp [.ref a, x] H (fun z H' => ∃ b, z = .bl b ∧ Q (.bl (!b)) H') E
def tIxO (C : Addr) (sp : Sp) (E : L2.St → XK) (ta tb : TE) : TE := fun σ H Q => ta σ H fun x H1 => tb σ H1 fun y H2 => ∃ a dx fs, x = .ref a ∧ H2 a = some (.ins C dx fs) ∧ sp [.ref a, y] H2 Q (E σ)
/-- name op= e by an own method -/
def tAugO (C : Addr) (sp : Sp) (E : L2.St → XK) (i : Nat) (te : TE) : TS := fun D σ H => ∃ x, σ[i]? = some (some x) ∧ te σ H fun y H1 => ∃ a dx fs, x = .ref a ∧ H1 a = some (.ins C dx fs) ∧ sp [.ref a, y] H1 (fun z H2 => D.nx (σ.set i (some z)) H2) (E σ)
section
variable {X : Cx} {CX : CXT} {k : Nat} {C : Addr} {ps : List Str} {sp : Sp}
theorem op_inO {E : XK} (c : CalM X.prog X.w X.K X.mg X.base CX C "__contains__" k ps sp) (hr : Room k X.A) (hx : Passes CX X E) : OpR X (compareOp .In) (rInO C sp E) := by
  intro pins s σ H x y v u Q I rx ry h
  obtain ⟨a, dx, fs, rfl, ea, q⟩ := h
  cases (show u = Value.ref a from ry)
  obtain ⟨cl, f, fd, F, hm, hb⟩ := c
  obtain ⟨mA, O, _, _, _, _⟩ := ins_get I.hok ea
  obtain ⟨od, J, _⟩ := O.look
  obtain ⟨m, hF⟩ := I.fr
  refine PySem.W.in_K hF I.ok.mod.kin J hm.at_ hm.fn (wpAny_mono (run_fnS (E := fun _ => E) (us := [.ref a, v]) (vs := [.ref a, x]) F hr hb (fun pins => hx pins σ) I (.cons rfl (.cons rx .nil)) q) (fun w s' z => ?_) fun _ _ x => x)
  obtain ⟨z', H', I', rz, b, eb, qz⟩ := z
  subst eb
  cases (show w = Value.bool b from rz)
  exact wpAny_truthy_bool ⟨.bl b, H', I', rfl, qz⟩
theorem op_notInO {E : XK} (c : CalM X.prog X.w X.K X.mg X.base CX C "__contains__" k ps sp) (hr : Room k X.A) (hx : Passes CX X E) : OpR X (compareOp .NotIn) (rNotInO C sp E) := by
  intro pins s σ H x y v u Q I rx ry h
  obtain ⟨a, dx, fs, rfl, ea, q⟩ := h
  cases (show u = Value.ref a from ry)
  obtain ⟨cl, f, fd, F, hm, hb⟩ := c
  obtain ⟨mA, O, _, _, _, _⟩ := ins_get I.hok ea
  obtain ⟨od, J, _⟩ := O.look
  obtain ⟨m, hF⟩ := I.fr
  refine PySem.W.notIn_K hF I.ok.mod.kin J hm.at_ hm.fn (wpAny_mono (run_fnS (E := fun _ => E) (us := [.ref a, v]) (vs := [.ref a, x]) F hr hb (fun pins => hx pins σ) I (.cons rfl (.cons rx .nil)) q) (fun w s' z => ?_) fun _ _ x => x)
  obtain ⟨z', H', I', rz, b, eb, qz⟩ := z
  subst eb
  cases (show w = Value.bool b from rz)
  exact wpAny_truthy_bool ⟨.bl (!b), H', I', rfl, qz⟩
theorem run_in1S {f : Addr} {fd : FuncData} {pins : List (Addr × Obj)} {σ : L2.St} {H : Hp} {s : Shared} {Q : VK} {us : List Value} {vs : List V} {E : L2.St → XK} (F : FnOk X.prog X.w X.K X.mg X.base CX k f fd ps sp) (hr : Room (k + 1) X.A) (hb : Binds X.K fd ps []) (hx : PassesAt CX X σ (E σ)) (I : Inv X pins σ H s) (r : Vals vs us)
    (h : sp vs H Q (E σ)) : wpAny (model X.prog X.w) X.A.in1 (call (.ref f) us) (EP X pins σ Q) X.xe s := by
  have hl : us.length = ps.length := by rw [← F.len _ _ _ _ h, r.length]
  have b := hb s us I.kIn (by rw [List.append_nil]; exact hl)
  rw [List.append_nil] at b
  have e0 := I.env0.in1
  refine wpAny_call (codeAny_mono (F.run X.A.in1 X.stack s H ⟨us, []⟩ us vs Q (E σ) (Room.in1 hr) e0 b r h) fun r s' hq => ?_)
  cases r with
  | error e => exact hx _ H s e s' I hq
  | ok fl =>
    cases fl with
    | ret u => exact I.after hq
    | next => exact False.elim hq
    | brk => exact False.elim hq
    | cont => exact False.elim hq
theorem pe_ixO {E : L2.St → XK} {a b : Expr} {ta tb : TE} {pos : Pos} (c : CalG X.prog X.w X.K X.mg X.base CX C "__getitem__" k ps sp) (hr : Room (k + 1) X.A) (hx : ∀ σ, PassesAt CX X σ (E σ)) (ha : PE X a ta) (hb : PE X b tb)
    (hsl : ∀ (x : Addr) (i : Value), subscripted b true (.ref x) i = runValue (.builtin "lifetime.subscript" ⟨[.ref x, i], []⟩) := by intro _ _; with_unfolding_all rfl) : PE X (.Subscript a b pos) (tIxO C sp E ta tb) := by
  refine ⟨fun pins s σ H Q I h => ?_⟩
  refine Subscript_ (binT ha hb I (R := fun x y H2 => ∃ a dx fs, x = .ref a ∧ H2 a = some (.ins C dx fs) ∧ sp [.ref a, y] H2 Q (E σ)) h fun v u s2 x y H2 I2 rx ry ⟨a, dx, fs, ex, ea, q⟩ => ?_)
  subst ex
  cases (show v = Value.ref a from rx)
  obtain ⟨cl, f, fd, F, hm, hbi, hfi⟩ := c
  obtain ⟨mA, O, _, _, _, _⟩ := ins_get I2.hok ea
  obtain ⟨od, J, _⟩ := O.look
  obtain ⟨m, hF⟩ := I2.fr
  exact PySem.W.sub_K hF I2.ok.mod.kin J hm.at_ hfi hm.fn (run_in1S (us := [.ref a, u]) (vs := [.ref a, y]) F hr hbi (hx σ) I2 (.cons rfl (.cons ry .nil)) q) (hsl _ _)
theorem ps_augO {E : L2.St → XK} {op : Operator} {d : Str} {i : Nat} {x : Str} {e : Expr} {te : TE} {pos pos' : Pos} (hd : d = PySem.dunderI op.info.2) (hs : PySem.W.selfFirst X.K C = true) (c : CalM X.prog X.w X.K X.mg X.base CX C d k ps sp) (hr : Room k X.A) (hxp : ∀ σ, PassesAt CX X σ (E σ))
    (hN : X.N.Nodup) (hi : X.N[i]? = some x) (hx : Loc X.env.scope x) (he : PE X e te) (hf : X.fn x = true ∨ X.env.scope.names.lookup x = some .local := by first | exact .inl rfl | exact .inr rfl | assumption) :
    PS X (.AugAssign (.Name x pos') op e pos) (tAugO C sp E i te) := by
  refine ⟨fun pins s σ H D I h => ?_⟩
  obtain ⟨v, e1, h⟩ := h
  obtain ⟨m, hn, hl⟩ := I.loc
  obtain ⟨u, r, l⟩ := hl i x v hi e1 (hx.elim .inl fun k => .inr (.inl k))
  refine wpAny_AugAssign_Name ?_
  have go : wpAny (model X.prog X.w) X.A (eval e X.env) (fun w s₂ => wpAny (model X.prog X.w) X.A (inplaceOp op u w) (fun r s₃ => wpAny (model X.prog X.w) X.A (storeName X.env x r) (fun _ => SP X pins D .next) X.xe s₃) X.xe s₂) X.xe s := by
    refine thn (he.run pins s σ H _ I h) fun w s1 ⟨y, H1, I1, r1, a, dx, fs, ev, ea, q1⟩ => ?_
    subst ev
    cases (show u = Value.ref a from r)
    obtain ⟨cl, f, fd, F, hm, hb⟩ := c
    obtain ⟨mA, O, _, _, _, _⟩ := ins_get I1.hok ea
    obtain ⟨od, J, _⟩ := O.look
    obtain ⟨m1, hF⟩ := I1.fr
    refine PySem.W.ksp_inplace hF I1.ok.mod.kin J hs (by rw [← hd]; exact hm.at_) hm.fn ?_
    refine wpAny_mono (run_fnS (us := [.ref a, w]) (vs := [.ref a, y]) F hr hb (hxp σ) I1 (.cons rfl (.cons r1 .nil)) q1) (fun z s2 hz => ?_) fun _ _ x => x
    obtain ⟨zv, H2, I2, r2, q2⟩ := hz
    exact SlX.cmpback r2 (store_ok I2 hN hi hx r2 (fun s3 I3 => ⟨_, H2, I3, q2⟩) hf)
  rcases l with ⟨hk, hm⟩ | ⟨hk, c', hc, hcell⟩
  · exact wpAny_loadName_local I.ok.kind hk hn hm go
  · rcases hk with hk | hk
    · exact wpAny_loadName_cell I.ok.kind hk hc hcell go
    · exact hx.elim (fun k => by rw [show X.env.scope.names.lookup x = some .free from hk] at k; cases k) fun k => by rw [show X.env.scope.names.lookup x = some .free from hk] at k; cases k
end
section
variable {σ : L2.St} {H : Hp} {Q : VK} {C a dx : Addr} {sp : Sp} {E : XK} {fs : List (Str × V)} {x : V}
theorem rd_inO (ea : H a = some (.ins C dx fs)) (q : sp [.ref a, x] H (fun z H' => ∃ b, z = .bl b ∧ Q (.bl b) H') E) : rInO C sp E x (.ref a) H Q := ⟨a, dx, fs, rfl, ea, q⟩
theorem rd_notInO (ea : H a = some (.ins C dx fs)) (q : sp [.ref a, x] H (fun z H' => ∃ b, z = .bl b ∧ Q (.bl (!b)) H') E) : rNotInO C sp E x (.ref a) H Q := ⟨a, dx, fs, rfl, ea, q⟩
theorem rd_ixOt {F : L2.St → XK} {ta tb : TE} (h : ta σ H fun x H1 => tb σ H1 fun y H2 => ∃ a dx fs, x = .ref a ∧ H2 a = some (.ins C dx fs) ∧ sp [.ref a, y] H2 Q (F σ)) : tIxO C sp F ta tb σ H Q := h
end
end Rd

/-! It: the layer's seventeenth part: iter(xs), list(o) by an own __iter__ that gives a list's iterator -/
namespace ItR
open PySem PySem.Spec PyProof.Rows L2
section
variable {prog : Program} {w : World} {A : Around} {E : Value → Shared → Prop} {s : Shared} {K : PySem.W.Frag} {x C f : Addr} {ox : Obj} {odd : Option Obj}
theorem hint_own {Q : Bool → Shared → Prop} (X : K.In s.heap) (I : PySem.W.InstAt s.heap x ox C odd) (hs : PySem.W.findIn K (.ref C) "__len__" = some (some (.ref f))) (hf : PySem.W.isFn K (.ref f) = true)
    (h : wpAny (model prog w) A.in1 (call (.ref f) [.ref x]) (fun r s₁ => ∃ (n : Int) (u : Tok), r = Value.int n u ∧ 0 ≤ n ∧ n < 1000000 ∧ ∀ tk, Q (n != 0) { s₁ with toks := tk }) (fun _ _ => False) s) :
    wpAny (model prog w) A (Builtin.List.listLengthHint (.ref x)) Q E s := by
  have hl : wpAny (model prog w) A (call (.builtin "len") [.ref x]) (fun r s₂ => ∃ (n : Int) (u : Tok), r = .int n u ∧ 0 ≤ n ∧ n < 1000000 ∧ Q (n != 0) s₂) (fun _ _ => False) s :=
    OwX.len_own X I hs hf (wpAny_mono h (fun r s' ⟨n, u, e, h0, h1, q⟩ => ⟨n, u, e, h0, by omega, fun t tk => ⟨n, t, rfl, h0, h1, q tk⟩⟩) fun e s' he => he)
  unfold Builtin.List.listLengthHint
  refine wpAny_bind (wpAny_bind (I.type.here ((PySem.W.looks_findIn X hs).here ?_)))
  refine PySem.W.KFB.if_not rfl ?_
  refine PySem.W.KFB.if_so rfl ?_
  refine wpAny_bind (wpAny_rule ?_)
  refine wpAny_bind (wpAny_attempt (wpAny_mono hl (fun r s' hr => ?_) fun e s' he => he.elim))
  obtain ⟨n, u, rfl, h0, h1, q⟩ := hr
  show wpAny _ _ (asInt? (.int n u) >>= _) _ _ _
  refine wpAny_bind (m := asInt? (.int n u)) (wpAny_of_eq (a := some n) (by rfl) ?_)
  have e : Builtin.List.listTooLong n.toNat = false := notLongL (by rw [sizeLine_eq]; omega)
  show wpAny _ _ (if Builtin.List.listTooLong n.toNat = true then _ else _) _ _ _
  rw [e]
  exact wpAny_pure q
theorem pn_item {it l : Addr} {i : Nat} {items : Array Value} {x : Value} {Q : Option Value → Shared → Prop} (ho : s.heap.get? it = some (GNX.itObj l i)) (hl : s.heap.IsList l items) (hx : items[i]? = some x)
    (hQ : ∀ h', h'.get? it = some (GNX.itObj l (i + 1)) → Heap.SameBut it s.heap h' → Q (some x) { s with heap := h' }) : wpAny (model prog w) A (pyNext (.ref it)) Q E s := by
  have hT : s.TypeIs (.ref it) "list_iterator" := ⟨_, ho, rfl⟩
  unfold pyNext
  refine wpAny_bind (wpAny_attempt (wpAny_callSpecial?_slot (name := Str.ofString "__next__") hT slot_listiter_next (wpAny_call_entry slot_listiter_next hT entry_listiter_next ?_ (args_listiter_next _))))
  refine wpAny_mono (GNX.next_item (Q := fun v s' => Q (some v) s') ho hl hx hQ) (fun fin s' hq => ?_) fun _ _ z => z
  obtain ⟨v, e, q⟩ := hq
  exact ⟨v, e, wpAny_pure q⟩
theorem pn_end {it l : Addr} {i : Nat} {items : Array Value} {Q : Option Value → Shared → Prop} (hh : A.handled = none) (ho : s.heap.get? it = some (GNX.itObj l i)) (hl : s.heap.IsList l items) (hx : items[i]? = none)
    (hQ : ∀ h', h'.get? it = some (GNX.itEnd i) → Heap.ExtBut it s.heap h' → Q none { s with heap := h' }) : wpAny (model prog w) A (pyNext (.ref it)) Q E s := by
  have hT : s.TypeIs (.ref it) "list_iterator" := ⟨_, ho, rfl⟩
  unfold pyNext
  refine wpAny_bind (wpAny_attempt (wpAny_callSpecial?_slot (name := Str.ofString "__next__") hT slot_listiter_next (wpAny_call_entry slot_listiter_next hT entry_listiter_next ?_ (args_listiter_next _))))
  refine wpAny_mono (GNX.next_end (A := A) (Q := fun _ _ => False) (E := fun e s' => ∃ h', s' = { s with heap := h' } ∧ (∃ ee vs, e = .ref ee ∧ h'.get? ee = some { cls := .type "StopIteration", data := .fields vs }) ∧ h'.get? it = some (GNX.itEnd i) ∧ Heap.ExtBut it s.heap h') hh ho hl hx (fun h1 h' e vs e1 sb k ne he' hv => ⟨h', rfl, ⟨e, vs, rfl, he'⟩, k _ _ e1, fun b o hb eo => k b o ((sb.2 b hb).trans eo)⟩)) (fun fin s' hq => ?_) fun e s' hq => ?_
  · obtain ⟨v, e, q⟩ := hq
    exact q.elim
  · obtain ⟨h', rfl, ⟨ee, vs, rfl, he'⟩, e1, eb⟩ := hq
    refine wpAny_bind (wpAny_isInstance (T := "StopIteration") (b := true) ⟨_, he', rfl⟩ isSubtype_stop ?_)
    exact wpAny_pure (hQ h' e1 eb)
end
end ItR
namespace Rd
open PySem PySem.Spec PyProof.Rows L2
theorem sqLU {K : PySem.W.Frag} {G : Hp} {l q : Addr} {o : HO} {zs : List V} (h : SqL K G l zs) (hq : G q = none) : SqL K (upd G q o) l zs := by
  rcases h with (h | ⟨o', h⟩) | h
  · exact .inl (.inl (by rw [upd_ne (ne_of_none h hq)]; exact h))
  · exact .inl (.inr ⟨o', by rw [upd_ne (ne_of_none h hq)]; exact h⟩)
  · exact .inr h
theorem updComm {H : Hp} {a b : Addr} {o u : HO} (h : a ≠ b) : upd (upd H a o) b u = upd (upd H b u) a o := by
  funext c
  by_cases hb : c = b
  · rw [hb, upd_same, upd_ne (Ne.symm h), upd_same]
  · rw [upd_ne hb]
    by_cases ha : c = a
    · rw [ha, upd_same, upd_same]
    · rw [upd_ne ha, upd_ne ha, upd_ne hb]
section
variable {X : Cx} {pins : List (Addr × Obj)} {σ : L2.St} {A1 : Around} {l it q : Addr} {zs : List V}
theorem it_loop {Rs : Result → Shared → Prop} {G0 : Hp} (hh : A1.handled = none) (hq : G0 q = none) (hl : SqL X.K G0 l zs) (hit : G0 it = none) (hne : it ≠ q) (hlen : zs.length ≤ 1000000)
    (hdone : ∀ s, Inv X pins σ (upd G0 q (.lst zs)) s → Rs (.ok (.ret .none)) s) : ∀ (k i : Nat) (s : Shared), zs.length - i = k → i ≤ zs.length → Inv X pins σ (upd (upd G0 q (.lst (zs.take i))) it (ItO l it i)) s →
      codeAny (model X.prog X.w) A1 (.builtin "list.extend.loop" ⟨[.ref q, .ref it, .none], []⟩) Rs s := by
  have hsl : zs.length ≤ sizeLine := by rw [sizeLine_eq]; omega
  have hu : ∀ o, (upd G0 q o) it = none := fun o => by rw [upd_ne hne]; exact hit
  intro k
  induction k with
  | zero =>
    intro i s hk hi I
    have hin : i = zs.length := by omega
    subst hin
    rw [List.take_length] at I
    refine codeAny_builtin PySem.F.entry_extend_loop ?_
    rw [Around.under_plainId PySem.F.plain_extend_loop _]
    show wpAny _ A1.in1 (pyNext (.ref it) >>= _) _ _ s
    obtain ⟨its, rv, pl, hz⟩ := I.list (sqLU (sqLU hl hq) (hu _))
    refine wpAny_bind (ItR.pn_end hh (itO_get I upd_same) pl.isList (by rw [List.getElem?_toArray]; exact rv.none_of (List.getElem?_eq_none (Nat.le_refl _))) fun h' e1 he => ?_)
    have I1 := I.write (x := it) (e := it) (t' := s.toks) (o := ItE it zs.length) (by rw [upd_same]; exact True.intro) (.inl rfl) (fun b o nb z => he b o nb z) ⟨_, e1⟩ (itE_ok e1)
    rw [upd_upd] at I1
    have I2 := ItX.inv_drop I1 upd_same
    rw [ItX.dropH_upd (hu _)] at I2
    exact wpAny_pure (hdone _ I2)
  | succ k ih =>
    intro i s hk hi I
    have hlt : i < zs.length := by omega
    refine codeAny_builtin PySem.F.entry_extend_loop ?_
    rw [Around.under_plainId PySem.F.plain_extend_loop _]
    show wpAny _ A1.in1 (pyNext (.ref it) >>= _) _ _ s
    obtain ⟨its, rv, pl, hz⟩ := I.list (sqLU (sqLU hl hq) (hu _))
    obtain ⟨u, hu2, ru⟩ := rv.get (i := i) (List.getElem?_eq_getElem hlt)
    refine wpAny_bind (ItR.pn_item (itO_get I upd_same) pl.isList (x := u) (by rw [List.getElem?_toArray]; exact hu2) fun h' e1 sb => ?_)
    have I1 := I.write (x := it) (e := it) (t' := s.toks) (o := ItO l it (i + 1)) (by rw [upd_same]; exact True.intro) (.inl rfl) (fun b o nb z => (sb.2 b nb).trans z) ⟨_, e1⟩ (itO_ok e1)
    rw [upd_upd] at I1
    show wpAny _ A1.in1 (updateSeq q (·.push u) >>= _) _ _ _
    have hq1 : upd (upd G0 q (.lst (zs.take i))) it (ItO l it (i + 1)) q = some (.lst (zs.take i)) := by rw [upd_ne (Ne.symm hne), upd_same]
    obtain ⟨z, its2, n, r2, hl2, e⟩ := I1.lstM hq1
    have ht : (zs.take i).length = i := by rw [List.length_take]; omega
    refine wpAny_bind (wpAny_updateSeq e rfl (wpAny_pure ⟨plainId_quiet PySem.F.plain_extend_loop _, ?_⟩) (by rw [List.size_toArray]; omega) (by show (its2.toArray.push u).size ≤ sizeLine + 1; rw [Array.size_push, List.size_toArray]; omega))
    refine ih (i + 1) _ (by omega) hlt ?_
    have J := I1.lset (f := (·.push u)) (its' := its2 ++ [u]) (t' := s.toks) hq1 e (by simp) (r2.append (.cons ru .nil)) (by rw [List.length_append, List.length_singleton]; omega)
    rw [← List.take_succ_eq_append_getElem hlt, updComm (a := it) (b := q) hne, upd_upd] at J
    exact J
end
theorem updId {H : Hp} {q : Addr} {o : HO} (h : H q = some o) : upd H q o = H := by
  funext b
  by_cases hb : b = q
  · rw [hb, upd_same, h]
  · rw [upd_ne hb]
def rListO (K : PySem.W.Frag) (C : Addr) (spI spL : Sp) : List V → Hp → VK → Prop := fun xs H Q => ∃ a dx fs l zs, xs = [.ref a] ∧ H a = some (.ins C dx fs) ∧ SqL K H l zs ∧ zs.length ≤ 1000000 ∧
  (∀ H2 : Hp, (∀ b u, H b = some u → H2 b = some u) → spI [.ref a] H2 (fun v H3 => ∃ it, v = .ref it ∧ H2 it = none ∧ H3 = upd H2 it (ItO l it 0)) E0) ∧
  (∀ H2 : Hp, (∀ b u, H b = some u → H2 b = some u) → spL [.ref a] H2 (fun v H3 => H3 = H2 ∧ ∃ n : Int, v = .int n ∧ 0 ≤ n ∧ n < 1000000) E0) ∧
  ∀ q, H q = none → Q (.ref q) (upd H q (.lst zs))
section
variable {X : Cx} {pins : List (Addr × Obj)} {σ : L2.St} {A1 : Around} {l q a C : Addr} {zs : List V} {spI spL : Sp} {kI kL n : Nat}
theorem env0_sub {A : Around} {H : Hp} {s : Shared} (sb : Sub X n A) (I : Inv X pins σ H s) : Env0 X.prog X.w X.K X.mg X.base A X.stack s H := by
  have e := I.env0
  exact ⟨by rw [sb.fr]; exact e.frames, e.mod, e.bs, e.bsz, e.funs, e.frf, e.hok, e.bare⟩
theorem own_extendL {Rs : Result → Shared → Prop} {H : Hp} {s : Shared} {dx : Addr} {fs : List (Str × V)} (sb : Sub X (n + 1) A1.in1) (hh : A1.handled = none) (cI : CalM X.prog X.w X.K X.mg X.base CX0 C "__iter__" kI ["self"] spI) (cL : CalM X.prog X.w X.K X.mg X.base CX0 C "__len__" kL ["self"] spL)
    (hI : kI ≤ n) (hL : kL ≤ n) (hq : H q = none) (ha : H a = some (.ins C dx fs)) (hl : SqL X.K H l zs) (hz : zs.length ≤ 1000000) (I : Inv X pins σ (upd H q (.lst [])) s)
    (pI : spI [.ref a] (upd H q (.lst [])) (fun v H3 => ∃ it, v = .ref it ∧ upd H q (.lst []) it = none ∧ H3 = upd (upd H q (.lst [])) it (ItO l it 0)) E0)
    (pL : ∀ it, upd H q (.lst []) it = none → spL [.ref a] (upd (upd H q (.lst [])) it (ItO l it 0)) (fun v H3 => H3 = (upd (upd H q (.lst [])) it (ItO l it 0)) ∧ ∃ n : Int, v = .int n ∧ 0 ≤ n ∧ n < 1000000) E0)
    (hdone : ∀ s, Inv X pins σ (upd H q (.lst zs)) s → Rs (.ok (.ret .none)) s) :
    wpAny (model X.prog X.w) A1.in1 (Builtin.List.listExtendWith (.ref q) (.ref a) .none)
      (fun fin s' => match fin with | .done f => Rs (.ok f) s' | .again c' => c'.quiet = true ∧ codeAny (model X.prog X.w) A1 c' Rs s') (fun e s' => Rs (.error e) s') s := by
  have hne : q ≠ a := fun z => by rw [z, ha] at hq; cases hq
  have ha2 : upd H q (.lst []) a = some (.ins C dx fs) := by rw [upd_ne (Ne.symm hne)]; exact ha
  obtain ⟨clI, fI, fdI, FI, mI, bI⟩ := cI
  obtain ⟨clL, fL, fdL, FL, mL, bL⟩ := cL
  obtain ⟨mA, O, _⟩ := ins_get I.hok ha2
  obtain ⟨od, J, _⟩ := O.look
  obtain ⟨m0, hF⟩ := I.fr
  unfold Builtin.List.listExtendWith
  refine wpAny_bind (J.type.here ?_)
  have h1 : Builtin.List.listSameRef (.ref q) (.ref a) = false := by simp [Builtin.List.listSameRef, hne]
  have h2 : (Value.ref C == Value.type "list") = false := rfl
  have h3 : (Value.ref C == Value.type "tuple") = false := rfl
  simp only [h1, h2, h3, Bool.or_false, Bool.false_eq_true, if_false]
  refine wpAny_bind (PySem.W.owit_iter hF I.ok.mod.kin J mI.at_ mI.fn ?_)
  have r2 : Vals [V.ref a] [Value.ref a] := .cons rfl .nil
  refine wpAny_call (codeAny_mono (FI.run A1.in1 X.stack s _ ⟨[.ref a], []⟩ [.ref a] [.ref a] _ E0 (sb.room.mono (by omega)) (env0_sub sb I) (by
    have := bI s [.ref a] I.kIn (by rfl)
    simpa using this) r2 pI) fun r s' hq' => ?_)
  cases r with
  | error e => exact hq'.elim
  | ok fl =>
    cases fl with
    | next => exact False.elim hq'
    | brk => exact False.elim hq'
    | cont => exact False.elim hq'
    | ret u =>
      obtain ⟨v, H', I', rv, it, ev, hit, eH⟩ := I.after hq'
      subst ev
      cases rv
      subst eH
      have hne2 : it ≠ q := fun z => by rw [z, upd_same] at hit; cases hit
      have hHit : H it = none := by rw [upd_ne hne2] at hit; exact hit
      have hget := itO_get I' upd_same
      show wpAny _ _ (specialOf (.ref it) "__next__") _ _ _
      refine wpAny_specialOf (T := "list_iterator") ⟨_, hget, rfl⟩ slot_listiter_next.lookup ?_
      have ha3 : upd (upd H q (.lst [])) it (ItO l it 0) a = some (.ins C dx fs) := by rw [upd_ne (fun z => by rw [z, hHit] at ha; cases ha)]; exact ha2
      obtain ⟨mA', O', _⟩ := ins_get I'.hok ha3
      obtain ⟨od', J', _⟩ := O'.look
      refine wpAny_bind (wpAny_holding (ItR.hint_own I'.kIn J' mL.at_ mL.fn ?_))
      refine wpAny_call (codeAny_mono (FL.run A1.in1.in1 X.stack s' _ ⟨[.ref a], []⟩ [.ref a] [.ref a] _ E0 (sb.in1.room.mono (by omega)) (env0_sub sb.in1 I') (by
        have := bL s' [.ref a] I'.kIn (by rfl)
        simpa using this) r2 (pL it hit)) fun r s3 hq3 => ?_)
      cases r with
      | error e => exact hq3.elim
      | ok fl =>
        cases fl with
        | next => exact False.elim hq3
        | brk => exact False.elim hq3
        | cont => exact False.elim hq3
        | ret u3 =>
          obtain ⟨v3, H3, I3, rv3, eH3, m, ev3, m0, m1⟩ := I'.after hq3
          subst ev3 eH3
          obtain ⟨tm, em⟩ := (show ∃ t, u3 = Value.int m t from rv3)
          refine ⟨m, tm, em, m0, m1, fun tk => ?_⟩
          have I4 := I3.tok tk
          refine wpAny_ite_split (fun _ => ?_) (fun _ => wpAny_pure ⟨plainId_quiet PySem.F.plain_extend_loop _, it_loop hh hq hl hHit hne2 hz hdone _ 0 _ rfl (Nat.zero_le _) I4⟩)
          refine wpAny_bind (wpAny_rule ?_)
          refine wpAny_bind ?_
          show wpAny _ _ (updateSeq q (·.push .none) >>= fun _ => updateSeq q (·.pop)) _ _ _
          have hq1 : upd (upd H q (.lst [])) it (ItO l it 0) q = some (.lst []) := by rw [upd_ne (Ne.symm hne2), upd_same]
          obtain ⟨z, its, k, r3, hl3, e3⟩ := I4.lstM hq1
          cases r3
          refine wpAny_bind (wpAny_updateSeq e3 rfl ?_)
          have I6 := I4.lset (f := (·.push Value.none)) (its' := [Value.none]) (ys := [.non]) (t' := tk) hq1 e3 (by simp) (.cons rfl .nil) (by rw [List.length_singleton, sizeLine_eq]; decide)
          obtain ⟨z4, its4, k4, r4, hl4, e4⟩ := I6.lstM upd_same
          obtain ⟨u4, rfl, ru4⟩ := r4.one
          refine wpAny_updateSeq e4 rfl ?_ (by show 1 ≤ sizeLine; rw [sizeLine_eq]; decide) (by show 0 ≤ sizeLine + 1; exact Nat.zero_le _)
          have I7 := I6.lset (f := (·.pop)) (its := [u4]) (its' := []) (ys := []) (t' := tk) upd_same e4 (by rfl) .nil (Nat.zero_le _)
          rw [upd_upd, updId hq1] at I7
          exact wpAny_pure ⟨plainId_quiet PySem.F.plain_extend_loop _, it_loop hh hq hl hHit hne2 hz hdone _ 0 _ rfl (Nat.zero_le _) I7⟩
theorem call_listO (hc : X.calm = true) (cI : CalM X.prog X.w X.K X.mg X.base CX0 C "__iter__" kI ["self"] spI) (cL : CalM X.prog X.w X.K X.mg X.base CX0 C "__len__" kL ["self"] spL) (hI : kI ≤ n) (hL : kL ≤ n) (hr : Room (n + 3) X.A) : CallR X (.type "list") (rListO X.K C spI spL) := by
  intro pins s σ H xs us Q I rv h
  obtain ⟨a, dx, fs, l, zs, rfl, ha, hl, hz, pI, pL, hQ⟩ := h
  obtain ⟨u, rfl, ru⟩ := rv.one
  cases ru
  have sb : Sub X (n + 1) X.A.in1.in1 := (Sub.in1 (Sub.in1 (⟨hr, rfl⟩ : Sub X (n + 3) X.A)))
  refine callType_codes (Q₁ := fun obj s₁ => obj = .ref s.heap.objs.size ∧ s₁ = { s with heap := s.heap.push { cls := .type "list", data := .seq #[] } }) PySem.F.called_list (PySem.F.typeCall_list_1 _) PySem.F.entry_list_init
    (code_list_new _ ⟨rfl, rfl⟩) fun obj s₁ h₁ => ?_
  obtain ⟨rfl, rfl⟩ := h₁
  have hS : (s.heap.push { cls := .type "list", data := .seq #[] }).get? s.heap.objs.size = some { cls := .type "list", data := .seq #[] } := Heap.get?_push_size _ rfl
  refine ⟨⟨_, hS, rfl⟩, PySem.F.args_list_init_2 _ _, ?_⟩
  have fr : H s.heap.objs.size = none := I.hok.fresh (Nat.le_refl _)
  have I1 : Inv X pins σ (upd H s.heap.objs.size (.lst [])) { s with heap := s.heap.push { cls := .type "list", data := .seq #[] } } := I.lnew (its := []) (t' := s.toks) .nil (Nat.zero_le _)
  show wpAny _ _ (do let old ← Builtin.List.listItems (.ref s.heap.objs.size); Builtin.List.listUpdate (.ref s.heap.objs.size) (fun _ => #[]); letGo old.toList.reverse; Builtin.List.listExtendWith (.ref s.heap.objs.size) (.ref a) .none) _ _ _
  refine wpAny_bind ?_
  unfold Builtin.List.listItems
  refine wpAny_bind (wpAny_seqItems hS rfl (wpAny_pure ?_))
  show wpAny _ _ (updateSeq s.heap.objs.size (fun _ => #[]) >>= fun _ => letGo (#[] : Array Value).toList.reverse >>= fun _ => Builtin.List.listExtendWith (.ref s.heap.objs.size) (.ref a) .none) _ _ _
  refine wpAny_bind (wpAny_updateSeq hS rfl ?_)
  have I2 := I1.lset (f := fun _ => #[]) (its := []) (its' := []) (ys := []) (t' := s.toks) upd_same hS rfl .nil (Nat.zero_le _)
  rw [upd_upd] at I2
  refine wpAny_bind (wpAny_letGo ?_)
  have e2 : ∀ b u, H b = some u → upd H s.heap.objs.size (.lst []) b = some u := fun b u e => by rw [upd_ne (ne_of_none e fr)]; exact e
  exact own_extendL (A1 := X.A.in1) (Rs := wants (fun r s₂ => r = .none ∧ EP X pins σ Q (.ref s.heap.objs.size) s₂) X.xe) sb (I.ok.hd hc) cI cL hI hL fr ha hl hz I2 (pI _ e2)
    (fun it hit => pL _ fun b u e => by rw [upd_ne (ne_of_none (e2 b u e) hit)]; exact e2 b u e) (fun s' I' => ⟨rfl, .ref s.heap.objs.size, _, I', rfl, hQ _ fr⟩)
end
section
variable {K : PySem.W.Frag} {H : Hp} {Q : VK} {C a dx l : Addr} {spI spL : Sp} {fs : List (Str × V)} {zs : List V}
theorem rd_listO (ea : H a = some (.ins C dx fs)) (hl : SqL K H l zs) (hz : zs.length ≤ 1000000) (pI : ∀ H2 : Hp, (∀ b u, H b = some u → H2 b = some u) → spI [.ref a] H2 (fun v H3 => ∃ it, v = .ref it ∧ H2 it = none ∧ H3 = upd H2 it (ItO l it 0)) E0)
    (pL : ∀ H2 : Hp, (∀ b u, H b = some u → H2 b = some u) → spL [.ref a] H2 (fun v H3 => H3 = H2 ∧ ∃ n : Int, v = .int n ∧ 0 ≤ n ∧ n < 1000000) E0) (q : ∀ p, H p = none → Q (.ref p) (upd H p (.lst zs))) : rListO K C spI spL [.ref a] H Q := ⟨a, dx, fs, l, zs, rfl, ea, hl, hz, pI, pL, q⟩
theorem rd_iter (hl : SqL K H l zs) (q : ∀ it, H it = none → Q (.ref it) (upd H it (ItO l it 0))) : rIter K [.ref l] H Q := ⟨l, zs, rfl, hl, q⟩
end
end Rd

/-! Sr: the layer's eighteenth part: defs with *args: classmethods -/
namespace Rd
open PySem PySem.Spec PyProof.Rows L2
/-- a def's own promise (its star parameter is a tuple) as its callers know it -/
def starSp (n : Nat) (sp : Sp) : Sp := fun vs H Q E => ∃ ws rest, vs = ws ++ rest ∧ ws.length = n ∧ rest.length ≤ sizeLine ∧ ∀ p, H p = Option.none → sp (ws ++ [V.ref p]) (upd H p (.tup rest)) Q E
theorem cxUpN {P : Program} {w : World} : StX.CXUp (L2N.CX P w) := by
  rintro outer s H s2 H2 E e s' un kp ho ⟨a, B, H', cls, d, ea, fl, hok, ub, na, os, ag, he⟩
  refine ⟨a, B, H', cls, d, ea, fl, hok, ⟨fun b o q n hb => ub.keep b o (kp b o q) (un.free b o q n (by simp)) hb, fun b o q hb => ub.slot b o (kp b o q) hb, fun b o q n => ub.free b o (kp b o q) (un.free b o q n (by simp)),
    fun b o q hb => ub.there b o (kp b o q) hb, fun b xs q => ub.tups b xs (un.tups b xs q), fun b o xs q => ub.frzs b o xs (un.frzs b o xs q), fun b ps q => ?_⟩, na, os.trans ho, ag, he⟩
  obtain ⟨m1, e1⟩ := un.tbls b ps q
  obtain ⟨m2, e2⟩ := ub.tbls b _ e1
  exact ⟨m1 ++ m2, by rw [e2, Array.append_assoc]⟩
theorem okStar {CX : CXT} {P : Program} {w : World} {K : PySem.W.Frag} {mg : Str → Option Value} {base : Heap} {x qual pv : Str} {st : Stmt} {f : Addr} {fd : FuncData} {N ps : List Str} {k : Nat} {sp : Sp} (F : Fun K x qual st f fd) (S : FnScope N (ps ++ [pv]) (defScope st)) (hCX : StX.CXUp CX)
    (hb : ∀ (kV doc pm : Value) (an : Option Addr) (cdv ct : Value) (us rest : List Value), us.length = ps.length → bindArgs (PySem.W.fnOf x qual (defArgs st) (defBody st) (defScope st) .none kV doc pm an cdv ct) ⟨us ++ rest, []⟩ = (newTuple rest >>= fun t => pure (ps.zip us ++ [(pv, t)])))
    (body : ∀ (cdv : Value) (A : Around) (outer : List Env) (s : Shared) (H : Hp) (vs : List V) (Q : VK) (E : XK), Room k (A.deeper (envOfC qual (defScope st) s.heap.objs.size f cdv)) → sp vs H Q E →
      ∃ t, PSs (cxOf CX P w K mg base N qual (defScope st) f cdv A outer s H E) (defBody st) t ∧ t { nx := fun _ H' => Q .non H', rt := Q } (L2.start N vs) H) : FnR P w K mg base CX (k + 1) f (starSp ps.length sp) := by
  obtain ⟨oc, od, kV, doc, pm, an, cdv, ct, osl, rfl, lk, hcd⟩ := F.ex
  exact StX.fn_star lk hcd S hCX (hb kV doc pm an cdv ct) fun A outer s H vs Q E hr h => body cdv A outer s H vs Q E hr h
structure CalCR (P : Program) (w : World) (K : PySem.W.Frag) (mg : Str → Option Value) (base : Heap) (CX : CXT) (C : Addr) (m : Str) (k : Nat) (sp : Sp) : Prop where
  rd : ClX.CRead K C (.type "type")
  ex : ∃ (p f : Addr), FnR P w K mg base CX k f sp ∧ ClX.CMet K C (.type "type") m p f
section
variable {X : Cx} {CX : CXT} {k : Nat} {C : Addr} {m x : Str} {sp : Sp} {E : L2.St → XK} {o e : Expr} {es : List Expr} {ta : TE} {t : TA} {apos pos p : Pos} {pl : Sem Bool}
theorem run_cmR {q g : Addr} {pins : List (Addr × Obj)} {σ : L2.St} {H : Hp} {s : Shared} {Q : VK} {us : List Value} {vs : List V} (F : FnR X.prog X.w X.K X.mg X.base CX k g sp) (hr : Room k X.A) (hx : PassesAt CX X σ (E σ)) (I : Inv X ((q, PySem.W.methodObj (.ref g) (.ref C)) :: pins) σ H s)
    (r : Vals vs us) (h : sp (.ref C :: vs) H Q (E σ)) : wpAny (model X.prog X.w) X.A (call (.ref q) us) (EP X pins σ Q) X.xe s := by
  have z : wpAny (model X.prog X.w) X.A (call (.ref q) us) (EP X ((q, PySem.W.methodObj (.ref g) (.ref C)) :: pins) σ Q) X.xe s := by
    refine wpAny_call (PySem.W.method_call (ClX.pin_at I) (codeAny_mono (F X.A X.stack s H (.ref C :: us) (.ref C :: vs) Q (E σ) hr I.env0 (.cons rfl r) h) fun r s' hq => ?_))
    cases r with
    | error e => exact hx _ H s e s' I hq
    | ok fl =>
      cases fl with
      | ret u => exact I.after hq
      | next => exact False.elim hq
      | brk => exact False.elim hq
      | cont => exact False.elim hq
  exact thn z fun _ _ y => ClX.unpinE y
theorem pe_calCR (c : CalCR X.prog X.w X.K X.mg X.base CX C m k sp) (he : PE X o ta) (hr : Room k X.A) (hx : ∀ σ, PassesAt CX X σ (E σ)) (ha : PA X (e :: es) t)
    (hst : starEach (e :: es) X.env = (false, eval e X.env) :: starEach es X.env := by rfl) (hpl : (backTo pos (starEach es X.env)).any (·.1) = false := by rfl)
    (ht : eval (.Call (.Attribute o m apos) (e :: es) [] pos) X.env = (do let ov ← eval o X.env; standAt apos.atName; let (f, first) ← holding [ov] (getMethod ov m pl); callWith pos f first (backTo pos (starEach (e :: es) X.env)) (backToKw pos (keywordEach [] X.env))) := by rfl) :
    PE X (.Call (.Attribute o m apos) (e :: es) [] pos) (tClsM C sp E ta t) := by
  obtain ⟨rd, p, f, F, M⟩ := c
  refine ⟨fun pins s σ H Q I h => PySem.W.methodCall_KW (pl := pl) (thn (he.run pins s σ H _ I h) ?_) ht⟩
  rintro u s1 ⟨x, H1, I1, rx, ex, q⟩
  subst ex
  obtain rfl : u = Value.ref C := rx
  refine ClX.getmethcm_ok I1 rd M fun s2 I2 => ?_
  refine ClX.callwith_cm I2 (ClX.base_none I1 (Nat.le_refl _)) M.fi (thn (ha.run pos _ s2 σ H1 _ I2 q) fun us s3 ⟨vs, H2, I3, rv, q2⟩ => ⟨⟨ClX.pin_at I3, I3.kIn⟩, ?_⟩) hst hpl
  exact run_cmR F hr (hx σ) I3 rv q2
theorem pe_calCR0 (c : CalCR X.prog X.w X.K X.mg X.base CX C m k sp) (he : PE X o ta) (hr : Room k X.A) (hx : ∀ σ, PassesAt CX X σ (E σ))
    (ht : eval (.Call (.Attribute o m apos) [] [] pos) X.env = (do let ov ← eval o X.env; standAt apos.atName; let (f, first) ← holding [ov] (getMethod ov m pl); callWith pos f first (backTo pos (starEach [] X.env)) (backToKw pos (keywordEach [] X.env))) := by rfl) :
    PE X (.Call (.Attribute o m apos) [] [] pos) (tClsM C sp E ta tNil) := by
  obtain ⟨rd, p, f, F, M⟩ := c
  refine ⟨fun pins s σ H Q I h => PySem.W.methodCall_KW (pl := pl) (thn (he.run pins s σ H _ I h) ?_) ht⟩
  rintro u s1 ⟨x, H1, I1, rx, ex, q⟩
  subst ex
  obtain rfl : u = Value.ref C := rx
  refine ClX.getmethcm_ok I1 rd M fun s2 I2 => ?_
  exact PySem.W.callWith_M0 (first := []) ⟨ClX.pin_at I2, I2.kIn⟩ M.fi (run_cmR (us := []) (vs := []) F hr (hx σ) I2 .nil q)
end
section
variable {σ : L2.St} {H : Hp} {C : Addr} {sp : Sp} {E : L2.St → XK} {D : Ends} {i : Nat} {x : V} {te : TE}
theorem rd_augOt (hx : σ[i]? = some (some x)) (h : te σ H fun y H1 => ∃ a dx fs, x = .ref a ∧ H1 a = some (.ins C dx fs) ∧ sp [.ref a, y] H1 (fun z H2 => D.nx (σ.set i (some z)) H2) (E σ)) : tAugO C sp E i te D σ H := ⟨x, hx, h⟩
end
end Rd

/-! Rl: the layer's nineteenth part: __init__ with *args, calls with starred arguments, o[i] = v, bool(o), x op y of two classes, isinstance of other classes -/
namespace OwX
open PySem PySem.Spec PyProof.Rows
section
variable {prog : Program} {w : World} {A : Around} {E : Value → Shared → Prop} {s : Shared} {K : PySem.W.Frag} {x C D f : Addr} {ox od : Obj} {odd : Option Obj}
theorem truthy_own {M : Model} {Q : Bool → Shared → Prop} (X : K.In s.heap) (I : PySem.W.InstAt s.heap x ox C odd) (hs : PySem.W.findIn K (.ref C) "__bool__" = some (some (.ref f))) (hf : PySem.W.isFn K (.ref f) = true)
    (h : wpAny M A (call (.ref f) [.ref x]) (fun r s₁ => ∃ b, r = Value.bool b ∧ Q b s₁) E s) : wpAny M A (truthy (.ref x)) Q E s := by
  unfold truthy
  refine wpAny_bind (m := callSpecial? (.ref x) (Str.ofString "__bool__")) (PySem.W.special_fn X I hs (beq_iff_eq.mp hf) (wpAny_mono h (fun r s' hr => ?_) fun _ _ y => y))
  obtain ⟨b, rfl, hq⟩ := hr
  exact wpAny_pure hq
theorem bool_own {Q : Value → Shared → Prop} (X : K.In s.heap) (I : PySem.W.InstAt s.heap x ox C odd) (hs : PySem.W.findIn K (.ref C) "__bool__" = some (some (.ref f))) (hf : PySem.W.isFn K (.ref f) = true)
    (h : wpAny (model prog w) A.in1.in1 (call (.ref f) [.ref x]) (fun r s₁ => ∃ b, r = Value.bool b ∧ Q r s₁) E s) : wpAny (model prog w) A (call (.type "bool") [.ref x]) Q E s := by
  refine callType_codes (T := "bool") (Bi := Builtin.«object.__init__») (Q₁ := fun r s₁ => ∃ b, r = Value.bool b ∧ Q r s₁) PySem.F.called_bool (PySem.F.typeCall_bool_1 _) PySem.F.entry_object_init ?_ ?_
  · refine codeAny_of_tree ?_
    show wpAny _ A.in1.in1 (do checkBuiltinCall "bool.__new__" ⟨[.type "bool", .ref x], []⟩; again (.builtin "bool.__new__" ⟨[.type "bool", .ref x], []⟩)) _ _ s
    refine wpAny_bind (wpAny_of_eq (PySem.F.newCall_bool_1 _) (wpAny_pure ⟨plainId_quiet (by decide +kernel) _, codeAny_builtin PySem.F.entry_bool_new ?_⟩))
    rw [Around.under_plainId (by decide +kernel) _]
    unfold Builtin.«bool.__new__»
    refine wpAny_bind (wpAny_pure ?_)
    refine wpAny_bind (wpAny_of_eq PySem.F.conv_sub_bool ?_)
    refine wpAny_bind (m := someArgs "bool" 0 1 _) (wpAny_of_eq (a := [Value.ref x]) (by first | rfl | kernel_rfl!) ?_)
    show wpAny _ _ (truthy (.ref x) >>= fun b => ret (.bool b)) _ _ _
    refine wpAny_bind (truthy_own X I hs hf (wpAny_mono h (fun r s₁ hr => ?_) fun _ _ y => y))
    obtain ⟨b, rfl, hq⟩ := hr
    exact ⟨b, rfl, wpAny_pure ⟨b, rfl, hq⟩⟩
  · rintro obj s₁ ⟨b, rfl, hq⟩
    exact ⟨PySem.typeIs_bool _ _, PySem.F.args_object_init_2 _ _, object_init_meets PySem.F.called_bool.init.lookup PySem.F.called_bool.made (by decide) prog w A.in1 _ s₁ ⟨PySem.typeIs_bool _ _, rfl, hq⟩⟩
/-- a class without a number method -/
theorem fills_no {M : Model} {h : Heap} {nm : String} {cd : ClassData} (X : K.In h) (hc : PySem.W.clsIn K D = some cd) (hm : cd.mro = [.ref D, .type "object"]) (h1 : PySem.W.findIn K (.ref D) (dunder nm) = some none) (h2 : PySem.W.findIn K (.ref D) (dunderR nm) = some none)
    (o1 : typeLookup (.type "object") (dunder nm) = pure none) (o2 : typeLookup (.type "object") (dunderR nm) = pure none) : PySem.W.Looks M h (fillsNumberSlot (.ref D) nm) false := by
  intro A Q E s k q
  unfold fillsNumberSlot
  refine wpAny_bind ((PySem.W.looks_clsIn X hc).andThen (f := fun cd => pure cd.mro) .now A _ E s k ?_)
  rw [hm, List.anyM_cons]
  refine wpAny_bind ?_
  show wpAny M A (List.anyM _ [dunder nm, dunderR nm]) _ _ _
  rw [List.anyM_cons]
  refine wpAny_bind (wpAny_bind (PySem.W.looks_findIn X h1 A _ E s k ?_))
  refine wpAny_pure ?_
  rw [if_neg Bool.false_ne_true, List.anyM_cons]
  refine wpAny_bind (wpAny_bind (PySem.W.looks_findIn X h2 A _ E s k ?_))
  refine wpAny_pure ?_
  rw [if_neg Bool.false_ne_true, List.anyM_nil]
  refine wpAny_pure ?_
  rw [if_neg Bool.false_ne_true, List.anyM_cons]
  refine wpAny_bind ?_
  refine wpAny_bind (wpAny_of_eq o1 (wpAny_bind (wpAny_of_eq o2 ?_)))
  refine wpAny_pure ?_
  rw [if_neg (by decide), List.anyM_nil]
  exact wpAny_pure q
end
end OwX
namespace OwX
open PySem PySem.Spec PyProof.Rows PySem.W
section
variable {prog : Program} {w : World} {A : Around} {E : Value → Shared → Prop} {s : Shared} {K : PySem.W.Frag} {x C D f : Addr} {ox od : Obj} {odd : Option Obj}
/-- x op b, b of a class without that number method -/
theorem binop_two {op : Operator} {b : Value} {Q : Value → Shared → Prop} (X : K.In s.heap) (I : PySem.W.InstAt s.heap x ox C odd) (hb : PySem.W.Looks (model prog w) s.heap (typeOf b) (.ref D)) (hne : C ≠ D) (hc : PySem.W.selfFirst K C = true)
    (hs : PySem.W.findIn K (.ref C) (PySem.dunder op.info.2) = some (some (.ref f))) (hf : PySem.W.isFn K (.ref f) = true) (hd : PySem.W.Looks (model prog w) s.heap (fillsNumberSlot (.ref D) op.info.2) false)
    (h : wpAny (model prog w) A (call (.ref f) [.ref x, b]) (PySem.W.CmpBack Q) E s) : wpAny (model prog w) A (binaryOp op (.ref x) b) Q E s := by
  obtain ⟨cd, rest, hcd, hm⟩ := PySem.W.ksp_first hc
  rcases hi : op.info with ⟨sym, nm'⟩
  rw [hi] at hs hd
  dsimp only at hs hd
  have one := PySem.W.ksp_try X I hs hf h
  obtain ⟨hh, g, d, tt, os⟩ := s
  have L1 : PySem.W.Looks (model prog w) hh (typeOf (.ref x)) (.ref C) := I.type
  have L2 : PySem.W.Looks (model prog w) hh (typeOf b) (.ref D) := hb
  have L3 : PySem.W.Looks (model prog w) hh (fillsNumberSlot (.ref C) nm') true := PySem.W.fills_K X hcd hm hs
  have L4 : PySem.W.Looks (model prog w) hh (fillsNumberSlot (.ref D) nm') false := hd
  have hne : (Value.ref C == Value.ref D) = false := Bool.eq_false_iff.mpr fun q => by cases beq_iff_eq.mp q; exact hne rfl
  simp only [binaryOp, hi]
  refine wpAny_holding (wpAny_bind ?_)
  unfold binaryOp1
  refine wpAny_bind (L1.at (wpAny_bind (L2.at (wpAny_bind (L3.at ?_)))))
  simp only [hne, Bool.false_eq_true, if_false]
  refine wpAny_bind (L4.at ?_)
  simp only [Bool.and_false, Bool.false_and, Bool.false_eq_true, if_false, if_true]
  refine wpAny_bind (wpAny_pure ?_)
  simp only [Bool.and_false, Bool.false_and, Bool.false_eq_true, if_false, if_true]
  refine wpAny_bind (wpAny_mono one (fun r s' hr' => ?_) fun _ _ e => e)
  obtain ⟨v, rfl, hq⟩ := hr'
  exact wpAny_pure (wpAny_pure hq)
end
end OwX
namespace Rd
open PySem PySem.Spec PyProof.Rows L2
/-! ### dicts whose keys are tuples: a comprehension -/
theorem d_dictSetT {X : Cx} {pins : List (Addr × Obj)} {σ : L2.St} {H : Hp} {s : Shared} {E : Value → Shared → Prop} {D b : Addr} {kvs : List (List Key × V)} {k : List Key} {v : V} {r : Value} {Q : Unit → Shared → Prop} (hu : X.A.units + 1 < cLine) (I : Inv X pins σ H s) (hD : H D = some (.dT kvs)) (hz : kvs.length < sizeLine)
    (eb : H b = some (.tup (k.map kV))) (rv : RelV v r) (h : ∀ s', Inv X pins σ (upd H D (.dT (putK kvs k v))) s' → Q () s') : wpAny (model X.prog X.w) X.A (dictSet D (.ref b) r) Q E s := by
  obtain ⟨z, hd, xs, rel, dd⟩ := dt_of I.hok hD
  have hzv : xs.length ≤ sizeLine := by rw [← Paired.length rel]; exact z
  have hl : (putK kvs k v).length ≤ sizeLine := by have := length_putK kvs k v; omega
  have hr : (tupleKind (mixKind X.prog X.w)).room X.A := (show X.A.units < cLine from by omega)
  refine wpAny_dictSet_heap (hsz := hzv) hr (key_of I.hok eb) dd fun h' dd' hs => h _ ?_
  obtain ⟨q, es, ep, hq, h2, h3, h4, _, h5⟩ := dd'
  refine d_write I (by rw [hD]; exact True.intro) hs ⟨q, hq⟩ ⟨hl, hd, _, (rel.put k eb rv).keeps fun c ys ec => ?_, q, es, ep, hq, h2, h3, h4, h5⟩
  rw [upd_ne (ne_of ec hD (fun z => nomatch z))]
  exact ec
section
variable {X : Cx}
/-- {k: v for target in iter if ..}, keys tuples of ints and texts: D the new dict -/
def tDcT (wi : TI) (g : TG) (tt : TT) (tk tv : TE) (vs : List Nat) : TE := fun σ H Q => wi σ H fun J H1 => ∀ D, H1 D = none → ∃ W : Nat → Nat → Hp → Prop, (∃ m, W 0 m (upd H1 D (.dT []))) ∧ ∀ i m H, W i m H →
  (J.stop i H ∧ Q (.ref D) H) ∨ (J.go i H ∧ ∃ Nx : Hp → Prop, (∀ H', Nx H' → ∃ m', m' < m ∧ W (i + 1) m' H') ∧ ∀ x H', J.yld i H x H' → g x (wipe σ vs) H' fun σ2 H2 => wipe σ2 vs = wipe σ vs ∧ tt σ2 H2 fun b H3 =>
    if b = true then tk σ2 H3 fun y H4 => tv σ2 H4 fun z H5 => ∃ kvs k b, y = .ref b ∧ H5 b = some (.tup (k.map kV)) ∧ H5 D = some (.dT kvs) ∧ kvs.length < sizeLine ∧ Nx (upd H5 D (.dT (putK kvs k z))) else Nx H3)
theorem dcT_core (hu : X.A.units + 1 < cLine) {pins : List (Addr × Obj)} {s : Shared} {σ : L2.St} {H : Hp} {Q : VK} {kx vx tg iter : Expr} {ifs : List Expr} {scope : Scope} {own : List (Str × Nat)} {pos pos' : Pos} {wi : TI} {g : TG} {tt : TT} {tk tv : TE} {use : Option (Value → Sem Unit)} {Qf : Value → Shared → Prop}
    (hc : X.calm = true) (hN : X.N.Nodup) (I : Inv X pins σ H s) (hi : PI X tg iter wi) (ok : BlkOk X.N X.env.scope scope own)
    (hg : ∀ (s : Shared) (H : Hp) (C : Addr) (cl : List (Str × Addr)) (fp : List Addr), PG (X.blk s H scope (compEnvC scope cl C X.env) fp) tg g) (ht : ∀ (s : Shared) (H : Hp) (C : Addr) (cl : List (Str × Addr)) (fp : List Addr), PTs (X.blk s H scope (compEnvC scope cl C X.env) fp) ifs tt)
    (hk : ∀ (s : Shared) (H : Hp) (C : Addr) (cl : List (Str × Addr)) (fp : List Addr), PE (X.blk s H scope (compEnvC scope cl C X.env) fp) kx tk)
    (he : ∀ (s : Shared) (H : Hp) (C : Addr) (cl : List (Str × Addr)) (fp : List Addr), PE (X.blk s H scope (compEnvC scope cl C X.env) fp) vx tv) (hs : ∀ x, foldedSetIterable iter X.env x = pure x)
    (h : tDcT wi g tt tk tv (own.map (·.2)) σ H Q)
    (hRR : ∀ D C s' m H', Inv X pins σ H' s' → Q (.ref D) H' → s'.heap.Ns C m → FpOk X pins H' C → compPost (model X.prog X.w) X.A X.xe use Qf (.ref D) C (.ok .next) s') :
    wpAny (model X.prog X.w) X.A (comprehension (.DictComp kx vx [⟨tg, iter, ifs, 0⟩] scope pos) scope X.env pos' newDict false (eval iter X.env) use) Qf X.xe s := by
  have hfree : ∀ y ∈ scope.names, y.2 = .free → ∃ c, X.env.cells.lookup y.1 = some c := fun y hy e => by
    rcases ok.free y hy e with k | k
    · exact I.ok.has _ (.inl k)
    · exact I.ok.has _ (.inr k)
  refine wpAny_comprehension_free (use := use) rfl hs (closure_ok hfree) ok.kind (fun y hy e => by rw [ok.uniq y hy, e])
    (thn (hi.run pins s σ H _ I h) fun xv s1 hx => thn hx fun itv s2 h2 => ?_)
  obtain ⟨it, fp, tn, J, H2, e, I2, T, st2, f2, q⟩ := h2
  subst e
  refine wpAny_newObj_type (newEnv_comp ?_)
  generalize hD : s2.heap.objs.size = D
  have hDn : H2 D = none := I2.hok.fresh (Nat.le_of_eq hD)
  obtain ⟨W, ⟨m0, w0⟩, turn⟩ := q D hDn
  -- the new list
  generalize hs3 : ({ s2 with heap := s2.heap.push { cls := .type "dict", data := .dict #[] } } : Shared) = s3
  have I3 : Inv X pins σ (upd H2 D (.dT [])) s3 := by
    rw [← hs3]
    refine I2.laid (t' := s2.toks) (fun b o e => Heap.get?_push_of_some _ e) (Nat.le_of_eq hD) ?_
    rw [← hD]
    exact dt_empty s2.heap I2.big
  have h3 : s3.heap = s2.heap.push { cls := .type "dict", data := .dict #[] } := by rw [← hs3]
  have sz : ∀ b ∈ fp, b < s2.heap.objs.size := fun b hb => by
    obtain ⟨o, e, _⟩ := T.obj _ _ st2 b hb
    exact Heap.lt_size e
  have f3 : ∀ b ∈ fp, FpOk X pins (upd H2 D (.dT [])) b ∧ b < s3.heap.objs.size := fun b hb => by
    have hlt := sz b hb
    refine ⟨⟨?_, (f2 b hb).2⟩, by rw [h3, Heap.size_push]; exact Nat.lt_succ_of_lt hlt⟩
    rw [upd_ne (by rw [← hD]; exact Nat.ne_of_lt hlt)]
    exact (f2 b hb).1
  have st3 : tn 0 s3.heap := T.keep _ _ _ st2 fun b _ o e => by rw [h3]; exact Heap.get?_push_of_some _ e
  have I4 := block_start I3 ok hN f3
  have pg := hg s3 (upd H2 D (.dT [])) s3.heap.objs.size (cellsFrom (s3.heap.objs.size + 1) scope.names (cloFrom X.env.cells scope.names [])) fp
  have pt := ht s3 (upd H2 D (.dT [])) s3.heap.objs.size (cellsFrom (s3.heap.objs.size + 1) scope.names (cloFrom X.env.cells scope.names [])) fp
  have pk := hk s3 (upd H2 D (.dT [])) s3.heap.objs.size (cellsFrom (s3.heap.objs.size + 1) scope.names (cloFrom X.env.cells scope.names [])) fp
  have pe := he s3 (upd H2 D (.dT [])) s3.heap.objs.size (cellsFrom (s3.heap.objs.size + 1) scope.names (cloFrom X.env.cells scope.names [])) fp
  show codeAny _ _ (.compStart (.DictComp kx vx [⟨tg, iter, ifs, 0⟩] scope pos) 0 (.ref it) (.ref D) (compEnvC scope (cellsFrom (s3.heap.objs.size + 1) scope.names (cloFrom X.env.cells scope.names [])) s3.heap.objs.size X.env)) (compPost (model X.prog X.w) X.A X.xe use Qf (.ref D) s3.heap.objs.size) { s3 with heap := pushCells (s3.heap.push { cls := .type "dict", data := .dict #[] }) scope.names }
  have nfp : ∀ b ∈ fp, (upd H2 D (.dT [])) b = none := fun b hb => (f3 b hb).1.1
  generalize hce : compEnvC scope (cellsFrom (s3.heap.objs.size + 1) scope.names (cloFrom X.env.cells scope.names [])) s3.heap.objs.size X.env = ce at I4 pg pt pk pe ⊢
  have cL : ce.locals = s3.heap.objs.size := by subst hce; rfl
  generalize hH3 : upd H2 D (.dT []) = H3 at I3 I4 pg pt pk pe w0 nfp f3
  generalize hs4 : ({ s3 with heap := pushCells (s3.heap.push { cls := .type "dict", data := .dict #[] }) scope.names } : Shared) = s4 at I4 ⊢
  have st4 : tn 0 s4.heap := T.keep _ _ _ st3 fun b _ o e => by rw [← hs4]; exact pushCells_keeps _ _ _ _ (Heap.get?_push_of_some _ e)
  have stat : ∀ {σ' : L2.St} {H' : Hp} {s' : Shared}, Inv (X.blk s3 H3 scope ce fp) [] σ' H' s' → (∀ b ∈ fp, H' b = none) → ∀ b ∈ fp, FpOk (X.blk s3 H3 scope ce fp) [] H' b := fun {σ' H' s'} I' hn b hb =>
    ⟨hn b hb, (I'.ok.exf b hb).1, I'.ok.exfs b hb, .inl hb, fun x c e => (I'.ok.exf b hb).2 x c e, fun p hp => absurd (show p ∈ ([] : List (Addr × Obj)) ++ [] from hp) (by simp)⟩
  have loop : codeAny (model X.prog X.w) X.A (.compLoop (.DictComp kx vx [⟨tg, iter, ifs, 0⟩] scope pos) 0 (.ref it) (.ref D) ce) (compPost (model X.prog X.w) X.A X.xe use Qf (.ref D) s3.heap.objs.size) s4 := by
    refine compLoop_anyD (fun n s' => ∃ i H', Inv (X.blk s3 H3 scope ce fp) [] (wipe σ (own.map (·.2))) H' s' ∧ tn i s'.heap ∧ (∀ b ∈ fp, H' b = none) ∧ W i n H') ?_ m0 ⟨0, H3, I4, st4, nfp, w0⟩
    rintro n s5 ⟨i, H5, I5, st5, n5, w5⟩
    rcases turn i n H5 w5 with ⟨stop, qq⟩ | ⟨go, Nx, hNx, step⟩
    · have td := T.done (X.blk s3 H3 scope ce fp) rfl rfl rfl hc i [] s5 _ H5 (fun _ _ => False) I5 (stat I5 n5) st5 stop
      refine thnF td fun r s6 ⟨hr, I6⟩ => ?_
      subst hr
      -- back in the def's context
      have I7 : Inv X pins σ H5 s6 := I3.call' (ch := fp) I6.os I6.base I6.hok I6.bare fun b hb => ⟨(f3 b hb).1.2.2.2.1, (f3 b hb).1.2.1, (f3 b hb).1.2.2.2.2.1, (f3 b hb).1.2.2.2.2.2⟩
      have nC : H5 s3.heap.objs.size = none := by
        have z : H5 ce.locals = none := I6.free
        rw [cL] at z
        exact z
      obtain ⟨m, hn, _⟩ := I6.loc
      have hn : s6.heap.Ns ce.locals m := hn
      rw [cL] at hn
      exact hRR D s3.heap.objs.size s6 m H5 I7 qq hn (I3.fpOk (Nat.le_refl _) nC)
    · have ti := T.item (X.blk s3 H3 scope ce fp) rfl rfl rfl hc i [] s5 _ H5 (fun _ _ => False) I5 (stat I5 n5) st5 go
      refine thnF ti fun r s6 ⟨u, hr, h6⟩ => ?_
      subst hr
      refine thnF h6 fun _ s7 ⟨x, H7, I7, r7, y7, st7, n7⟩ => ?_
      have I7' := I7.pinned (stat I7 n7) (T.obj _ _ st7)
      refine thnF (pg.run _ s7 _ H7 x u _ I7' r7 (step x H7 y7)) fun _ s8 ⟨σ8, H8, I8, hw8, q8⟩ => ?_
      refine thnF (pt.run _ s8 σ8 H8 _ I8 q8) fun b s9 ⟨H9, I9, q9⟩ => ?_
      -- the turn's end
      have fin : ∀ {s' : Shared} {H' : Hp}, Inv (X.blk s3 H3 scope ce fp) ([] ++ pinsAt fp s7.heap) σ8 H' s' → Nx H' → ∃ m, m < n ∧ ∃ i H', Inv (X.blk s3 H3 scope ce fp) [] (wipe σ (own.map (·.2))) H' s' ∧ tn i s'.heap ∧ (∀ b ∈ fp, H' b = none) ∧ W i m H' := fun {s' H'} I' nx => by
        obtain ⟨m', hm, w'⟩ := hNx H' nx
        have pin' : ∀ b ∈ fp, ∀ o, s7.heap.get? b = some o → s'.heap.get? b = some o ∧ H' b = none := fun b hb o e =>
          let z := I'.pin (b, o) (List.mem_append_right _ (List.mem_append_right _ (mem_pinsAt hb e)))
          ⟨z.1, z.2.1⟩
        have hl : (wipe σ (own.map (·.2))).length = σ8.length := by rw [← hw8, wipe_length]
        refine ⟨m', hm, i + 1, H', (I'.unpinned (pins := [])).weak hl (fun j v e => ?_), T.keep _ _ _ st7 fun b hb o e => (pin' b hb o e).1, fun b hb => ?_, w'⟩
        · rw [← hw8] at e
          exact (wipe_some e).1
        · obtain ⟨o, e, _⟩ := T.obj _ _ st7 b hb
          exact (pin' b hb o e).2
      cases b with
      | false =>
        simp only [Bool.false_eq_true, if_false] at q9 ⊢
        exact fin I9 q9
      | true =>
        simp only [if_true] at q9 ⊢
        refine thnF (pk.run _ s9 σ8 H9 _ I9 q9) fun z s10 ⟨yk, H10, I10, r10, q10⟩ => ?_
        refine thnF (pe.run _ s10 σ8 H10 _ I10 q10) fun z2 s11 ⟨yv, H11, I11, r11, kvs, k, kb, ek, hk11, hD11, hz11, nx⟩ => ?_
        subst ek
        cases (show z = Value.ref kb from r10)
        exact d_dictSetT (X := X.blk s3 H3 scope ce fp) hu I11 hD11 hz11 hk11 r11 fun s12 I12 => fin I12 nx
  exact codeAny_compStart_dict loop (T.self X.A 0 _ _ _ st4 loop)
/-- as a value -/
theorem pe_dcT (hu : X.A.units + 1 < cLine) {kx vx tg iter : Expr} {ifs : List Expr} {scope : Scope} {own : List (Str × Nat)} {pos : Pos} {wi : TI} {g : TG} {tt : TT} {tk tv : TE} (hc : X.calm = true) (hN : X.N.Nodup) (hi : PI X tg iter wi) (ok : BlkOk X.N X.env.scope scope own)
    (hg : ∀ (s : Shared) (H : Hp) (C : Addr) (cl : List (Str × Addr)) (fp : List Addr), PG (X.blk s H scope (compEnvC scope cl C X.env) fp) tg g) (ht : ∀ (s : Shared) (H : Hp) (C : Addr) (cl : List (Str × Addr)) (fp : List Addr), PTs (X.blk s H scope (compEnvC scope cl C X.env) fp) ifs tt)
    (hk : ∀ (s : Shared) (H : Hp) (C : Addr) (cl : List (Str × Addr)) (fp : List Addr), PE (X.blk s H scope (compEnvC scope cl C X.env) fp) kx tk)
    (he : ∀ (s : Shared) (H : Hp) (C : Addr) (cl : List (Str × Addr)) (fp : List Addr), PE (X.blk s H scope (compEnvC scope cl C X.env) fp) vx tv) (hs : ∀ x, foldedSetIterable iter X.env x = pure x := by intro _; rfl) :
    PE X (.DictComp kx vx [⟨tg, iter, ifs, 0⟩] scope pos) (tDcT wi g tt tk tv (own.map (·.2))) := by
  refine ⟨fun pins s σ H Q I h => ?_⟩
  rw [arm_eval_DictComp]
  refine dcT_core hu hc hN I hi ok hg ht hk he hs h fun D C s' m H' I' q hn f => ⟨m, hn, fun h'' sb => ?_⟩
  obtain ⟨f0, f1, f2, f3, f4, f5⟩ := f
  exact ⟨.ref D, H', I'.turned (t' := s'.toks) (fun b o hb e => (sb.2 b hb).trans e) f0 f1 f3 f4 f5, rfl, q⟩
end
def DcJ (g : TG) (tt : TT) (tk tv : TE) (vs : List Nat) (σ : L2.St) (Q : VK) (J : It) (H1 : Hp) : Prop := ∀ D, H1 D = none → ∃ W : Nat → Nat → Hp → Prop, (∃ m, W 0 m (upd H1 D (.dT []))) ∧ ∀ i m H, W i m H →
  (J.stop i H ∧ Q (.ref D) H) ∨ (J.go i H ∧ ∃ Nx : Hp → Prop, (∀ H', Nx H' → ∃ m', m' < m ∧ W (i + 1) m' H') ∧ ∀ x H', J.yld i H x H' → g x (wipe σ vs) H' fun σ2 H2 => wipe σ2 vs = wipe σ vs ∧ tt σ2 H2 fun b H3 =>
    if b = true then tk σ2 H3 fun y H4 => tv σ2 H4 fun z H5 => ∃ kvs k b, y = .ref b ∧ H5 b = some (.tup (k.map kV)) ∧ H5 D = some (.dT kvs) ∧ kvs.length < sizeLine ∧ Nx (upd H5 D (.dT (putK kvs k z))) else Nx H3)
def DcA (K : PySem.W.Frag) (x : V) (g : TG) (tt : TT) (tk tv : TE) (vs : List Nat) (σ : L2.St) (H : Hp) (Q : VK) : Prop := Walk K x H (DcJ g tt tk tv vs σ Q)
section
variable {K : PySem.W.Frag} {σ : L2.St} {H : Hp} {g : TG} {tk tv tl : TE} {tt : TT} {vs : List Nat} {Q : VK}
theorem rd_dcA (h : tl σ H fun x H1 => DcA K x g tt tk tv vs σ H1 Q) : tDcT (iAny K tl) g tt tk tv vs σ H Q := h
/-- over a list that stays; Pv knows the dict so far -/
theorem dcTL {a : Addr} {xs : List V} (hx : SqL K H a xs) (h : ∀ D, H D = none → ∃ Pv : Nat → Hp → Prop, Pv 0 (upd H D (.dT [])) ∧ (∀ i H, i ≤ xs.length → Pv i H → SqL K H a xs) ∧
    (∀ (i : Nat) (x : V) H, xs[i]? = some x → Pv i H → g x (wipe σ vs) H fun σ2 H2 => wipe σ2 vs = wipe σ vs ∧ tt σ2 H2 fun b H3 =>
      if b = true then tk σ2 H3 fun y H4 => tv σ2 H4 fun z H5 => ∃ kvs k b, y = .ref b ∧ H5 b = some (.tup (k.map kV)) ∧ H5 D = some (.dT kvs) ∧ kvs.length < sizeLine ∧ Pv (i + 1) (upd H5 D (.dT (putK kvs k z))) else Pv (i + 1) H3) ∧ (∀ H, Pv xs.length H → Q (.ref D) H)) : DcA K (.ref a) g tt tk tv vs σ H Q := by
  refine .inl ⟨a, rfl, ⟨xs, hx⟩, fun D hD => ?_⟩
  obtain ⟨Pv, h0, hl, hs, hd⟩ := h D hD
  refine ⟨fun i m H => m = xs.length - i ∧ i ≤ xs.length ∧ Pv i H, ⟨xs.length, by simp, Nat.zero_le _, h0⟩, ?_⟩
  rintro i m H ⟨rfl, hi, p⟩
  have q := hl i H hi p
  by_cases hlt : i < xs.length
  · refine .inr ⟨⟨xs, xs[i], q, by simp [hlt]⟩, Pv (i + 1), fun H' p' => ⟨xs.length - (i + 1), by omega, rfl, hlt, p'⟩, fun x H' y => ?_⟩
    obtain ⟨e, y⟩ := y
    subst e
    exact hs i x _ (y xs q) p
  · have e : i = xs.length := by omega
    subst e
    exact .inl ⟨⟨xs, q, Nat.le_refl _⟩, hd H p⟩
end
/-! ### y in d, a dict with tuple keys -/
def rInT : R2 := fun y x H Q => ∃ a kvs k b, x = .ref a ∧ y = .ref b ∧ H a = some (.dT kvs) ∧ H b = some (.tup (k.map kV)) ∧ Q (.bl (valV kvs k).isSome) H
theorem op_inT {X : Cx} (hu : X.A.units + 1 < cLine) : OpR X (compareOp .In) rInT := by
  intro pins s σ H y x v u Q I ry rx h
  obtain ⟨a, kvs, k, b, rfl, rfl, ea, eb, q⟩ := h
  obtain rfl : u = Value.ref a := rx
  exact d_in hu I (DGet.t ea eb) ry fun s3 I3 => ⟨.bl _, H, I3, rfl, q⟩
theorem rd_inT {H : Hp} {Q : VK} {a b : Addr} {kvs : List (List Key × V)} {k : List Key} (ea : H a = some (.dT kvs)) (eb : H b = some (.tup (k.map kV))) (q : Q (.bl (valV kvs k).isSome) H) : rInT (.ref b) (.ref a) H Q := ⟨a, kvs, k, b, rfl, rfl, ea, eb, q⟩
/-- d[y] = v -/
theorem rd_dput {σ : L2.St} {H : Hp} {D : Ends} {td ty tv : TE} (h : tv σ H fun v H1 => td σ H1 fun x H2 => ty σ H2 fun y H3 => ∃ a H4, x = .ref a ∧ DPut H3 a y v H4 ∧ D.nx σ H4) : sDPut td ty tv D σ H := h
/-! ### __init__ with *args -/
structure CalKR (P : Program) (w : World) (K : PySem.W.Frag) (mg : Str → Option Value) (base : Heap) (CX : CXT) (x : Str) (C : Addr) (k : Nat) (sp : Sp) : Prop where
  g : mg x = some (.ref C)
  ex : ∃ (f : Addr), FnR P w K mg base CX k f sp ∧ Mk K C f
section
variable {X : Cx} {CX : CXT} {k : Nat} {C : Addr} {x y : Str} {sp : Sp} {E : L2.St → XK} {e : Expr} {es : List Expr} {t : TA} {p pos : Pos} {tx : TE}
theorem run_mkR {f : Addr} {pins : List (Addr × Obj)} {σ : L2.St} {H : Hp} {s : Shared} {Q : VK} {us : List Value} {vs : List V} (M : Mk X.K C f) (F : FnR X.prog X.w X.K X.mg X.base CX k f sp) (hr : Room (k + 1) X.A) (hx : PassesAt CX X σ (E σ)) (I : Inv X pins σ H s) (r : Vals vs us)
    (h : ∀ x dx, H x = none → H dx = none → dx ≠ x → sp (.ref x :: vs) (upd (upd H dx (.own x)) x (.ins C dx [])) (fun v H2 => v = .non ∧ Q (.ref x) H2) (E σ)) : wpAny (model X.prog X.w) X.A (call (.ref C) us) (EP X pins σ Q) X.xe s := by
  have h1 := h (s.heap.objs.size + 1) s.heap.objs.size (I.hok.fresh (Nat.le_succ _)) (I.hok.fresh (Nat.le_refl _)) (Nat.ne_of_lt (Nat.lt_succ_self _))
  have J := Inv.made (C := C) I
  have rr : Vals (V.ref (s.heap.objs.size + 1) :: vs) (Value.ref (s.heap.objs.size + 1) :: us) := .cons rfl r
  refine wpAny_call (make_map (f := f) I.kIn M.makes M.init (beq_iff_eq.mp M.fn) (codeAny_mono (F _ X.stack _ _ _ _ _ (E σ) (hr.make C us []) (J.env0.make C us []) rr h1) ?_))
  rintro (er | (_ | _ | _ | u)) s' z
  · exact hx pins _ _ er s' J z
  · exact False.elim z
  · exact False.elim z
  · exact False.elim z
  · obtain ⟨v, H', I3, rv, ev, q3⟩ := J.after z
    subst ev
    exact ⟨rv, ⟨V.ref (s.heap.objs.size + 1), H', I3, rfl, q3⟩⟩
theorem pe_calKR (c : CalKR X.prog X.w X.K X.mg X.base CX x C k sp) (hr : Room (k + 1) X.A) (hx : ∀ σ, PassesAt CX X σ (E σ)) (ha : PA X (e :: es) t) (hg : Gl X x := by rfl)
    (hd : (x == ("__debug__" : Str)) = false := by decide) (he : starEach (e :: es) X.env = (false, eval e X.env) :: starEach es X.env := by rfl) (hpl : (backTo pos (starEach es X.env)).any (·.1) = false := by rfl) :
    PE X (.Call (.Name x p) (e :: es) [] pos) (tMakeT C sp E t) := by
  obtain ⟨g, f, F, M⟩ := c
  refine ⟨fun pins s σ H Q I h => wpAny_Call_Name_kw (ld_glob I hg g (PySem.W.callWith_K (h₀ := X.base) I.ok.mod.kin M.kp (thn (ha.run pos pins s σ H _ I h) ?_) he hpl) hd)⟩
  rintro us s1 ⟨vs, H1, I1, r, q⟩
  exact ⟨I1.kIn, run_mkR M F hr (hx σ) I1 r q⟩
/-- C(e, .., *y) -/
theorem pe_calKRS (c : CalKR X.prog X.w X.K X.mg X.base CX x C k sp) (hr : Room (k + 1) X.A) (hx : ∀ σ, PassesAt CX X σ (E σ)) (ha : PA X (e :: es) t) (hg : Gl X x := by rfl)
    (hd : (x == ("__debug__" : Str)) = false := by decide) (he : starEach (e :: es) X.env = (false, eval e X.env) :: starEach es X.env := by rfl) (hst : (backTo pos (starEach es X.env)).any (·.1) = true := by rfl) :
    PE X (.Call (.Name x p) (e :: es) [] pos) (tMakeT C sp E t) := by
  obtain ⟨g, f, F, M⟩ := c
  refine ⟨fun pins s σ H Q I h => wpAny_Call_Name_kw (ld_glob I hg g (PySem.W.callWith_S2 (h₀ := X.base) I.ok.mod.kin M.kp (thn (ha.run pos pins s σ H _ I h) ?_) he hst) hd)⟩
  rintro us s1 ⟨vs, H1, I1, r, q⟩
  exact ⟨I1.kIn, run_mkR M F hr (hx σ) I1 r q⟩
theorem pe_calKvR (c : CalKR X.prog X.w X.K X.mg X.base CX y C k sp) (hf : PE X (.Name x p) tx) (hr : Room (k + 1) X.A) (hx : ∀ σ, PassesAt CX X σ (E σ)) (ha : PA X (e :: es) t)
    (he : starEach (e :: es) X.env = (false, eval e X.env) :: starEach es X.env := by rfl) (hpl : (backTo pos (starEach es X.env)).any (·.1) = false := by rfl) :
    PE X (.Call (.Name x p) (e :: es) [] pos) (tMakeV C sp E tx t) := by
  obtain ⟨g, f, F, M⟩ := c
  refine ⟨fun pins s σ H Q I h => wpAny_Call_Name_kw (thn (hf.run pins s σ H _ I h) fun u s0 ⟨v, H0, I0, r0, ev, q0⟩ => ?_)⟩
  subst ev
  obtain rfl : u = Value.ref C := r0
  refine PySem.W.callWith_K (h₀ := X.base) I0.ok.mod.kin M.kp (thn (ha.run pos pins s0 σ H0 _ I0 q0) ?_) he hpl
  rintro us s1 ⟨vs, H1, I1, r, q⟩
  exact ⟨I1.kIn, run_mkR M F hr (hx σ) I1 r q⟩
theorem pe_calKvRS (c : CalKR X.prog X.w X.K X.mg X.base CX y C k sp) (hf : PE X (.Name x p) tx) (hr : Room (k + 1) X.A) (hx : ∀ σ, PassesAt CX X σ (E σ)) (ha : PA X (e :: es) t)
    (he : starEach (e :: es) X.env = (false, eval e X.env) :: starEach es X.env := by rfl) (hst : (backTo pos (starEach es X.env)).any (·.1) = true := by rfl) :
    PE X (.Call (.Name x p) (e :: es) [] pos) (tMakeV C sp E tx t) := by
  obtain ⟨g, f, F, M⟩ := c
  refine ⟨fun pins s σ H Q I h => wpAny_Call_Name_kw (thn (hf.run pins s σ H _ I h) fun u s0 ⟨v, H0, I0, r0, ev, q0⟩ => ?_)⟩
  subst ev
  obtain rfl : u = Value.ref C := r0
  refine PySem.W.callWith_S2 (h₀ := X.base) I0.ok.mod.kin M.kp (thn (ha.run pos pins s0 σ H0 _ I0 q0) ?_) he hst
  rintro us s1 ⟨vs, H1, I1, r, q⟩
  exact ⟨I1.kIn, run_mkR M F hr (hx σ) I1 r q⟩
/-- C(*y), v(*y) -/
theorem pe_calKRL (c : CalKR X.prog X.w X.K X.mg X.base CX x C k sp) (hr : Room (k + 1) X.A) (hx : ∀ σ, PassesAt CX X σ (E σ)) {te : TE} {sp_ : Pos} (hs : PE X e te) (hg : Gl X x := by rfl) (hd : (x == ("__debug__" : Str)) = false := by decide)
    (hst : starEach [.Starred e sp_] X.env = [(true, eval e X.env)] := by rfl) : PE X (.Call (.Name x p) [.Starred e sp_] [] pos) (tMakeT C sp E (StX.tStar X.K te tNil)) := by
  obtain ⟨g, f, F, M⟩ := c
  refine ⟨fun pins s σ H Q I h => wpAny_Call_Name_kw (ld_glob I hg g (PySem.W.callWith_S (h₀ := X.base) I.ok.mod.kin M.kp (thn (hs.run pins s σ H _ I h) fun v s1 ⟨y, H1, I1, ry, a, xs, ey, hxs, q⟩ => ?_) hst) hd)⟩
  subst ey
  obtain rfl : v = Value.ref a := ry
  refine StX.star_any I1 hxs fun us s2 I2 rv => ⟨I2.kIn, run_mkR (us := us) M F hr (hx σ) I2 rv (by simp only [tNil, List.append_nil] at q; exact q)⟩
end
/-! ### o[i] = v by an own method -/
def sIxO (C : Addr) (sp : Sp) (E : L2.St → XK) (td ty tv : TE) : TS := fun D σ H => tv σ H fun v H1 => td σ H1 fun x H2 => ty σ H2 fun y H3 => ∃ a dx fs, x = .ref a ∧ H3 a = some (.ins C dx fs) ∧ sp [.ref a, y, v] H3 (fun _ H4 => D.nx σ H4) (E σ)
theorem rd_sIxO {σ : L2.St} {H : Hp} {D : Ends} {C : Addr} {sp : Sp} {E : L2.St → XK} {td ty tv : TE} (h : tv σ H fun v H1 => td σ H1 fun x H2 => ty σ H2 fun y H3 => ∃ a dx fs, x = .ref a ∧ H3 a = some (.ins C dx fs) ∧ sp [.ref a, y, v] H3 (fun _ H4 => D.nx σ H4) (E σ)) : sIxO C sp E td ty tv D σ H := h
section
variable {X : Cx} {CX : CXT} {k : Nat} {C : Addr} {ps : List Str} {sp : Sp} {o i value : Expr} {td ty tv : TE} {pos pos' : Pos}
theorem ps_ixO {E : L2.St → XK} (c : CalM X.prog X.w X.K X.mg X.base CX C "__setitem__" k ps sp) (hq : PySem.W.noSeq X.K C = true) (hR : Room k X.A) (hx : ∀ σ, PassesAt CX X σ (E σ)) (ho : PE X o td) (hi : PE X i ty) (hv : PE X value tv)
    (hs : swapsWith value (some (.Subscript o i pos')) pos.line X.env = pure false := by rfl) : PS X (.Assign [.Subscript o i pos'] value pos) (sIxO C sp E td ty tv) := by
  refine ⟨fun pins s σ H D I h => ?_⟩
  refine wpAny_Assign_Subscript (thn (hv.run pins s σ H _ I h) fun r s1 ⟨v, H1, I1, rv, q1⟩ => thn (ho.run pins s1 σ H1 _ I1 q1) fun u s2 ⟨x, H2, I2, rx, q2⟩ => thn (hi.run pins s2 σ H2 _ I2 q2) fun iv s3 ⟨y, H3, I3, ry, a, dx, fs, ex, ea, q3⟩ => ?_) hs
  subst ex
  obtain rfl : u = Value.ref a := rx
  obtain ⟨cl, f, fd, F, hm, hb⟩ := c
  obtain ⟨mA, O, _, _, _, _⟩ := ins_get I3.hok ea
  obtain ⟨od, J, _⟩ := O.look
  obtain ⟨m, hF⟩ := I3.fr
  refine PySem.W.ksp_setItem hF I3.ok.mod.kin J hq hm.at_ hm.fn (wpAny_mono (run_fnS (us := [.ref a, iv, r]) (vs := [.ref a, y, v]) F hR hb (hx σ) I3 (.cons rfl (.cons ry (.cons rv .nil))) q3) (fun w s' z => ?_) fun _ _ x => x)
  obtain ⟨z', H', I', rz, qz⟩ := z
  exact ⟨σ, H', I', qz⟩
end
/-! ### bool(o), bool(a list) -/
def rBoolO (C : Addr) (sp : Sp) (E : XK) : List V → Hp → VK → Prop := fun xs H Q => ∃ a dx fs, xs = [.ref a] ∧ H a = some (.ins C dx fs) ∧ sp [.ref a] H (fun z H' => ∃ b, z = .bl b ∧ Q (.bl b) H') E
def rBoolL (K : PySem.W.Frag) : List V → Hp → VK → Prop := fun xs H Q => ∃ (a : Addr) (zs : List V), xs = [.ref a] ∧ SqL K H a zs ∧ Q (.bl (!zs.isEmpty)) H
section
variable {X : Cx} {CX : CXT} {k : Nat} {C : Addr} {ps : List Str} {sp : Sp} {E : XK}
theorem call_boolLA : CallR X (.type "bool") (rBoolL X.K) := call_boolL
theorem call_boolO (c : CalM X.prog X.w X.K X.mg X.base CX C "__bool__" k ["self"] sp) (hr : Room (k + 2) X.A) (hx : Passes CX X E) : CallR X (.type "bool") (rBoolO C sp E) := by
  intro pins s σ H xs us Q I r h
  obtain ⟨a, dx, fs, rfl, ea, q⟩ := h
  obtain ⟨u, rfl, ru⟩ := r.one
  cases (show u = Value.ref a from ru)
  obtain ⟨cl, f, fd, F, hm, hb⟩ := c
  obtain ⟨mA, O, _, _, _, _⟩ := ins_get I.hok ea
  obtain ⟨od, J, _⟩ := O.look
  have hr2 : Room k X.A.in1.in1 := (show Room (k + 1) X.A.in1 from Room.in1 hr).in1
  refine OwX.bool_own I.kIn J hm.at_ hm.fn (wpAny_mono (run_fnA (us := [.ref a]) (vs := [.ref a]) F hr2 I.env0.in1.in1 hb hx I (.cons rfl .nil) q) (fun w s' z => ?_) fun _ _ z => z)
  obtain ⟨z', H', I', rz, b, eb, qz⟩ := z
  subst eb
  cases (show w = Value.bool b from rz)
  exact ⟨b, rfl, .bl b, H', I', rfl, qz⟩
theorem rd_boolO {H : Hp} {Q : VK} {a dx : Addr} {fs : List (Str × V)} (ea : H a = some (.ins C dx fs)) (q : sp [.ref a] H (fun z H' => ∃ b, z = .bl b ∧ Q (.bl b) H') E) : rBoolO C sp E [.ref a] H Q := ⟨a, dx, fs, rfl, ea, q⟩
theorem rd_boolL {K : PySem.W.Frag} {H : Hp} {Q : VK} {a : Addr} {zs : List V} (h : SqL K H a zs) (q : Q (.bl (!zs.isEmpty)) H) : rBoolL K [.ref a] H Q := ⟨a, zs, rfl, h, q⟩
end
/-! ### x op y, y of another class (or of the same) -/
structure OpNo (K : PySem.W.Frag) (D : Addr) (nm : String) : Prop where
  ex : ∃ cd, PySem.W.clsIn K D = some cd ∧ cd.mro = [.ref D, .type "object"]
  h1 : PySem.W.findIn K (.ref D) (dunder nm) = some none
  h2 : PySem.W.findIn K (.ref D) (dunderR nm) = some none
structure ObjNo (op : Operator) : Prop where
  o1 : typeLookup (.type "object") (dunder op.info.2) = pure none
  o2 : typeLookup (.type "object") (dunderR op.info.2) = pure none
theorem objno_sub : ObjNo .Sub := ⟨by rw [typeLookup_type, builtinLookup_eq_fast]; kernel_rfl, by rw [typeLookup_type, builtinLookup_eq_fast]; kernel_rfl⟩
def rOpX (C D : Addr) (sp : Sp) (E : L2.St → XK) : L2.St → R2 := fun σ x y H Q => ∃ a dx fs b dy gs, x = .ref a ∧ y = .ref b ∧ H a = some (.ins C dx fs) ∧ H b = some (.ins D dy gs) ∧ sp [.ref a, .ref b] H Q (E σ)
section
variable {X : Cx} {CX : CXT} {k : Nat} {C D : Addr} {ps : List Str} {sp : Sp} {E : L2.St → XK} {op : Operator} {d : Str}
theorem op_ownX (on : ObjNo op) (hd : d = dunder op.info.2) (hc : PySem.W.selfFirst X.K C = true) (no : OpNo X.K D op.info.2) (hne : C ≠ D) (c : CalM X.prog X.w X.K X.mg X.base CX C d k ps sp) (hR : Room k X.A) (hx : ∀ σ, PassesAt CX X σ (E σ)) :
    OpRS X (binaryOp op) (rOpX C D sp E) := by
  intro pins s σ H x y v u Q I rx ry h
  obtain ⟨a, dx, fs, b, dy, gs, rfl, rfl, ea, eb, q⟩ := h
  cases (show v = Value.ref a from rx)
  cases (show u = Value.ref b from ry)
  obtain ⟨cl, f, fd, F, hm, hb⟩ := c
  obtain ⟨mA, O, _, _, _, _⟩ := ins_get I.hok ea
  obtain ⟨od, J, _⟩ := O.look
  obtain ⟨mB, O', _, _, _, _⟩ := ins_get I.hok eb
  obtain ⟨od', J', _⟩ := O'.look
  obtain ⟨cd, e1, e2⟩ := no.ex
  refine OwX.binop_two I.kIn J J'.type hne hc (by rw [← hd]; exact hm.at_) hm.fn (OwX.fills_no I.kIn e1 e2 no.h1 no.h2 on.o1 on.o2) ?_
  refine wpAny_mono (run_fnS (us := [.ref a, .ref b]) (vs := [.ref a, .ref b]) F hR hb (hx σ) I (.cons rfl (.cons rfl .nil)) q) (fun w s' z => ?_) fun _ _ x => x
  obtain ⟨z', H', I', rz, qz⟩ := z
  exact SlX.cmpback rz ⟨z', H', I', rz, qz⟩
theorem op_ownS (hd : d = dunder op.info.2) (hc : PySem.W.selfFirst X.K C = true) (c : CalM X.prog X.w X.K X.mg X.base CX C d k ps sp) (hR : Room k X.A) (hx : ∀ σ, PassesAt CX X σ (E σ)) :
    OpRS X (binaryOp op) (rOpX C C sp E) := by
  intro pins s σ H x y v u Q I rx ry h
  obtain ⟨a, dx, fs, b, dy, gs, rfl, rfl, ea, eb, q⟩ := h
  cases (show v = Value.ref a from rx)
  cases (show u = Value.ref b from ry)
  obtain ⟨cl, f, fd, F, hm, hb⟩ := c
  obtain ⟨mA, O, _, _, _, _⟩ := ins_get I.hok ea
  obtain ⟨od, J, _⟩ := O.look
  obtain ⟨mB, O', _, _, _, _⟩ := ins_get I.hok eb
  obtain ⟨od', J', _⟩ := O'.look
  obtain ⟨m, hF⟩ := I.fr
  refine PySem.W.binop_K hF I.ok.mod.kin J J'.type hc (by rw [← hd]; exact hm.at_) hm.fn ?_
  refine wpAny_mono (run_fnS (us := [.ref a, .ref b]) (vs := [.ref a, .ref b]) F hR hb (hx σ) I (.cons rfl (.cons rfl .nil)) q) (fun w s' z => ?_) fun _ _ x => x
  obtain ⟨z', H', I', rz, qz⟩ := z
  exact SlX.cmpback rz ⟨z', H', I', rz, qz⟩
theorem rd_opX {H : Hp} {Q : VK} {σ : L2.St} {a b dx dy : Addr} {fs gs : List (Str × V)} (ea : H a = some (.ins C dx fs)) (eb : H b = some (.ins D dy gs)) (q : sp [.ref a, .ref b] H Q (E σ)) : rOpX C D sp E σ (.ref a) (.ref b) H Q := ⟨a, dx, fs, b, dy, gs, rfl, rfl, ea, eb, q⟩
end
/-! ### isinstance of an own class's instance: another class, a pair of classes -/
theorem rd_isiN {K : PySem.W.Frag} {H : Hp} {Q : VK} {a C D dx : Addr} {fs : List (Str × V)} (h : H a = some (.ins C dx fs)) (i : IsIns K C) (n : PySem.W.kitOne K (.ref C) (.ref D) = some false) (q : Q (.bl false) H) : rIsi K [.ref a, .ref D] H Q :=
  ⟨.ref a, .ref D, .ref C, .ref D, false, rfl, .own D, .base (.ins h i.cl i.a1 i.a2 i.a3 i.a4), n, q⟩
theorem rd_isiT1 {K : PySem.W.Frag} {H : Hp} {Q : VK} {a C D dx tp : Addr} {fs : List (Str × V)} (h : H a = some (.ins C dx fs)) (ht : H tp = some (.tup [.ref C, .ref D])) (i : IsIns K C) (q : Q (.bl true) H) : rIsiT K [.ref a, .ref tp] H Q :=
  ⟨.ref a, tp, [.ref C, .ref D], .ref C, [.ref C, .ref D], true, rfl, ht, .cons (.own C) (.cons (.own D) .nil), .base (.ins h i.cl i.a1 i.a2 i.a3 i.a4), by
    have e : PySem.W.kitOne K (.ref C) (.ref C) = some true := by unfold PySem.W.kitOne; rw [if_pos (by simp)]
    unfold PySem.W.kitAny
    rw [e], q⟩
theorem rd_isiT2 {K : PySem.W.Frag} {H : Hp} {Q : VK} {a C D dx tp : Addr} {fs : List (Str × V)} (h : H a = some (.ins C dx fs)) (ht : H tp = some (.tup [.ref D, .ref C])) (i : IsIns K C) (n : PySem.W.kitOne K (.ref C) (.ref D) = some false) (q : Q (.bl true) H) : rIsiT K [.ref a, .ref tp] H Q :=
  ⟨.ref a, tp, [.ref D, .ref C], .ref C, [.ref D, .ref C], true, rfl, ht, .cons (.own D) (.cons (.own C) .nil), .base (.ins h i.cl i.a1 i.a2 i.a3 i.a4), by
    have e : PySem.W.kitOne K (.ref C) (.ref C) = some true := by unfold PySem.W.kitOne; rw [if_pos (by simp)]
    unfold PySem.W.kitAny
    rw [n]
    unfold PySem.W.kitAny
    rw [e], q⟩
theorem units1 {k : Nat} {A : Around} (r : Room k A) : A.units + 1 < cLine := by
  have := r.units
  omega
def opNoB (K : PySem.W.Frag) (D : Addr) (nm : String) : Bool := (match PySem.W.clsIn K D with | some cd => cd.mro == [.ref D, .type "object"] | none => false) && decide (PySem.W.findIn K (.ref D) (dunder nm) = some none) && decide (PySem.W.findIn K (.ref D) (dunderR nm) = some none)
theorem opNoB_ok {K : PySem.W.Frag} {D : Addr} {nm : String} (h : opNoB K D nm = true) : OpNo K D nm := by
  unfold opNoB at h
  obtain ⟨h12, h3⟩ := Bool.and_eq_true_iff.mp h
  obtain ⟨h1, h2⟩ := Bool.and_eq_true_iff.mp h12
  refine ⟨?_, of_decide_eq_true h2, of_decide_eq_true h3⟩
  cases e : PySem.W.clsIn K D with
  | none => rw [e] at h1; cases h1
  | some cd => rw [e] at h1; exact ⟨cd, rfl, beq_iff_eq.mp h1⟩
theorem ne_of_beq {a b : Addr} (h : (a == b) = false) : a ≠ b := fun e => by
  rw [e] at h
  simp at h
end Rd

/-! Ru: the layer's twentieth part: tuples of ints compared; namespace Ce: rules as sets of cells -/
namespace Rd
open PySem PySem.Spec PyProof.Rows L2
theorem units65 {k : Nat} {A : Around} (r : Room k A) : A.units + 65 < cLine := by
  have := r.un
  omega
/-- t < u, tuples of three ints -/
def lt3 (a b c x y z : Int) : Bool := decide (a < x ∨ (a = x ∧ (b < y ∨ (b = y ∧ c < z))))
def le3 (a b c x y z : Int) : Bool := decide (a < x ∨ (a = x ∧ (b < y ∨ (b = y ∧ c ≤ z))))
def rLt3 (K : PySem.W.Frag) : R2 := fun v u H Q => ∃ (p q : Addr) (a b c x y z : Int), v = .ref p ∧ u = .ref q ∧ SqT K H p [.int a, .int b, .int c] ∧ SqT K H q [.int x, .int y, .int z] ∧ Q (.bl (lt3 a b c x y z)) H
theorem lex_lt3 (a b c x y z : Int) : Ob.lexAt (fun j => [decide (a = x), decide (b = y), decide (c = z)].getD j false) (fun j => [decide (a < x), decide (b < y), decide (c < z)].getD j false) false 0 3 = lt3 a b c x y z := by
  unfold lt3
  rw [Ob.lexAt_succ, Ob.lexAt_succ, Ob.lexAt_succ, Ob.lexAt_zero]
  simp only [List.getD_cons_zero, List.getD_cons_succ]
  by_cases h1 : a = x
  · by_cases h2 : b = y
    · by_cases h3 : c = z
      · simp [h1, h2, h3]
      · simp [h1, h2, h3]
    · simp [h1, h2]
  · simp [h1]
theorem op_lt3 {X : Cx} (hu : X.A.units < cLine) : OpR X (compareOp .Lt) (rLt3 X.K) := by
  rintro pins s σ H v u v' u' Q I rv ru ⟨p, q, a, b, c, x, y, z, rfl, rfl, hp, hq, h⟩
  cases rv
  cases ru
  obtain ⟨is, w1, t1, _⟩ := I.tuple hp
  obtain ⟨js, w2, t2, _⟩ := I.tuple hq
  cases w1; rename_i i1 is v1 w1
  cases w1; rename_i i2 is v2 w1
  cases w1; rename_i i3 is v3 w1
  cases w1
  cases w2; rename_i j1 js u1 w2
  cases w2; rename_i j2 js u2 w2
  cases w2; rename_i j3 js u3 w2
  cases w2
  obtain ⟨k1, rfl⟩ := (show ∃ t, i1 = Value.int a t from v1)
  obtain ⟨k2, rfl⟩ := (show ∃ t, i2 = Value.int b t from v2)
  obtain ⟨k3, rfl⟩ := (show ∃ t, i3 = Value.int c t from v3)
  obtain ⟨m1, rfl⟩ := (show ∃ t, j1 = Value.int x t from u1)
  obtain ⟨m2, rfl⟩ := (show ∃ t, j2 = Value.int y t from u2)
  obtain ⟨m3, rfl⟩ := (show ∃ t, j3 = Value.int z t from u3)
  have key : Ob.RcOp .Lt X.A s (.ref p) (.ref q) (Ob.lexAt (fun j => [decide (a = x), decide (b = y), decide (c = z)].getD j false) (fun j => [decide (a < x), decide (b < y), decide (c < z)].getD j false) (decide (3 < 3)) 0 (min 3 3)) := by
    refine Ob.RcOp.tuples_lt t1 t2 hu (fun j h1 h2 => ?_) (fun j h1 h2 _ => ?_)
    · have e : ∀ m n : Int, (m == n) = decide (m = n) := fun m n => by rw [Bool.eq_iff_iff, beq_iff_eq, decide_eq_true_eq]
      have hj : j < 3 := h1
      match j, hj with
      | 0, _ => show SeqAt.EqAt _ _ (Value.int a k1) (Value.int x m1) (decide (a = x)); rw [← e]; exact SeqAt.EqAt.int_int _ _ _ _
      | 1, _ => show SeqAt.EqAt _ _ (Value.int b k2) (Value.int y m2) (decide (b = y)); rw [← e]; exact SeqAt.EqAt.int_int _ _ _ _
      | 2, _ => show SeqAt.EqAt _ _ (Value.int c k3) (Value.int z m3) (decide (c = z)); rw [← e]; exact SeqAt.EqAt.int_int _ _ _ _
    · have hj : j < 3 := h1
      match j, hj with
      | 0, _ => exact Ob.RcOp.lt_int a x k1 m1
      | 1, _ => exact Ob.RcOp.lt_int b y k2 m2
      | 2, _ => exact Ob.RcOp.lt_int c z k3 m3
  refine key X.prog X.w X.xe (EP X pins σ Q) ⟨.bl _, H, I, rfl, ?_⟩
  have e0 := lex_lt3 a b c x y z
  rw [show decide (3 < 3) = false from rfl, show min 3 3 = 3 from rfl, e0]
  exact h
theorem rd_lt3 {K : PySem.W.Frag} {H : Hp} {Q : VK} {p q : Addr} {a b c x y z : Int} (hp : SqT K H p [.int a, .int b, .int c]) (hq : SqT K H q [.int x, .int y, .int z]) (h : Q (.bl (lt3 a b c x y z)) H) : rLt3 K (.ref p) (.ref q) H Q :=
  ⟨p, q, a, b, c, x, y, z, rfl, rfl, hp, hq, h⟩
theorem rd_inD {K : PySem.W.Frag} {H : Hp} {Q : VK} {x y : V} {d : PyData} {ds : List PyData} (h1 : Dp K H x d) (h2 : Dp K H y (.list ds)) (s1 : SeqAt.shaped d = true) (s2 : SeqAt.shaped (.list ds) = true) (q : Q (.bl (ds.any fun z => PyData.eqv z d)) H) : rInD K x y H Q := ⟨d, ds, h1, h2, s1, s2, q⟩
theorem rd_notInD {K : PySem.W.Frag} {H : Hp} {Q : VK} {x y : V} {d : PyData} {ds : List PyData} (h1 : Dp K H x d) (h2 : Dp K H y (.list ds)) (s1 : SeqAt.shaped d = true) (s2 : SeqAt.shaped (.list ds) = true) (q : Q (.bl (!ds.any fun z => PyData.eqv z d)) H) : rNotInD K x y H Q := ⟨d, ds, h1, h2, s1, s2, q⟩
/-- the rows that a test leaves -/
theorem zip_fst {α β : Type} {xs : List α} {ys : List β} (l : xs.length = ys.length) : (xs.zip ys).map (·.1) = xs := List.map_fst_zip (Nat.le_of_eq l)
theorem zip_snd {α β : Type} {xs : List α} {ys : List β} (l : xs.length = ys.length) : (xs.zip ys).map (·.2) = ys := List.map_snd_zip (Nat.le_of_eq l.symm)
theorem filt_snd {α β : Type} {xs : List α} {ys : List β} (l : xs.length = ys.length) (p : β → Bool) : ((xs.zip ys).filter fun q => p q.2).map (·.2) = ys.filter p := by
  have e := zip_snd l
  rw [← e, List.filter_map]
  simp [Function.comp_def, e]
theorem rows_filt {α β : Type} {P : α → β → Prop} {xs : List α} {ys : List β} (l : xs.length = ys.length) (h : ∀ (i : Nat) v w, xs[i]? = some v → ys[i]? = some w → P v w) (p : β → Bool) :
    (((xs.zip ys).filter fun q => p q.2).map (·.1)).length = (ys.filter p).length ∧ ∀ (i : Nat) v w, (((xs.zip ys).filter fun q => p q.2).map (·.1))[i]? = some v → (ys.filter p)[i]? = some w → P v w := by
  have e := filt_snd l p
  refine ⟨by rw [← e, List.length_map, List.length_map], fun i v w h1 h2 => ?_⟩
  rw [← e] at h2
  rw [List.getElem?_map] at h1 h2
  cases hq : ((xs.zip ys).filter fun q => p q.2)[i]? with
  | none => rw [hq] at h1; cases h1
  | some q =>
    rw [hq] at h1 h2
    cases h1
    cases h2
    have m := (List.mem_filter.mp (List.mem_of_getElem? hq)).1
    obtain ⟨j, hj⟩ := List.mem_iff_getElem?.mp m
    rw [List.getElem?_zip_eq_some] at hj
    exact h j _ _ hj.1 hj.2
theorem mem_zip_at {α β : Type} {xs : List α} {ys : List β} {q : α × β} {i : Nat} (h : (xs.zip ys)[i]? = some q) : xs[i]? = some q.1 ∧ ys[i]? = some q.2 := List.getElem?_zip_eq_some.mp h
end Rd
namespace Ce
open PySem L2 Rd
/-! ### rules as sets of cells -/
def cpz (n r : Int) : Int := if n < r then n else r
def rkC (s : PySem.Str) : Int := if s = "line" then 0 else if s = "elder" then 1 else 2
def capC (r : Nat) (c : Cell) : Cell := (cpz c.1 r, cpz c.2.1 r, c.2.2)
def selfC : Cell := (0, 0, "line")
/-- parts of a kin -/
def KinC (c : Cell) : Prop := 0 ≤ c.1 ∧ 0 ≤ c.2.1 ∧ ((c.1 = 0 ∨ c.2.1 = 0) → c.2.2 = "line") ∧ (¬ (c.1 = 0 ∨ c.2.1 = 0) → c.2.2 = "elder" ∨ c.2.2 = "younger")
def rowsL (r : Nat) (CS : List Cell) : List Cell := (cellsL r).filter fun c => decide (c ∈ CS)
def letC (r : Nat) (CS : List Cell) (c : Cell) : Bool := decide (capC r c ∈ rowsL r CS)
def cellLt (a b : Cell) : Bool := lt3 (a.1 + a.2.1) a.1 (rkC a.2.2) (b.1 + b.2.1) b.1 (rkC b.2.2)
def keyC (c : Cell) : List Key := [.inl c.1, .inl c.2.1, .inr c.2.2]
theorem cells_nodup {r : Nat} (h1 : 1 ≤ r) (h4 : r ≤ 4) : (cellsL r).Nodup := by
  have : r = 1 ∨ r = 2 ∨ r = 3 ∨ r = 4 := by omega
  show List.Pairwise (· ≠ ·) (cellsL r)
  rcases this with rfl | rfl | rfl | rfl <;> decide +kernel
theorem cells_sorted {r : Nat} (h1 : 1 ≤ r) (h4 : r ≤ 4) : (cellsL r).Pairwise fun a b => cellLt a b = true := by
  have : r = 1 ∨ r = 2 ∨ r = 3 ∨ r = 4 := by omega
  rcases this with rfl | rfl | rfl | rfl <;> decide +kernel
theorem cells_pos {r : Nat} (h1 : 1 ≤ r) (h4 : r ≤ 4) : ∀ c ∈ cellsL r, 0 < c.1 + c.2.1 := by
  have : r = 1 ∨ r = 2 ∨ r = 3 ∨ r = 4 := by omega
  rcases this with rfl | rfl | rfl | rfl <;> decide +kernel
theorem cells_len {r : Nat} (h1 : 1 ≤ r) (h4 : r ≤ 4) : (cellsL r).length ≤ 40 := by
  have : r = 1 ∨ r = 2 ∨ r = 3 ∨ r = 4 := by omega
  rcases this with rfl | rfl | rfl | rfl <;> decide +kernel
theorem cells_mem {r : Nat} {c : Cell} (h0 : 0 < c.1 + c.2.1) (k : KinC c) (hu : c.1 ≤ r) (hd : c.2.1 ≤ r) : c ∈ cellsL r := by
  obtain ⟨u, d, s⟩ := c
  obtain ⟨k1, k2, k3, k4⟩ := k
  simp only at h0 k1 k2 k3 k4 hu hd
  obtain ⟨un, rfl⟩ := Int.eq_ofNat_of_zero_le k1
  unfold cellsL cellsTo
  refine List.mem_flatMap.mpr ⟨((un : Int) + d - 1).toNat, List.mem_range.mpr (by omega), ?_⟩
  unfold rowTo
  refine List.mem_flatMap.mpr ⟨un, List.mem_range.mpr (by omega), ?_⟩
  have e : 1 + ((((un : Int) + d - 1).toNat : Nat) : Int) - un = d := by omega
  unfold cellsAt
  rw [e, if_pos ⟨k2, hd⟩]
  refine List.mem_map.mpr ⟨s, ?_, rfl⟩
  unfold sidesC
  by_cases z : (un : Int) = 0 ∨ d = 0
  · rw [if_pos z, k3 z]; exact .head _
  · rw [if_neg z]
    rcases k4 z with rfl | rfl
    · exact .head _
    · exact .tail _ (.head _)
theorem cells_kin {r : Nat} {c : Cell} (h : c ∈ cellsL r) : KinC c ∧ c.1 ≤ r ∧ c.2.1 ≤ r := by
  obtain ⟨h1, h2, h3, h4, h5⟩ := cellsTo_mem h
  refine ⟨⟨h1, h3, fun z => ?_, fun z => ?_⟩, h2, h4⟩
  · unfold sidesC at h5; rw [if_pos z] at h5; simpa using h5
  · unfold sidesC at h5; rw [if_neg z] at h5; simpa using h5
theorem cap_kin {r : Nat} {c : Cell} (h1 : 1 ≤ r) (k : KinC c) : KinC (capC r c) ∧ (capC r c).1 ≤ r ∧ (capC r c).2.1 ≤ r := by
  obtain ⟨u, d, s⟩ := c
  obtain ⟨k1, k2, k3, k4⟩ := k
  simp only at k1 k2 k3 k4
  have zu : cpz u r = 0 ↔ u = 0 := by unfold cpz; split <;> omega
  have zd : cpz d r = 0 ↔ d = 0 := by unfold cpz; split <;> omega
  refine ⟨⟨by show 0 ≤ cpz u r; unfold cpz; split <;> omega, by show 0 ≤ cpz d r; unfold cpz; split <;> omega, fun z => k3 ?_, fun z => k4 ?_⟩, by show cpz u r ≤ r; unfold cpz; split <;> omega, by show cpz d r ≤ r; unfold cpz; split <;> omega⟩
  · exact z.imp zu.mp zd.mp
  · exact fun q => z (q.imp zu.mpr zd.mpr)
theorem cap_pos {r : Nat} {c : Cell} (h1 : 1 ≤ r) (k : KinC c) (h0 : c.1 + c.2.1 ≠ 0) : 0 < (capC r c).1 + (capC r c).2.1 := by
  obtain ⟨k1, k2, _⟩ := k
  show 0 < cpz c.1 r + cpz c.2.1 r
  unfold cpz
  split <;> split <;> omega
theorem cap_mem {r : Nat} {c : Cell} (h1 : 1 ≤ r) (k : KinC c) (h0 : c.1 + c.2.1 ≠ 0) : capC r c ∈ cellsL r := by
  obtain ⟨a, b, d⟩ := cap_kin h1 k
  exact cells_mem (cap_pos h1 k h0) a b d
theorem cap_id {r : Nat} {c : Cell} (hu : c.1 ≤ r) (hd : c.2.1 ≤ r) : capC r c = c := by
  obtain ⟨u, d, s⟩ := c
  simp only at hu hd
  have e1 : cpz u r = u := by unfold cpz; split <;> omega
  have e2 : cpz d r = d := by unfold cpz; split <;> omega
  show (cpz u r, cpz d r, s) = (u, d, s)
  rw [e1, e2]
theorem cap_cells {r : Nat} {c : Cell} (h : c ∈ cellsL r) : capC r c = c := cap_id (cells_kin h).2.1 (cells_kin h).2.2
theorem cap_self {r : Nat} (h1 : 1 ≤ r) : capC r selfC = selfC := cap_id (by show (0 : Int) ≤ r; omega) (by show (0 : Int) ≤ r; omega)
theorem kin_self {c : Cell} (k : KinC c) (h : c.1 + c.2.1 = 0) : c = selfC := by
  obtain ⟨u, d, s⟩ := c
  obtain ⟨k1, k2, k3, k4⟩ := k
  simp only at k1 k2 k3 k4 h
  have e1 : u = 0 := by omega
  have e2 : d = 0 := by omega
  subst e1 e2
  rw [k3 (.inl rfl)]; rfl
theorem self_off {r : Nat} (h1 : 1 ≤ r) (h4 : r ≤ 4) : selfC ∉ cellsL r := fun m => by
  have := cells_pos h1 h4 _ m
  exact absurd this (by decide)
theorem rows_mem {r : Nat} {CS : List Cell} {c : Cell} : c ∈ rowsL r CS ↔ c ∈ cellsL r ∧ c ∈ CS := by
  unfold rowsL
  rw [List.mem_filter, decide_eq_true_eq]
theorem rows_len {r : Nat} (h1 : 1 ≤ r) (h4 : r ≤ 4) {CS : List Cell} : (rowsL r CS).length ≤ 40 := Nat.le_trans (List.length_filter_le _ _) (cells_len h1 h4)
theorem rows_congr {r : Nat} {CS DS : List Cell} (h : ∀ c ∈ cellsL r, c ∈ CS ↔ c ∈ DS) : rowsL r CS = rowsL r DS := by
  unfold rowsL
  exact List.filter_congr fun c hc => decide_eq_decide.mpr (h c hc)
theorem rows_nodup {r : Nat} (h1 : 1 ≤ r) (h4 : r ≤ 4) {CS : List Cell} : (rowsL r CS).Nodup := (cells_nodup h1 h4).filter _
theorem let_kin {r : Nat} {CS : List Cell} {c : Cell} (h1 : 1 ≤ r) (k : KinC c) (h0 : c.1 + c.2.1 ≠ 0) : letC r CS c = decide (capC r c ∈ CS) := by
  unfold letC
  rw [decide_eq_decide, rows_mem]
  exact ⟨fun h => h.2, fun h => ⟨cap_mem h1 k h0, h⟩⟩
theorem let_self {r : Nat} {CS : List Cell} (h1 : 1 ≤ r) (h4 : r ≤ 4) : letC r CS selfC = false := by
  unfold letC
  rw [cap_self h1, decide_eq_false_iff_not, rows_mem]
  exact fun h => self_off h1 h4 h.1
theorem let_cell {r : Nat} {CS : List Cell} {c : Cell} (h : c ∈ cellsL r) : letC r CS c = decide (c ∈ CS) := by
  unfold letC
  rw [cap_cells h, decide_eq_decide, rows_mem]
  exact ⟨fun q => q.2, fun q => ⟨h, q⟩⟩
theorem nodup_le : ∀ {L S : List Cell}, L.Nodup → (∀ c ∈ L, c ∈ S) → L.length ≤ S.length
  | [], _, _, _ => Nat.zero_le _
  | x :: L, S, n, h => by
    obtain ⟨n1, n2⟩ := List.nodup_cons.mp n
    have hx : x ∈ S := h x (.head _)
    have := nodup_le (L := L) (S := S.erase x) n2 fun c hc => (List.mem_erase_of_ne (fun e => n1 (by rw [← e]; exact hc))).mpr (h c (.tail _ hc))
    rw [List.length_erase_of_mem hx] at this
    have p : 0 < S.length := List.length_pos_of_mem hx
    rw [List.length_cons]
    omega
/-- one cell more, at its place -/
theorem put_rows {r : Nat} {CS : List Cell} {c : Cell} (h1 : 1 ≤ r) (h4 : r ≤ 4) (hc : c ∈ cellsL r) (hn : c ∉ rowsL r CS) :
    ∃ A B, rowsL r CS = A ++ B ∧ rowsL r (CS ++ [c]) = A ++ [c] ++ B ∧ (∀ x ∈ A, cellLt x c = true) ∧ (∀ x ∈ B, cellLt x c = false) := by
  obtain ⟨L1, L2, e⟩ := List.append_of_mem hc
  have so := cells_sorted h1 h4
  rw [e] at so
  obtain ⟨so1, so2, so3⟩ := List.pairwise_append.mp so
  have so4 := (List.pairwise_cons.mp so2).1
  have asym : ∀ a b : Cell, cellLt a b = true → cellLt b a = false := fun a b h => by
    unfold cellLt lt3 at h ⊢
    rw [decide_eq_true_eq] at h
    rw [decide_eq_false_iff_not]
    omega
  have irr : ∀ a : Cell, cellLt a a = false := fun a => by
    unfold cellLt lt3
    rw [decide_eq_false_iff_not]
    omega
  have nd := cells_nodup h1 h4
  rw [e] at nd
  obtain ⟨nd1, nd2, nd3⟩ := List.nodup_append.mp nd
  have m1 : ∀ x ∈ L1, x ≠ c := fun x hx => nd3 x hx c (.head _)
  have m2 : ∀ x ∈ L2, x ≠ c := fun x hx z => (List.nodup_cons.mp nd2).1 (z ▸ hx)
  have cC : c ∉ CS := fun z => hn (rows_mem.mpr ⟨hc, z⟩)
  have f1 : L1.filter (fun x => decide (x ∈ CS ++ [c])) = L1.filter (fun x => decide (x ∈ CS)) := List.filter_congr fun x hx => decide_eq_decide.mpr (by rw [List.mem_append, List.mem_singleton]; exact ⟨fun z => z.resolve_right (m1 x hx), .inl⟩)
  have f2 : L2.filter (fun x => decide (x ∈ CS ++ [c])) = L2.filter (fun x => decide (x ∈ CS)) := List.filter_congr fun x hx => decide_eq_decide.mpr (by rw [List.mem_append, List.mem_singleton]; exact ⟨fun z => z.resolve_right (m2 x hx), .inl⟩)
  refine ⟨L1.filter fun x => decide (x ∈ CS), L2.filter fun x => decide (x ∈ CS), ?_, ?_, fun x hx => so3 x (List.mem_filter.mp hx).1 c (.head _), fun x hx => asym _ _ (so4 x (List.mem_filter.mp hx).1)⟩
  · unfold rowsL
    rw [e, List.filter_append, List.filter_cons_of_neg (by simpa using cC)]
  · unfold rowsL
    rw [e, List.filter_append, List.filter_cons_of_pos (by simp), f1, f2]
    simp
/-! ### dicts of cells -/
theorem keyC_inj {a b : Cell} (h : keyC a = keyC b) : a = b := by
  obtain ⟨u, d, s⟩ := a
  obtain ⟨u', d', s'⟩ := b
  simp only [keyC, List.cons.injEq, Sum.inl.injEq, Sum.inr.injEq, and_true] at h
  obtain ⟨rfl, rfl, rfl⟩ := h
  rfl
theorem valV_put {κ : Type} [DecidableEq κ] {kvs : List (κ × V)} {k j : κ} {v : V} : (valV (putK kvs k v) j).isSome = (decide (j = k) || (valV kvs j).isSome) := by
  rw [← valV_any, ← valV_any]
  unfold putK
  by_cases h : (kvs.any fun kv => decide (kv.1 = k)) = true
  · rw [if_pos h, List.any_map]
    rw [Bool.eq_iff_iff]
    simp only [Bool.or_eq_true, List.any_eq_true, Function.comp, decide_eq_true_eq]
    constructor
    · rintro ⟨x, hx, e⟩
      split at e
      · next z => exact .inl (e.symm.trans z)
      · exact .inr ⟨x, hx, e⟩
    · rintro (rfl | ⟨x, hx, e⟩)
      · obtain ⟨x, hx, e⟩ := List.any_eq_true.mp h
        rw [decide_eq_true_eq] at e
        exact ⟨x, hx, by rw [if_pos e]; exact e⟩
      · refine ⟨x, hx, ?_⟩
        split
        · exact e
        · exact e
  · rw [if_neg h, List.any_append, Bool.or_comm]
    congr 1
    simp [eq_comm]
theorem putK_same_len {κ : Type} [DecidableEq κ] {kvs : List (κ × V)} {k : κ} {v : V} (h : (valV kvs k).isSome = true) : (putK kvs k v).length = kvs.length := by
  rw [← valV_any] at h
  unfold putK
  rw [if_pos h, List.length_map]
def DOf (kvs : List (List Key × V)) (S : List Cell) : Prop := (∀ c, (valV kvs (keyC c)).isSome = decide (c ∈ S)) ∧ ∃ L : List Cell, L.Nodup ∧ (∀ c ∈ L, c ∈ S) ∧ kvs.length ≤ L.length
theorem DOf.nil : DOf [] [] := ⟨fun c => rfl, [], List.nodup_nil, fun _ h => h, Nat.le_refl _⟩
theorem DOf.le {kvs : List (List Key × V)} {S : List Cell} (h : DOf kvs S) : kvs.length ≤ S.length := by
  obtain ⟨_, L, n, m, l⟩ := h
  exact Nat.le_trans l (nodup_le n m)
theorem DOf.put {kvs : List (List Key × V)} {S T : List Cell} {c : Cell} {v : V} (h : DOf kvs S) (e : ∀ x, x ∈ T ↔ x ∈ S ∨ x = c) : DOf (putK kvs (keyC c) v) T := by
  obtain ⟨h1, L, n, m, l⟩ := h
  refine ⟨fun x => ?_, ?_⟩
  · rw [valV_put, h1, Bool.eq_iff_iff, Bool.or_eq_true, decide_eq_true_eq, decide_eq_true_eq, decide_eq_true_eq, e]
    exact ⟨fun z => z.elim (fun q => .inr (keyC_inj q)) .inl, fun z => z.elim .inr (fun q => .inl (by rw [q]))⟩
  · by_cases hc : c ∈ S
    · exact ⟨L, n, fun x hx => (e x).mpr (.inl (m x hx)), by rw [putK_same_len (by rw [h1]; exact decide_eq_true hc)]; exact l⟩
    · refine ⟨c :: L, List.nodup_cons.mpr ⟨fun z => hc (m c z), n⟩, fun x hx => ?_, ?_⟩
      · rcases List.mem_cons.mp hx with rfl | hx
        · exact (e x).mpr (.inr rfl)
        · exact (e x).mpr (.inl (m x hx))
      · rw [List.length_cons]
        have := length_putK kvs (keyC c) v
        omega
theorem DOf.congr {kvs : List (List Key × V)} {S T : List Cell} (h : DOf kvs S) (e : ∀ x, x ∈ T ↔ x ∈ S) : DOf kvs T := by
  obtain ⟨h1, L, n, m, l⟩ := h
  exact ⟨fun x => by rw [h1, decide_eq_decide]; exact (e x).symm, L, n, fun x hx => (e x).mpr (m x hx), l⟩
end Ce

/-! Io: the layer's twenty-first part: for x in o, o's class with an own __iter__ that gives a list's new iterator -/
namespace Rd
open PySem PySem.Spec PyProof.Rows L2
/-- a def whose promise may tell that what it makes is new on the heap: n is the heap's size at the call -/
structure FnN (P : Program) (w : World) (K : PySem.W.Frag) (mg : Str → Option Value) (base : Heap) (k : Nat) (f : Addr) (fd : FuncData) (ps : List Str) (spN : Nat → Sp) : Prop where
  ln : ∀ n vs H Q E, spN n vs H Q E → vs.length = ps.length
  go : ∀ (B : Around) (outs : List Env) (s : Shared) (H : Hp) (given : Args) (us : List Value) (vs : List V) (Q : VK) (E : XK), Room k B → Env0 P w K mg base B outs s H → BindsTo s fd given (ps.zip us) → Vals vs us → spN s.heap.objs.size vs H Q E →
    codeAny (model P w) B (.call (.ref f) given) (CR CX0 outs P w H s Q E) s
theorem FnN.ok {P : Program} {w : World} {K : PySem.W.Frag} {mg : Str → Option Value} {base : Heap} {k : Nat} {f : Addr} {fd : FuncData} {ps : List Str} {spN : Nat → Sp} {sp : Sp} (F : FnN P w K mg base k f fd ps spN) (h : ∀ n vs H Q E, sp vs H Q E → spN n vs H Q E) : FnOk P w K mg base CX0 k f fd ps sp :=
  ⟨fun vs H Q E q => F.ln 0 vs H Q E (h 0 vs H Q E q), fun B outs s H given us vs Q E r e b v q => F.go B outs s H given us vs Q E r e b v (h _ vs H Q E q)⟩
theorem okNew {P : Program} {w : World} {K : PySem.W.Frag} {mg : Str → Option Value} {base : Heap} {x qual : Str} {st : Stmt} {f : Addr} {fd : FuncData} {N ps : List Str} {k : Nat} {spN : Nat → Sp} (F : Fun K x qual st f fd) (S : FnScope N ps (defScope st)) (ln : ∀ n vs H Q E, spN n vs H Q E → vs.length = ps.length)
    (body : ∀ (cdv : Value) (B : Around) (outs : List Env) (s : Shared) (H : Hp) (vs : List V) (Q : VK) (E : XK), Room k (B.deeper (envOfC qual (defScope st) s.heap.objs.size f cdv)) → spN s.heap.objs.size vs H Q E →
      ∃ t, PSs (cxOf CX0 P w K mg base N qual (defScope st) f cdv B outs s H E) (defBody st) t ∧ t { nx := fun _ H' => Q .non H', rt := Q } (L2.start N vs) H) : FnN P w K mg base (k + 1) f fd ps spN := by
  obtain ⟨oc, od, kV, doc, pm, an, cdv, ct, osl, rfl, look, code⟩ := F.ex
  refine ⟨ln, fun B outs s H given us vs Q E room e0 binds vals want => ?_⟩
  have inK := e0.mod.kin.keeps fun b o e => (e0.bs b o e).1
  have free := e0.mod.nolimit.keeps fun b o e => (e0.bs b o e).1
  have kinds : ∀ y ∈ ps.zip us, (defScope st).names.lookup y.1 = some .local ∨ ((defScope st).names.lookup y.1 = some .cell ∧ ((cellsFrom (s.heap.objs.size + 1) (defScope st).names []).lookup y.1).isSome = true) := by
    rintro ⟨m, v⟩ hy
    exact (S.par m (List.of_mem_zip hy).1).imp id fun c => ⟨c, PySem.W.cellsFrom_some _ _ _ (.inl c)⟩
  refine codeAny_call_function room.depth (inK _ _ look) rfl S.co S.gen rfl (PySem.W.codeRec_of inK code) (binds _ _ _ _ (wpAny_newFunctionEnv_cells S.kind kinds fun env made s1 in1 => ?_))
  subst made
  refine ⟨free.keeps in1.toInCall.keep, codeAny_func ?_⟩
  obtain ⟨t, term, reads⟩ := body cdv B outs s H vs Q E (room.deeper _) want
  have I0 := inv_start (CX := CX0) (E := E) S room.hd e0 (ln _ _ _ _ _ want) vals in1
  refine wpAny_mono (term.run [] s1 (start N vs) H _ I0 reads) (fun fl s' hs => ?_) fun _ _ bad => bad
  match fl, hs with
  | .ret u, ⟨v, σ', H', J, rv, q⟩ => exact ⟨v, H', J.os, J.bare, J.base, J.hok, rv, q⟩
  | .next, ⟨σ', H', J, q⟩ => exact ⟨V.non, H', J.os, J.bare, J.base, J.hok, rfl, q⟩
  | .brk, ⟨_, _, _, q⟩ => exact q.elim
  | .cont, ⟨_, _, _, q⟩ => exact q.elim
/-- a method with such a promise, as its callers know it -/
structure CalN (P : Program) (w : World) (K : PySem.W.Frag) (mg : Str → Option Value) (base : Heap) (C : Addr) (m : Str) (k : Nat) (ps : List Str) (spN : Nat → Sp) : Prop where
  cl : Cls K C
  ex : ∃ (f : Addr) (fd : FuncData), FnN P w K mg base k f fd ps spN ∧ Meth K C m f ∧ Binds K fd ps []
theorem CalN.cal {P : Program} {w : World} {K : PySem.W.Frag} {mg : Str → Option Value} {base : Heap} {C : Addr} {m : Str} {k : Nat} {ps : List Str} {spN : Nat → Sp} {sp : Sp} (c : CalN P w K mg base C m k ps spN) (h : ∀ n vs H Q E, sp vs H Q E → spN n vs H Q E) : CalM P w K mg base CX0 C m k ps sp := by
  obtain ⟨cl, f, fd, F, r⟩ := c
  exact ⟨cl, f, fd, F.ok h, r⟩
/-- what such an object gives a for: the list that its iterator walks -/
def iOwn (K : PySem.W.Frag) (C : Addr) (spN : Nat → Sp) (tl : TE) : TI := fun σ H R => tl σ H fun x H1 => ∃ a dx fs, x = .ref a ∧ H1 a = some (.ins C dx fs) ∧ ∀ n, spN n [.ref a] H1 (fun v H2 => ∃ it l xs, v = .ref it ∧ H2 = upd H1 it (ItO l it 0) ∧ H1 it = none ∧ n ≤ it ∧ SqL K H1 l xs ∧ R (Itl K l) H1) E0
theorem pi_own {X : Cx} {C : Addr} {k : Nat} {spN : Nat → Sp} {tg l : Expr} {tl : TE} (c : CalN X.prog X.w X.K X.mg X.base C "__iter__" k ["self"] spN) (hr : Room k X.A) (hl : PE X l tl) : PI X tg l (iOwn X.K C spN tl) := by
  refine ⟨fun pins s σ H R I h => thn (hl.run pins s σ H _ I h) fun v s1 ⟨x, H1, I1, r1, a, dx, fs, ex, ha, want⟩ => ?_⟩
  subst ex
  obtain rfl : v = Value.ref a := r1
  obtain ⟨cl, f, fd, F, hm, hb⟩ := c
  obtain ⟨mA, O, _⟩ := ins_get I1.hok ha
  obtain ⟨od, J, _⟩ := O.look
  obtain ⟨m0, fr⟩ := I1.fr
  refine PySem.W.owit_iter fr I1.ok.mod.kin J hm.at_ hm.fn ?_
  have bind1 := hb s1 [.ref a] I1.kIn rfl
  rw [List.append_nil] at bind1
  refine wpAny_call (codeAny_mono (F.go X.A X.stack s1 H1 ⟨[.ref a], []⟩ [.ref a] [.ref a] _ E0 hr I1.env0 bind1 (.cons rfl .nil) (want s1.heap.objs.size)) fun r s' q => ?_)
  match r, q with
  | .error e, q => exact q.elim
  | .ok .next, q => exact False.elim q
  | .ok .brk, q => exact False.elim q
  | .ok .cont, q => exact False.elim q
  | .ok (.ret u), q =>
    obtain ⟨v, H2, I2, rv, it, li, xs, ev, e2, n2, big, hli, hR⟩ := I1.after q
    subst ev e2
    obtain rfl : u = Value.ref it := rv
    have hit : upd H1 it (ItO li it 0) it = some (ItO li it 0) := upd_same
    have get := itO_get I2 hit
    unfold PySem.W.OwitIt
    refine wpAny_specialOf (T := "list_iterator") ⟨_, get, rfl⟩ slot_listiter_next.lookup ?_
    have I3 := ItX.inv_drop I2 (show upd H1 it (ItO li it 0) it = some (.ext _) from hit)
    have e3 : ItX.dropH (upd H1 it (ItO li it 0)) it = H1 := ItX.dropH_upd n2
    have fp := ItX.inv_fp I2 hit (Nat.le_trans I1.sz big)
    rw [e3] at fp
    rw [e3] at I3
    refine ⟨it, [it], _, Itl X.K li, H1, rfl, I3, turn_list li it, ⟨_, get, rfl, rfl⟩, fun b hb => ?_, hR⟩
    rw [List.mem_singleton.mp hb]
    exact fp
def ForO (K : PySem.W.Frag) (C : Addr) (spN : Nat → Sp) (x : V) (g : TG) (tb : TS) (D : Ends) (σ : L2.St) (H1 : Hp) : Prop := ∃ a dx fs, x = .ref a ∧ H1 a = some (.ins C dx fs) ∧ ∀ n, spN n [.ref a] H1 (fun v H2 => ∃ it l xs, v = .ref it ∧ H2 = upd H1 it (ItO l it 0) ∧ H1 it = none ∧ n ≤ it ∧ SqL K H1 l xs ∧ ForJ g tb D σ (Itl K l) H1) E0
def LcO (K : PySem.W.Frag) (C : Addr) (spN : Nat → Sp) (x : V) (g : TG) (tt : TT) (te : TE) (vs : List Nat) (σ : L2.St) (H1 : Hp) (Q : VK) : Prop := ∃ a dx fs, x = .ref a ∧ H1 a = some (.ins C dx fs) ∧ ∀ n, spN n [.ref a] H1 (fun v H2 => ∃ it l xs, v = .ref it ∧ H2 = upd H1 it (ItO l it 0) ∧ H1 it = none ∧ n ≤ it ∧ SqL K H1 l xs ∧ LcJ g tt te vs σ Q (Itl K l) H1) E0
section
variable {K : PySem.W.Frag} {C : Addr} {spN : Nat → Sp} {D : Ends} {σ : L2.St} {H : Hp} {g : TG} {tb : TS} {tl te : TE} {tt : TT} {vs : List Nat} {Q : VK}
theorem rd_forO (h : tl σ H fun x H1 => ForO K C spN x g tb D σ H1) : tFor (iOwn K C spN tl) g tb D σ H := h
theorem rd_lcO (h : tl σ H fun x H1 => LcO K C spN x g tt te vs σ H1 Q) : tLc (iOwn K C spN tl) g tt te vs σ H Q := h
/-- for x in o, an __iter__ that promises the iterator of the list at l -/
theorem forOL {a dx l : Addr} {fs : List (Str × V)} {xs : List V} (ha : H a = some (.ins C dx fs)) (hx : SqL K H l xs) (hp : ∀ n (Q : VK), (∀ it, H it = none → n ≤ it → Q (.ref it) (upd H it (ItO l it 0))) → spN n [.ref a] H Q E0) (Pv : Nat → L2.St → Hp → Prop) (h0 : Pv 0 σ H) (hl : ∀ i σ H, i ≤ xs.length → Pv i σ H → SqL K H l xs)
    (hs : ∀ (i : Nat) (x : V) σ H, xs[i]? = some x → Pv i σ H → g x σ H fun σ2 H2 => tb { D with nx := Pv (i + 1), ct := Pv (i + 1), bk := D.nx } σ2 H2) (hd : ∀ σ H, Pv xs.length σ H → D.nx σ H) : ForO K C spN (.ref a) g tb D σ H :=
  ⟨a, dx, fs, rfl, ha, fun n => hp n _ fun it ni big => ⟨it, l, xs, rfl, rfl, ni, big, hx, for_list Pv h0 hl hs hd⟩⟩
end
end Rd

/-! Hd: the layer's twenty-second part: what the top leaves, by one run in the kernel: facts that can be decided, functions, tables -/
namespace Hd
open PySem PySem.Spec PyProof.Rows L2
structure DP where
  p : PySem.W.Frag → Prop
  d : ∀ K, Decidable (p K)
def DP.b (x : DP) (K : PySem.W.Frag) : Bool := @decide (x.p K) (x.d K)
theorem DP.ok {x : DP} {K : PySem.W.Frag} (h : x.b K = true) : x.p K := @of_decide_eq_true _ (x.d K) h
/-! ### addresses by names -/
def ga (K : PySem.W.Frag) (x : Str) : Addr := match PySem.W.nsIn K mainGlobals x with
  | some (some (.ref a)) => a
  | _ => 0
def ma (K : PySem.W.Frag) (C m : Str) : Addr := match PySem.W.findIn K (.ref (ga K C)) m with
  | some (some (.ref a)) => a
  | _ => 0
def rcA (K : PySem.W.Frag) (p : Addr) (T : String) : Addr := match PySem.W.recIn K p T with
  | some (.ref a :: _) => a
  | _ => 0
def rcR (K : PySem.W.Frag) (p : Addr) (T : String) : List Value := match PySem.W.recIn K p T with
  | some (_ :: r) => r
  | _ => []
/-! ### functions -/
abbrev FV : Type := Option (Str × Str × Arguments × FuncBody × Scope × Addr × Addr)
def fnV (K : PySem.W.Frag) (a : Addr) : FV := match K.lookup a with
  | some ⟨_, _, .func fd, _⟩ => some (fd.name, fd.qualname, fd.params, fd.body, fd.scope, fd.globals, fd.builtins)
  | _ => none
abbrev fvOf (x q : Str) (st : Stmt) : FV := some (x, q, defArgs st, .stmts (defBody st), defScope st, mainGlobals, builtinsNs)
def fnB (K : PySem.W.Frag) (a : Addr) : Bool := match K.lookup a with
  | some ⟨_, _, .func fd, _⟩ => PySem.W.codeIn K fd.code fd.qualname && (fd.closure.isEmpty && decide (fd.defaults = .none))
  | _ => false
theorem fun_ok {K : PySem.W.Frag} {a : Addr} {x q : Str} {st : Stmt} (e : fnV K a = fvOf x q st) (b : fnB K a = true) :
    ∃ oc od kV dc pm an cd ct sl, K.lookup a = some ⟨oc, od, .func (PySem.W.fnOf x q (defArgs st) (defBody st) (defScope st) .none kV dc pm an cd ct), sl⟩ ∧ PySem.W.codeIn K cd q = true := by
  unfold fnV at e
  unfold fnB at b
  cases h : K.lookup a with
  | none => rw [h] at e; cases e
  | some o =>
    obtain ⟨oc, od, dt, sl⟩ := o
    rw [h] at e b
    cases dt with
    | func fd =>
      obtain ⟨n1, n2, n3, n4, n5, n6, n7, n8, n9, n10, n11, n12, n13, n14, n15⟩ := fd
      simp only [Option.some.injEq, Prod.mk.injEq] at e
      obtain ⟨rfl, rfl, rfl, rfl, rfl, rfl, rfl⟩ := e
      simp only [Bool.and_eq_true, List.isEmpty_iff, decide_eq_true_eq] at b
      obtain ⟨b1, rfl, rfl⟩ := b
      exact ⟨oc, od, n9, n10, n11, n12, n13, n14, sl, rfl, b1⟩
    | _ => cases e
def iniB (K : PySem.W.Frag) (g C : Addr) (q file : Str) : Bool := match K.lookup g with
  | some ⟨c, _, .func fd, _⟩ => decide (c = .type "function") && (decide (fd.defaults = .none) && (match fd.closure, fd.code with
    | [(x, cc)], .ref cd => decide (x = ("__class__" : Str)) && (PySem.W.codeIn K (.ref cd) q && ((match K.lookup cc with
      | some ⟨_, _, .cell (some v), _⟩ => decide (v = .ref C)
      | _ => false) && (match K.lookup cd with
      | some ⟨_, _, .fields vs, _⟩ => (match (vs[2]? : Option Value) with
        | some (Value.str f _) => file == f
        | _ => false)
      | _ => false)))
    | _, _ => false))
  | _ => false
theorem ini_ok {K : PySem.W.Frag} {g C : Addr} {q file : Str} {st : Stmt} (e : fnV K g = fvOf "__init__" q st) (b : iniB K g C q file = true) :
    ∃ cc cd od kV dc pm an ct sl ccl cdd vs ccs fl tf cl cld csl, K.lookup g = some ⟨.type "function", od, .func (PySem.W.fnX "__init__" q (defArgs st) (defBody st) (defScope st) [("__class__", cc)] .none kV dc pm an (.ref cd) ct), sl⟩ ∧
      PySem.W.codeIn K (.ref cd) q = true ∧ K.lookup cd = some ⟨ccl, cdd, .fields vs, ccs⟩ ∧ vs[2]? = some (.str fl tf) ∧ (file == fl) = true ∧ K.lookup cc = some ⟨cl, cld, .cell (some (.ref C)), csl⟩ := by
  unfold fnV at e
  unfold iniB at b
  cases h : K.lookup g with
  | none => rw [h] at e; cases e
  | some o =>
    obtain ⟨oc, od, dt, sl⟩ := o
    rw [h] at e b
    cases dt with
    | func fd =>
      obtain ⟨n1, n2, n3, n4, n5, n6, n7, n8, n9, n10, n11, n12, n13, n14, n15⟩ := fd
      simp only [Option.some.injEq, Prod.mk.injEq] at e
      obtain ⟨rfl, rfl, rfl, rfl, rfl, rfl, rfl⟩ := e
      simp only [Bool.and_eq_true, decide_eq_true_eq] at b
      obtain ⟨rfl, rfl, b⟩ := b
      cases n7 with
      | nil => cases b
      | cons y r =>
        cases r with
        | cons _ _ => cases b
        | nil =>
          obtain ⟨x, cc⟩ := y
          cases n13 with
          | ref cd =>
            simp only [Bool.and_eq_true, decide_eq_true_eq] at b
            obtain ⟨rfl, b1, b2, b3⟩ := b
            cases h2 : K.lookup cc with
            | none => rw [h2] at b2; cases b2
            | some o2 =>
              obtain ⟨c2, d2, t2, s2⟩ := o2
              rw [h2] at b2
              cases t2 with
              | cell v =>
                cases v with
                | none => cases b2
                | some v =>
                  have e2 : v = .ref C := of_decide_eq_true b2
                  subst e2
                  cases h3 : K.lookup cd with
                  | none => rw [h3] at b3; cases b3
                  | some o3 =>
                    obtain ⟨c3, d3, t3, s3⟩ := o3
                    rw [h3] at b3
                    cases t3 with
                    | fields vs =>
                      simp only at b3
                      cases h4 : vs[2]? with
                      | none => rw [h4] at b3; cases b3
                      | some u =>
                        rw [h4] at b3
                        cases u with
                        | str f tf => exact ⟨cc, cd, od, n9, n10, n11, n12, n14, sl, c3, d3, vs, s3, f, tf, c2, d2, s2, rfl, b1, h3, h4, b3, h2⟩
                        | _ => cases b3
                    | _ => cases b3
              | _ => cases b2
          | _ => cases b
    | _ => cases e
/-! ### error classes -/
def excB (K : PySem.W.Frag) (C : Addr) (bm : List Value) : Bool := match K.lookup C with
  | some ⟨c, _, .cls cd, sl⟩ => decide (c = .type "type") && (decide (cd.mro = .ref C :: bm) && (cd.hasDict && (!cd.hasDel && (match sl.toList with
    | [_, _, _, _, v, _] => decide (v = some (.builtin "ValueError.__new__"))
    | _ => false))))
  | _ => false
theorem exc_ok {K : PySem.W.Frag} {C : Addr} {bm : List Value} (b : excB K C bm = true) :
    ∃ nm q N bs sn sub ab col dd m0 m1 m2 m3 m5, K.lookup C = some (PySem.excClassObj nm q C N bs bm true sn sub ab col dd m0 m1 m2 m3 m5 "ValueError.__new__") := by
  unfold excB at b
  cases h : K.lookup C with
  | none => rw [h] at b; cases b
  | some o =>
    obtain ⟨oc, od, dt, sl⟩ := o
    rw [h] at b
    cases dt with
    | cls cd =>
      obtain ⟨c1, c2, c3, c4, c5, c6, c7, c8, c9, c10, c11⟩ := cd
      simp only [Bool.and_eq_true, decide_eq_true_eq, Bool.not_eq_true'] at b
      obtain ⟨rfl, rfl, rfl, rfl, b⟩ := b
      obtain ⟨ls⟩ := sl
      match ls, b with
      | [m0, m1, m2, m3, v, m5], b =>
        have e : v = some (.builtin "ValueError.__new__") := of_decide_eq_true b
        subst e
        exact ⟨c1, c5, c4, c2, c7, c8, c9, c10, od, m0, m1, m2, m3, m5, rfl⟩
      | [], b => cases b
      | [_], b => cases b
      | [_, _], b => cases b
      | [_, _, _], b => cases b
      | [_, _, _, _], b => cases b
      | [_, _, _, _, _], b => cases b
      | _ :: _ :: _ :: _ :: _ :: _ :: _ :: _, b => cases b
    | _ => cases b
/-! ### numbers, texts with their tokens -/
def intB (o : Option (Option Value)) (i : Int) : Bool := match o with
  | some (some (.int j _)) => decide (j = i)
  | _ => false
theorem int_ok {o : Option (Option Value)} {i : Int} (h : intB o i = true) : ∃ t, o = some (some (.int i t)) := by
  unfold intB at h
  split at h
  · rename_i j t
    obtain rfl : j = i := of_decide_eq_true h
    exact ⟨t, rfl⟩
  · cases h
def strB (o : Option (Option Value)) (i : Str) : Bool := match o with
  | some (some (.str j _)) => decide (j = i)
  | _ => false
theorem str_ok {o : Option (Option Value)} {i : Str} (h : strB o i = true) : ∃ t, o = some (some (.str i t)) := by
  unfold strB at h
  split at h
  · rename_i j t
    obtain rfl : j = i := of_decide_eq_true h
    exact ⟨t, rfl⟩
  · cases h
/-- a constant of a class: an int, a text -/
def conIB (K : PySem.W.Frag) (C : Addr) (f : Str) (i : Int) : Bool := match PySem.W.findIn K (.ref C) f with
  | some (some (.int j t)) => decide (j = i) && decide (PySem.W.specialIn K (.int j t) "__get__" = some none)
  | _ => false
theorem conI_ok {K : PySem.W.Frag} {C : Addr} {f : Str} {i : Int} (h : conIB K C f i = true) : ∃ t, PySem.W.findIn K (.ref C) f = some (some (.int i t)) ∧ PySem.W.specialIn K (.int i t) "__get__" = some none := by
  unfold conIB at h
  split at h
  · rename_i j t e
    simp only [Bool.and_eq_true, decide_eq_true_eq] at h
    obtain ⟨rfl, h2⟩ := h
    exact ⟨t, e, h2⟩
  · cases h
def conSB (K : PySem.W.Frag) (C : Addr) (f : Str) (i : Str) : Bool := match PySem.W.findIn K (.ref C) f with
  | some (some (.str j t)) => decide (j = i) && decide (PySem.W.specialIn K (.str j t) "__get__" = some none)
  | _ => false
theorem conS_ok {K : PySem.W.Frag} {C : Addr} {f : Str} {i : Str} (h : conSB K C f i = true) : ∃ t, PySem.W.findIn K (.ref C) f = some (some (.str i t)) ∧ PySem.W.specialIn K (.str i t) "__get__" = some none := by
  unfold conSB at h
  split at h
  · rename_i j t e
    simp only [Bool.and_eq_true, decide_eq_true_eq] at h
    obtain ⟨rfl, h2⟩ := h
    exact ⟨t, e, h2⟩
  · cases h
/-! ### a tuple of texts -/
def txts : List Value → List Str → Bool
  | [], [] => true
  | .str x _ :: r, y :: s => decide (x = y) && txts r s
  | _, _ => false
theorem txts_ok : ∀ {us : List Value} {ss : List Str}, txts us ss = true → Vals (ss.map V.str) us
  | [], [], _ => .nil
  | [], _ :: _, h => by cases h
  | u :: _, [], h => by cases u <;> cases h
  | u :: r, y :: s, h => by
    cases u with
    | str x t =>
      have h' : (decide (x = y) && txts r s) = true := h
      simp only [Bool.and_eq_true, decide_eq_true_eq] at h'
      obtain ⟨rfl, h2⟩ := h'
      exact .cons ⟨t, rfl⟩ (txts_ok h2)
    | _ => cases h
def tupSB (K : PySem.W.Frag) (p : Addr) (ss : List Str) : Bool := match K.lookup p with
  | some ⟨c, none, .seq its _, _⟩ => decide (c = .type "tuple") && (decide (its.size ≤ sizeLine) && txts its.toList ss)
  | _ => false
theorem tupS_ok {K : PySem.W.Frag} {p : Addr} {ss : List Str} (h : tupSB K p ss = true) : (∀ H, SqT K H p (ss.map V.str)) ∧ ∃ o, K.lookup p = some o ∧ o.cls = .type "tuple" ∧ o.dict = none := by
  unfold tupSB at h
  cases q : K.lookup p with
  | none => rw [q] at h; cases h
  | some o =>
    obtain ⟨oc, od, dt, sl⟩ := o
    rw [q] at h
    cases od with
    | some d => cases dt <;> cases h
    | none =>
      cases dt with
      | seq its n =>
        simp only [Bool.and_eq_true, decide_eq_true_eq] at h
        obtain ⟨rfl, h2, h3⟩ := h
        exact ⟨fun _ => .inr ⟨_, its, n, q, rfl, rfl, h2, txts_ok h3⟩, _, rfl, rfl, rfl⟩
      | _ => cases h
/-! ### tables -/
def tabKB (K : PySem.W.Frag) (p : Addr) (ks : List Str) : Bool := match K.lookup p with
  | some ⟨_, _, .dict es _, _⟩ => Rd.tabB es.toList ks
  | _ => false
theorem tabK_ok {K : PySem.W.Frag} {p : Addr} {ks : List Str} {c : Value} {d : Option Addr} {es : Array DictEntry} {n : Nat} {sl : Array (Option Value)} (lk : K.lookup p = some ⟨c, d, .dict es n, sl⟩) (h : tabKB K p ks = true) : Rd.tabB es.toList ks = true := by
  unfold tabKB at h
  rw [lk] at h
  exact h
/-! ### what is looked at -/
/-- what an object leads to: a def its code and cells, a class its names, a table its values -/
def kids (o : Obj) : List Addr := match o.cls with
  | .type "code" => []
  | _ => match o.data with
    | .func fd => He.refV fd.code ++ fd.closure.map (·.2)
    | .cls cd => [cd.ns]
    | .dict es _ => es.toList.flatMap fun e => He.refV e.val
    | .fields vs => vs.toList.flatMap He.refV
    | _ => []
def lev (g : Addr → Option Obj) (as : List Addr) : List Addr := as.flatMap fun a => match g a with
  | some o => kids o
  | none => []
def reach (g : Addr → Option Obj) : Nat → List Addr → List Addr
  | 0, as => as
  | n + 1, as => as ++ reach g n (lev g as)
/-! ### the Hook -/
abbrev AH : Type := (Bool × List FV) × List (Option (List (Option (Str × Int))))
def obsH (fs : List DP) (fn : List (PySem.W.Frag → Addr)) (ts : List He.Tab) (K : PySem.W.Frag) : AH := ((fs.all fun d => d.b K, fn.map fun a => fnV K (a K)), ts.map fun t => He.dicW K (t.1 K))
def valH (vs : List FV) (ts : List He.Tab) (w : World) : AH := ((true, vs), ts.map fun t => some (He.keysIn w.params t.2))
def SaysH (fs : List DP) (fn : List (PySem.W.Frag → Addr)) (vs : List FV) (ts : List He.Tab) (w : World) (K : PySem.W.Frag) : Prop := obsH fs fn ts K = valH vs ts w
def obsHG (n : Nat) (fs : List DP) (fn : List (PySem.W.Frag → Addr)) (ts : List He.Tab) (g : Addr → Option Obj) : AH := obsH fs fn ts (He.frG g (reach g n [mainGlobals] ++ [cStatics]))
def hookH (n : Nat) (fs : List DP) (fn : List (PySem.W.Frag → Addr)) (vs : List FV) (ts : List He.Tab) : PySem.W.Hook where
  α := AH
  obs := fun s => obsHG n fs fn ts s.heap.get?
  val := fun w => valH vs ts w
  says := fun w h => ∃ K : PySem.W.Frag, K.In h ∧ SaysH fs fn vs ts w K
  of := fun _ _ e => ⟨_, He.frG_in, e⟩
  keeps := fun _ _ _ ⟨K, hK, c⟩ k => ⟨K, PySem.W.Frag.In.keeps hK k, c⟩
theorem obsHG_eq {n : Nat} {fs : List DP} {fn : List (PySem.W.Frag → Addr)} {vs : List FV} {ts : List He.Tab} {g : Addr → Option Obj} {s : Shared} (h : ∀ a, g a = s.heap.get? a) : obsHG n fs fn ts g = (hookH n fs fn vs ts).obs s := by
  have e : g = s.heap.get? := funext h
  rw [e] <;> rfl
section
variable {fs : List DP} {fns : List (PySem.W.Frag → Addr)} {vs : List FV} {ts : List He.Tab} {w : World} {K : PySem.W.Frag}
theorem SaysH.fact (c : SaysH fs fns vs ts w K) (i : Nat) {d : DP} (h : fs[i]? = some d := by rfl) : d.p K := by
  have c1 : (fs.all fun d => d.b K) = true := congrArg (fun z : AH => z.1.1) c
  exact DP.ok (List.all_eq_true.mp c1 d (List.mem_of_getElem? h))
theorem SaysH.fn (c : SaysH fs fns vs ts w K) (i : Nat) {a : PySem.W.Frag → Addr} {v : FV} (h : fns[i]? = some a := by rfl) (h2 : vs[i]? = some v := by rfl) : fnV K (a K) = v := by
  have e : (fns.map fun a => fnV K (a K)) = vs := congrArg (fun z : AH => z.1.2) c
  have e2 : (fns.map fun a => fnV K (a K))[i]? = vs[i]? := by rw [e]
  rw [List.getElem?_map, h, h2] at e2
  exact Option.some.inj e2
theorem SaysH.tab (c : SaysH fs fns vs ts w K) (i : Nat) {t : He.Tab} (h : ts[i]? = some t := by rfl) : ∃ es n, KDict K w (t.1 K) es n := by
  have e : (ts.map fun t => He.dicW K (t.1 K)) = ts.map fun t => some (He.keysIn w.params t.2) := congrArg (fun z : AH => z.2) c
  have e2 : (ts.map fun t => He.dicW K (t.1 K))[i]? = (ts.map fun t => some (He.keysIn w.params t.2))[i]? := by rw [e]
  rw [List.getElem?_map, List.getElem?_map, h] at e2
  exact He.dicW_ok (Option.some.inj e2)
end
end Hd

/-! Op: the layer's twenty-third part: x op y where y is of the same class or of another one; reflected operators; ~x -/
namespace OwX
open PySem PySem.Spec PyProof.Rows PySem.W
section
variable {prog : Program} {w : World} {A : Around} {E : Value → Shared → Prop} {s : Shared} {K : PySem.W.Frag} {x C D f : Addr} {ox od : Obj} {odd : Option Obj}
/-- b op x: b of a class without that number method, x's class has the reflected one -/
theorem binop_refl {op : Operator} {b : Value} {g : Addr} {Q : Value → Shared → Prop} (X : K.In s.heap) (I : PySem.W.InstAt s.heap x ox C odd) (hb : PySem.W.Looks (model prog w) s.heap (typeOf b) (.ref D)) (hne : C ≠ D) (hc : PySem.W.selfFirst K C = true)
    (hs0 : PySem.W.findIn K (.ref C) (PySem.dunder op.info.2) = some (some (.ref g))) (hs : PySem.W.findIn K (.ref C) (PySem.dunderR op.info.2) = some (some (.ref f))) (hf : PySem.W.isFn K (.ref f) = true) (hd : PySem.W.Looks (model prog w) s.heap (fillsNumberSlot (.ref D) op.info.2) false)
    (h : wpAny (model prog w) A (call (.ref f) [.ref x, b]) (PySem.W.CmpBack Q) E s) : wpAny (model prog w) A (binaryOp op b (.ref x)) Q E s := by
  obtain ⟨cd, rest, hcd, hm⟩ := PySem.W.ksp_first hc
  rcases hi : op.info with ⟨sym, nm'⟩
  rw [hi] at hs0 hs hd
  dsimp only at hs0 hs hd
  have one := PySem.W.ksp_try X I hs hf h
  obtain ⟨hh, gg, d, tt, os⟩ := s
  have L1 : PySem.W.Looks (model prog w) hh (typeOf (.ref x)) (.ref C) := I.type
  have L2 : PySem.W.Looks (model prog w) hh (typeOf b) (.ref D) := hb
  have L3 : PySem.W.Looks (model prog w) hh (fillsNumberSlot (.ref C) nm') true := PySem.W.fills_K X hcd hm hs0
  have L4 : PySem.W.Looks (model prog w) hh (fillsNumberSlot (.ref D) nm') false := hd
  have hne : (Value.ref D == Value.ref C) = false := Bool.eq_false_iff.mpr fun q => by cases beq_iff_eq.mp q; exact hne rfl
  simp only [binaryOp, hi]
  refine wpAny_holding (wpAny_bind ?_)
  unfold binaryOp1
  refine wpAny_bind (L2.at (wpAny_bind (L1.at (wpAny_bind (L4.at ?_)))))
  simp only [hne, Bool.false_eq_true, if_false]
  refine wpAny_bind (L3.at ?_)
  simp only [Bool.and_false, Bool.false_and, Bool.false_eq_true, if_false, if_true]
  refine wpAny_bind (wpAny_pure ?_)
  simp only [Bool.and_false, Bool.false_and, Bool.false_eq_true, if_false, if_true, Bool.not_false, Bool.and_true, Bool.and_self]
  refine wpAny_bind (wpAny_mono one (fun r s' hr' => ?_) fun _ _ e => e)
  obtain ⟨v, rfl, hq⟩ := hr'
  refine wpAny_bind (m := rule _) ?_
  exact wpAny_rule (wpAny_pure (wpAny_pure hq))
end
end OwX
namespace Rd
open PySem PySem.Spec PyProof.Rows L2
theorem objno_or : ObjNo .BitOr := ⟨by rw [typeLookup_type, builtinLookup_eq_fast]; kernel_rfl, by rw [typeLookup_type, builtinLookup_eq_fast]; kernel_rfl⟩
theorem objno_and : ObjNo .BitAnd := ⟨by rw [typeLookup_type, builtinLookup_eq_fast]; kernel_rfl, by rw [typeLookup_type, builtinLookup_eq_fast]; kernel_rfl⟩
theorem objno_xor : ObjNo .BitXor := ⟨by rw [typeLookup_type, builtinLookup_eq_fast]; kernel_rfl, by rw [typeLookup_type, builtinLookup_eq_fast]; kernel_rfl⟩
/-- x op y, y of x's class C or of D -/
def rOpE (C D : Addr) (sp : Sp) (E : L2.St → XK) : L2.St → R2 := fun σ x y H Q => rOpX C C sp E σ x y H Q ∨ rOpX C D sp E σ x y H Q
/-- y op x by x's reflected method: y of D, x of C -/
def rOpR (C D : Addr) (sp : Sp) (E : L2.St → XK) : L2.St → R2 := fun σ x y H Q => rOpX C D sp E σ y x H Q
section
variable {X : Cx} {CX : CXT} {k : Nat} {C D : Addr} {ps : List Str} {sp : Sp} {E : L2.St → XK} {op : Operator} {d d0 : Str}
theorem op_ownE (on : ObjNo op) (hd : d = dunder op.info.2) (hc : PySem.W.selfFirst X.K C = true) (no : OpNo X.K D op.info.2) (hne : C ≠ D) (c : CalM X.prog X.w X.K X.mg X.base CX C d k ps sp) (hR : Room k X.A) (hx : ∀ σ, PassesAt CX X σ (E σ)) :
    OpRS X (binaryOp op) (rOpE C D sp E) := by
  intro pins s σ H x y v u Q I rx ry h
  rcases h with h | h
  · exact op_ownS hd hc c hR hx pins s σ H x y v u Q I rx ry h
  · exact op_ownX on hd hc no hne c hR hx pins s σ H x y v u Q I rx ry h
theorem op_ownR (on : ObjNo op) (hd : d = dunderR op.info.2) (hc : PySem.W.selfFirst X.K C = true) (no : OpNo X.K D op.info.2) (hne : C ≠ D) {k0 : Nat} {ps0 : List Str} {sp0 : Sp} (hd0 : d0 = dunder op.info.2) (c0 : CalM X.prog X.w X.K X.mg X.base CX C d0 k0 ps0 sp0) (c : CalM X.prog X.w X.K X.mg X.base CX C d k ps sp) (hR : Room k X.A) (hx : ∀ σ, PassesAt CX X σ (E σ)) :
    OpRS X (binaryOp op) (rOpR C D sp E) := by
  intro pins s σ H x y v u Q I rx ry h
  obtain ⟨a, dx, fs, b, dy, gs, rfl, rfl, ea, eb, q⟩ := h
  cases (show u = Value.ref a from ry)
  cases (show v = Value.ref b from rx)
  obtain ⟨cl, f, fd, F, hm, hb⟩ := c
  obtain ⟨cl0, g, fd0, F0, hm0, hb0⟩ := c0
  obtain ⟨mA, O, _, _, _, _⟩ := ins_get I.hok ea
  obtain ⟨od, J, _⟩ := O.look
  obtain ⟨mB, O', _, _, _, _⟩ := ins_get I.hok eb
  obtain ⟨od', J', _⟩ := O'.look
  obtain ⟨cd, e1, e2⟩ := no.ex
  refine OwX.binop_refl I.kIn J J'.type hne hc (by rw [← hd0]; exact hm0.at_) (by rw [← hd]; exact hm.at_) hm.fn (OwX.fills_no I.kIn e1 e2 no.h1 no.h2 on.o1 on.o2) ?_
  refine wpAny_mono (run_fnS (us := [.ref a, .ref b]) (vs := [.ref a, .ref b]) F hR hb (hx σ) I (.cons rfl (.cons rfl .nil)) q) (fun w s' z => ?_) fun _ _ x => x
  obtain ⟨z', H', I', rz, qz⟩ := z
  exact SlX.cmpback rz ⟨z', H', I', rz, qz⟩
theorem rd_opE1 {H : Hp} {Q : VK} {σ : L2.St} {a b dx dy : Addr} {fs gs : List (Str × V)} (ea : H a = some (.ins C dx fs)) (eb : H b = some (.ins C dy gs)) (q : sp [.ref a, .ref b] H Q (E σ)) : rOpE C D sp E σ (.ref a) (.ref b) H Q := .inl (rd_opX ea eb q)
theorem rd_opE2 {H : Hp} {Q : VK} {σ : L2.St} {a b dx dy : Addr} {fs gs : List (Str × V)} (ea : H a = some (.ins C dx fs)) (eb : H b = some (.ins D dy gs)) (q : sp [.ref a, .ref b] H Q (E σ)) : rOpE C D sp E σ (.ref a) (.ref b) H Q := .inr (rd_opX ea eb q)
theorem rd_opR {H : Hp} {Q : VK} {σ : L2.St} {a b dx dy : Addr} {fs gs : List (Str × V)} (ea : H a = some (.ins C dx fs)) (eb : H b = some (.ins D dy gs)) (q : sp [.ref a, .ref b] H Q (E σ)) : rOpR C D sp E σ (.ref b) (.ref a) H Q := rd_opX ea eb q
theorem un_invO {C : Addr} {sp : Sp} {E : XK} (c : CalM X.prog X.w X.K X.mg X.base CX C "__invert__" k ["self"] sp) (hr : Room k X.A) (hx : Passes CX X E) : UnR X (unaryOp .Invert) (rNegO C sp E) := by
  intro pins s σ H x u Q I rx h
  obtain ⟨a, dx, fs, rfl, ea, q⟩ := h
  cases rx
  obtain ⟨cl, f, fd, F, hm, hb⟩ := c
  obtain ⟨mA, O, _, _, _, _⟩ := ins_get I.hok ea
  obtain ⟨od, J, _⟩ := O.look
  obtain ⟨m, hF⟩ := I.fr
  exact PySem.W.ksp_inv hF I.ok.mod.kin J hm.at_ hm.fn (run_fnS (E := fun _ => E) (us := [.ref a]) (vs := [.ref a]) F hr hb (fun pins => hx pins σ) I (.cons rfl .nil) q)
end
end Rd

/-! Va: the layer's twenty-fourth part: defs of the module with *args alone -/
namespace OwX
open PySem PySem.Spec PyProof.Rows
section
variable {prog : Program} {w : World} {A : Around} {E : Value → Shared → Prop} {s : Shared} {K : PySem.W.Frag} {x y C D f : Addr} {ox oy od : Obj} {odd ody : Option Obj}
theorem slot_ge : Slot "object" "__ge__" "object.__ge__" := .of (owner := "object") (n := "__ge__") (by rw [typeLookup_type, builtinLookup_eq_fast]; kernel_rfl) (by decide +kernel) (by decide +kernel) (by decide +kernel)
    (by first | exact .inl (by decide +kernel) | exact .inr (by decide +kernel)) (by rw [isSubtype_type]; kernel_rfl)
theorem entry_ge : entryFor table "object.__ge__" = some Builtin.«object.__ge__» := entryFor_of_tree (by kernel_rfl)
theorem kind_ge : builtinKind "object.__ge__" = some .slot := by decide +kernel
theorem split_ge : splitId "object.__ge__" = some ("object", "__ge__") := by decide +kernel
theorem args_ge (a b : Value) : argsOk "object.__ge__" ⟨[a, b], []⟩ := by unfold argsOk; kernel_rfl
/-- x GtE y, both of the class C, which has an own __le__ and no own __ge__ -/
theorem ge_own {Q : Value → Shared → Prop} (hu : A.units + 1 < cLine) (X : K.In s.heap) (I : PySem.W.InstAt s.heap x ox C odd) (J : PySem.W.InstAt s.heap y oy C ody)
    (hn : PySem.W.findIn K (.ref C) "__ge__" = some (some (.builtin "object.__ge__"))) (ho : PySem.W.subIn K (.ref C) (.type "object") = some true) (hs : PySem.W.findIn K (.ref C) "__le__" = some (some (.ref f))) (hf : PySem.W.isFn K (.ref f) = true)
    (h : wpAny (model prog w) A (call (.ref f) [.ref y, .ref x]) (fun v s' => ∃ b, v = .bool b ∧ Q (.bool b) s') E s) : wpAny (model prog w) A (richCompare .GtE (.ref x) (.ref y)) Q E s := by
  have body : wpAny (model prog w) A.in1 (Builtin.«object.__ge__» ⟨[.ref x, .ref y], []⟩) (fun fin s' => fin = .done (.ret .notImplemented) ∧ s' = s) E s := by
    show wpAny _ _ (slotArgs "__ge__" 1 ⟨[.ref x, .ref y], []⟩ >>= fun _ => ret .notImplemented) _ _ _
    refine wpAny_bind (m := slotArgs "__ge__" 1 _) (wpAny_pure ?_)
    exact wpAny_pure ⟨rfl, rfl⟩
  have one : wpAny (model prog w) A (tryCompare (.ref x) "__ge__" (.ref y)) (fun r s' => r = none ∧ s' = s) E s := by
    unfold tryCompare
    refine wpAny_bind (ifBound_slot slot_ge X I hn ?_)
    refine wpAny_call (codeAny_call_builtin slot_ge.plain entry_ge (PySem.W.check_slot kind_ge split_ge (I.type.andThen (PySem.W.looks_subIn X ho)) (args_ge _ _) (wpAny_mono body (fun fin s' z => ?_) fun _ _ e => e)))
    obtain ⟨rfl, rfl⟩ := z
    exact wpAny_pure ⟨rfl, rfl⟩
  have two : wpAny (model prog w) A (tryCompare (.ref y) "__le__" (.ref x)) (fun r s' => ∃ v, r = some v ∧ Q v s') E s := by
    unfold tryCompare
    refine wpAny_bind (PySem.W.ifBound_K X J hs hf (wpAny_mono h (fun r s' ⟨b, e, hq⟩ => ?_) fun _ _ e => e))
    subst e
    exact wpAny_pure ⟨_, rfl, hq⟩
  unfold richCompare
  simp only [oneThing_ref]
  refine wpAny_holding (wpAny_bind (wpAny_cRoomFor (by omega) ?_))
  rw [show cmpInfo .GtE = ((cmpInfo .GtE).1, ("__ge__" : Str), ("__le__" : Str)) from rfl]
  dsimp only
  refine wpAny_bind (I.type.here (wpAny_bind (J.type.here ?_)))
  rw [show (Value.ref C != Value.ref C) = false from by simp]
  simp only [Bool.false_eq_true, if_false]
  refine wpAny_bind (wpAny_pure ?_)
  simp only [Bool.false_eq_true, if_false]
  refine wpAny_bind (wpAny_mono one (fun r s' z => ?_) fun _ _ e => e)
  obtain ⟨rfl, rfl⟩ := z
  simp only [Bool.not_false, if_true]
  refine wpAny_bind (wpAny_mono two (fun r s' z => ?_) fun _ _ e => e)
  obtain ⟨v, rfl, hq⟩ := z
  exact wpAny_pure hq
theorem slot_gt : Slot "object" "__gt__" "object.__gt__" := .of (owner := "object") (n := "__gt__") (by rw [typeLookup_type, builtinLookup_eq_fast]; kernel_rfl) (by decide +kernel) (by decide +kernel) (by decide +kernel)
    (by first | exact .inl (by decide +kernel) | exact .inr (by decide +kernel)) (by rw [isSubtype_type]; kernel_rfl)
theorem entry_gt : entryFor table "object.__gt__" = some Builtin.«object.__gt__» := entryFor_of_tree (by kernel_rfl)
theorem kind_gt : builtinKind "object.__gt__" = some .slot := by decide +kernel
theorem split_gt : splitId "object.__gt__" = some ("object", "__gt__") := by decide +kernel
theorem args_gt (a b : Value) : argsOk "object.__gt__" ⟨[a, b], []⟩ := by unfold argsOk; kernel_rfl
/-- x Gt y, both of the class C, which has an own __lt__ and no own __gt__ -/
theorem gt_own {Q : Value → Shared → Prop} (hu : A.units + 1 < cLine) (X : K.In s.heap) (I : PySem.W.InstAt s.heap x ox C odd) (J : PySem.W.InstAt s.heap y oy C ody)
    (hn : PySem.W.findIn K (.ref C) "__gt__" = some (some (.builtin "object.__gt__"))) (ho : PySem.W.subIn K (.ref C) (.type "object") = some true) (hs : PySem.W.findIn K (.ref C) "__lt__" = some (some (.ref f))) (hf : PySem.W.isFn K (.ref f) = true)
    (h : wpAny (model prog w) A (call (.ref f) [.ref y, .ref x]) (fun v s' => ∃ b, v = .bool b ∧ Q (.bool b) s') E s) : wpAny (model prog w) A (richCompare .Gt (.ref x) (.ref y)) Q E s := by
  have body : wpAny (model prog w) A.in1 (Builtin.«object.__gt__» ⟨[.ref x, .ref y], []⟩) (fun fin s' => fin = .done (.ret .notImplemented) ∧ s' = s) E s := by
    show wpAny _ _ (slotArgs "__gt__" 1 ⟨[.ref x, .ref y], []⟩ >>= fun _ => ret .notImplemented) _ _ _
    refine wpAny_bind (m := slotArgs "__gt__" 1 _) (wpAny_pure ?_)
    exact wpAny_pure ⟨rfl, rfl⟩
  have one : wpAny (model prog w) A (tryCompare (.ref x) "__gt__" (.ref y)) (fun r s' => r = none ∧ s' = s) E s := by
    unfold tryCompare
    refine wpAny_bind (ifBound_slot slot_gt X I hn ?_)
    refine wpAny_call (codeAny_call_builtin slot_gt.plain entry_gt (PySem.W.check_slot kind_gt split_gt (I.type.andThen (PySem.W.looks_subIn X ho)) (args_gt _ _) (wpAny_mono body (fun fin s' z => ?_) fun _ _ e => e)))
    obtain ⟨rfl, rfl⟩ := z
    exact wpAny_pure ⟨rfl, rfl⟩
  have two : wpAny (model prog w) A (tryCompare (.ref y) "__lt__" (.ref x)) (fun r s' => ∃ v, r = some v ∧ Q v s') E s := by
    unfold tryCompare
    refine wpAny_bind (PySem.W.ifBound_K X J hs hf (wpAny_mono h (fun r s' ⟨b, e, hq⟩ => ?_) fun _ _ e => e))
    subst e
    exact wpAny_pure ⟨_, rfl, hq⟩
  unfold richCompare
  simp only [oneThing_ref]
  refine wpAny_holding (wpAny_bind (wpAny_cRoomFor (by omega) ?_))
  rw [show cmpInfo .Gt = ((cmpInfo .Gt).1, ("__gt__" : Str), ("__lt__" : Str)) from rfl]
  dsimp only
  refine wpAny_bind (I.type.here (wpAny_bind (J.type.here ?_)))
  rw [show (Value.ref C != Value.ref C) = false from by simp]
  simp only [Bool.false_eq_true, if_false]
  refine wpAny_bind (wpAny_pure ?_)
  simp only [Bool.false_eq_true, if_false]
  refine wpAny_bind (wpAny_mono one (fun r s' z => ?_) fun _ _ e => e)
  obtain ⟨rfl, rfl⟩ := z
  simp only [Bool.not_false, if_true]
  refine wpAny_bind (wpAny_mono two (fun r s' z => ?_) fun _ _ e => e)
  obtain ⟨v, rfl, hq⟩ := z
  exact wpAny_pure hq
end
end OwX
namespace Rd
open PySem PySem.Spec PyProof.Rows L2
structure CalV (P : Program) (w : World) (K : PySem.W.Frag) (mg : Str → Option Value) (base : Heap) (CX : CXT) (x : Str) (k : Nat) (sp : Sp) : Prop where
  ex : ∃ (f : Addr), FnR P w K mg base CX k f sp ∧ mg x = some (.ref f) ∧ PySem.W.keepIn K (.ref f) = true
section
variable {X : Cx} {CX : CXT} {k : Nat} {x : Str} {sp : Sp} {E : L2.St → XK} {e : Expr} {es : List Expr} {t : TA} {p pos : Pos}
theorem run_vR {f : Addr} {pins : List (Addr × Obj)} {σ : L2.St} {H : Hp} {s : Shared} {Q : VK} {us : List Value} {vs : List V} (F : FnR X.prog X.w X.K X.mg X.base CX k f sp) (hr : Room k X.A) (hx : PassesAt CX X σ (E σ)) (I : Inv X pins σ H s)
    (r : Vals vs us) (h : sp vs H Q (E σ)) : wpAny (model X.prog X.w) X.A (call (.ref f) us) (EP X pins σ Q) X.xe s := by
  refine wpAny_call (codeAny_mono (F X.A X.stack s H us vs Q (E σ) hr I.env0 r h) fun r s' hq => ?_)
  cases r with
  | error e => exact hx _ H s e s' I hq
  | ok fl =>
    cases fl with
    | ret u => exact I.after hq
    | next => exact False.elim hq
    | brk => exact False.elim hq
    | cont => exact False.elim hq
theorem pe_calV (c : CalV X.prog X.w X.K X.mg X.base CX x k sp) (hr : Room k X.A) (hx : ∀ σ, PassesAt CX X σ (E σ)) (ha : PA X (e :: es) t) (hg : Gl X x := by rfl)
    (hd : (x == ("__debug__" : Str)) = false := by decide) (he : starEach (e :: es) X.env = (false, eval e X.env) :: starEach es X.env := by rfl) (hpl : (backTo pos (starEach es X.env)).any (·.1) = false := by rfl) :
    PE X (.Call (.Name x p) (e :: es) [] pos) (tCallS sp E t) := by
  obtain ⟨f, F, g, kp⟩ := c
  refine ⟨fun pins s σ H Q I h => wpAny_Call_Name_kw (ld_glob I hg g (PySem.W.callWith_K (h₀ := X.base) I.ok.mod.kin kp (thn (ha.run pos pins s σ H _ I h) ?_) he hpl) hd)⟩
  rintro us s1 ⟨vs, H1, I1, r, q⟩
  exact ⟨I1.kIn, run_vR F hr (hx σ) I1 r q⟩
theorem pe_calV0 (c : CalV X.prog X.w X.K X.mg X.base CX x k sp) (hr : Room k X.A) (hx : ∀ σ, PassesAt CX X σ (E σ)) (hg : Gl X x := by rfl)
    (hd : (x == ("__debug__" : Str)) = false := by decide) : PE X (.Call (.Name x p) [] [] pos) (tCallS sp E tNil) := by
  obtain ⟨f, F, g, kp⟩ := c
  exact ⟨fun pins s σ H Q I h => wpAny_Call_Name_kw (ld_glob I hg g (PySem.W.callWith_K0 (first := []) I.kIn kp (run_vR (us := []) (vs := []) F hr (hx σ) I .nil h)) hd)⟩
end
end Rd
namespace StX
open PySem PySem.Spec PyProof.Rows L2
theorem bind_star0 {B : List Value → Sem (List (Str × Value))} {pv : Str} (h0 : B [] = (newTuple [] >>= fun t => pure [(pv, t)])) (h1 : ∀ r rs, B (r :: rs) = (newTuple (r :: rs) >>= fun t => pure [(pv, t)])) :
    ∀ us rest : List Value, us.length = ([] : List Str).length → B (us ++ rest) = (newTuple rest >>= fun t => pure (([] : List Str).zip us ++ [(pv, t)]))
  | [], [], _ => h0
  | [], r :: rs, _ => h1 r rs
end StX
namespace Rd
open PySem PySem.Spec PyProof.Rows L2
structure GtC (K : PySem.W.Frag) (C : Addr) : Prop where
  ge : PySem.W.findIn K (.ref C) "__ge__" = some (some (.builtin "object.__ge__"))
  gt : PySem.W.findIn K (.ref C) "__gt__" = some (some (.builtin "object.__gt__"))
  ob : PySem.W.subIn K (.ref C) (.type "object") = some true
def gtB (K : PySem.W.Frag) (C : Addr) : Bool := decide (PySem.W.findIn K (.ref C) "__ge__" = some (some (.builtin "object.__ge__"))) && (decide (PySem.W.findIn K (.ref C) "__gt__" = some (some (.builtin "object.__gt__"))) && decide (PySem.W.subIn K (.ref C) (.type "object") = some true))
theorem gtB_ok {K : PySem.W.Frag} {C : Addr} (h : gtB K C = true) : GtC K C := by
  unfold gtB at h
  obtain ⟨h1, h23⟩ := Bool.and_eq_true_iff.mp h
  obtain ⟨h2, h3⟩ := Bool.and_eq_true_iff.mp h23
  exact ⟨of_decide_eq_true h1, of_decide_eq_true h2, of_decide_eq_true h3⟩
def rGtO (C : Addr) (sp : Sp) (E : XK) : R2 := fun x y H Q => ∃ a dx fs b dy gs, x = .ref a ∧ y = .ref b ∧ H a = some (.ins C dx fs) ∧ H b = some (.ins C dy gs) ∧ sp [.ref b, .ref a] H (fun z H' => ∃ c, z = .bl c ∧ Q (.bl c) H') E
section
variable {X : Cx} {CX : CXT} {k : Nat} {C : Addr} {ps : List Str} {sp : Sp} {E : XK}
theorem op_geO (hn : GtC X.K C) (c : CalM X.prog X.w X.K X.mg X.base CX C "__le__" k ps sp) (hr : Room k X.A) (hx : Passes CX X E) : OpR X (compareOp .GtE) (rGtO C sp E) := by
  intro pins s σ H x y v u Q I rx ry h
  obtain ⟨a, dx, fs, b, dy, gs, rfl, rfl, ea, eb, q⟩ := h
  cases (show v = Value.ref a from rx)
  cases (show u = Value.ref b from ry)
  obtain ⟨cl, f, fd, F, hm, hb⟩ := c
  obtain ⟨mA, O, _, _, _, _⟩ := ins_get I.hok ea
  obtain ⟨od, J, _⟩ := O.look
  obtain ⟨mB, O', _, _, _, _⟩ := ins_get I.hok eb
  obtain ⟨od', J', _⟩ := O'.look
  refine PySem.W.cmp_ofGtE (OwX.ge_own (by have := hr.units; omega) I.kIn J J' hn.ge hn.ob hm.at_ hm.fn (wpAny_mono (run_fnS (E := fun _ => E) (us := [.ref b, .ref a]) (vs := [.ref b, .ref a]) F hr hb (fun pins => hx pins σ) I (.cons rfl (.cons rfl .nil)) q) (fun w s' z => ?_) fun _ _ z => z))
  obtain ⟨z', H', I', rz, c, ec, qz⟩ := z
  subst ec
  cases (show w = Value.bool c from rz)
  exact ⟨c, rfl, .bl c, H', I', rfl, qz⟩
theorem op_gtO (hn : GtC X.K C) (c : CalM X.prog X.w X.K X.mg X.base CX C "__lt__" k ps sp) (hr : Room k X.A) (hx : Passes CX X E) : OpR X (compareOp .Gt) (rGtO C sp E) := by
  intro pins s σ H x y v u Q I rx ry h
  obtain ⟨a, dx, fs, b, dy, gs, rfl, rfl, ea, eb, q⟩ := h
  cases (show v = Value.ref a from rx)
  cases (show u = Value.ref b from ry)
  obtain ⟨cl, f, fd, F, hm, hb⟩ := c
  obtain ⟨mA, O, _, _, _, _⟩ := ins_get I.hok ea
  obtain ⟨od, J, _⟩ := O.look
  obtain ⟨mB, O', _, _, _, _⟩ := ins_get I.hok eb
  obtain ⟨od', J', _⟩ := O'.look
  refine PySem.W.cmp_ofGt (OwX.gt_own (by have := hr.units; omega) I.kIn J J' hn.gt hn.ob hm.at_ hm.fn (wpAny_mono (run_fnS (E := fun _ => E) (us := [.ref b, .ref a]) (vs := [.ref b, .ref a]) F hr hb (fun pins => hx pins σ) I (.cons rfl (.cons rfl .nil)) q) (fun w s' z => ?_) fun _ _ z => z))
  obtain ⟨z', H', I', rz, c, ec, qz⟩ := z
  subst ec
  cases (show w = Value.bool c from rz)
  exact ⟨c, rfl, .bl c, H', I', rfl, qz⟩
theorem rd_gtO {H : Hp} {Q : VK} {a b dx dy : Addr} {fs gs : List (Str × V)} (ea : H a = some (.ins C dx fs)) (eb : H b = some (.ins C dy gs)) (q : sp [.ref b, .ref a] H (fun z H' => ∃ c, z = .bl c ∧ Q (.bl c) H') E) : rGtO C sp E (.ref a) (.ref b) H Q := ⟨a, dx, fs, b, dy, gs, rfl, rfl, ea, eb, q⟩
end
end Rd

namespace K17
open PySem PySem.Spec PyProof.Rows L2 Rd Fa Ce
/-! own steps, upon words of the kit that stand free here: kaf_pre: one step of a reading; kcf_m: what stands at an address; kcj_m: two addresses differ; kaf_suf: a test is known; kas_types: an item at a place -/
local macro_rules | `(tactic| kcj_m) => `(tactic| first | assumption | (exact Ne.symm (by assumption)) | ((apply ne_of_none); (case h' => assumption); (case h => kcf_m)) | ((apply Ne.symm); (apply ne_of_none); (case h' => assumption); (case h => kcf_m)) | fail)
local macro_rules | `(tactic| kcf_m) => `(tactic| first
  | assumption | exact upd_same | ((with_reducible apply SqL.of); kcf_m) | ((with_reducible apply SqT.of); kcf_m) | (refine Eq.trans (upd_ne (by kcj_m)) ?_; kcf_m)
  | ((with_reducible apply Rd.Same.here); (case s => assumption); (case h => kcf_m)) | ((with_reducible apply L2.Same.seq); (case e => assumption); (case h => kcf_m)) | ((with_reducible apply Rd.Same.seqT); (case a => assumption); (case h => kcf_m))
  | ((with_reducible apply But.here); (case a => assumption); (case n => kcj_in); (case h => kcf_m)) | ((with_reducible apply But.seq); (case a => assumption); (case n => kcj_in); (case h => kcf_m)) | ((with_reducible apply But.seqT); (case a => assumption); (case n => kcj_in); (case h => kcf_m)) | fail)
local macro_rules | `(tactic| kcj_in) => `(tactic| first | exact nil_off | (refine cons_off (by kcj_m) ?_; kcj_in))
local macro_rules | `(tactic| kaf_suf) => `(tactic| first | assumption | omega | decide | rfl | exact (fun z => V.noConfusion z))
local macro_rules | `(tactic| kas_types) => `(tactic| first | rfl | exact atI_nat (by assumption) | (refine atI_nat ?_; simp; done))
local macro_rules | `(tactic| kaf_pre) => `(tactic| first
  | with_reducible refine rd_var rfl ?_ | with_reducible refine rd_c ?_ | with_reducible refine rd_op ?_ | with_reducible refine rd_seq ?_ | with_reducible refine rd_asg ?_ | with_reducible refine rd_gName ?_
  | with_reducible refine rd_gSub ?_ | with_reducible refine rd_drop ?_ | with_reducible refine rd_ret ?_ | with_reducible refine rd_retN ?_ | with_reducible refine rd_if ?_ | with_reducible refine rd_next ?_ | with_reducible refine rd_brk ?_ | with_reducible refine rd_cont ?_
  | with_reducible refine rd_test ?_ | with_reducible refine rd_tru ?_ | with_reducible refine rd_nil ?_ | with_reducible refine rd_cons ?_ | with_reducible refine rd_call ?_ | with_reducible refine rd_cb ?_
  | with_reducible refine rd_and ?_ | with_reducible refine rd_or ?_ | with_reducible refine rd_not ?_ | with_reducible refine rd_andV ?_ | with_reducible refine rd_orV ?_ | with_reducible refine rd_notV ?_ | with_reducible refine rd_ifE ?_ | with_reducible refine rd_chain ?_
  | with_reducible refine rd_lst ?_ | with_reducible refine rd_tup ?_ | with_reducible refine rd_bm ?_ | with_reducible refine rd_bm0 ?_ | with_reducible refine rd_un ?_ | with_reducible refine rd_par ?_ | with_reducible refine rd_aug rfl ?_
  | with_reducible refine rd_forA ?_ | with_reducible refine rd_lcA ?_ | with_reducible refine rd_forR1 ?_ | with_reducible refine rd_lcR1 ?_ | with_reducible refine rd_forR2 ?_ | with_reducible refine rd_lcR2 ?_
  | with_reducible refine rd_addI ?_ | with_reducible refine rd_sub ?_ | with_reducible refine rd_iaddI ?_ | ((with_reducible refine rd_mulR ?_ ?_); decide) | ((with_reducible refine rd_mulL ?_ ?_); decide)
  | ((with_reducible refine rd_div ?_ ?_); kaf_suf) | ((with_reducible refine rd_mod ?_ ?_); kaf_suf) | ((with_reducible refine rd_pow ?_ ?_); decide) | with_reducible refine rd_neg ?_
  | with_reducible refine rd_lt ?_ | with_reducible refine rd_le ?_ | with_reducible refine rd_gt ?_ | with_reducible refine rd_ge ?_
  | with_reducible refine rd_eqI ?_ | with_reducible refine rd_eqS ?_ | with_reducible refine rd_eqB ?_ | with_reducible refine rd_neI ?_ | with_reducible refine rd_neS ?_ | with_reducible refine rd_neB ?_ | with_reducible refine rd_isN ?_ | with_reducible refine rd_notN ?_
  | ((with_reducible apply rd_ixL); (case hp => kcf_m); (case ha => kas_types)) | ((with_reducible apply rd_ixT); (case hp => kcf_m); (case ha => kas_types)) | ((with_reducible apply rd_setL); (case hp => kcf_m); (case hj => kas_types))
  | ((with_reducible apply rd_lenL); (case hp => kcf_m)) | ((with_reducible apply rd_lenT); (case hp => kcf_m)) | ((with_reducible apply rd_list); (case hp => kcf_m)) | with_reducible refine rd_int ?_ | with_reducible refine rd_min ?_ | with_reducible refine rd_max ?_
  | ((with_reducible apply rd_tyL); (case hp => kcf_m))
  | ((with_reducible apply rd_isi); (case ht => first | assumption | exact .base (.int _) | exact .base (.bl _) | exact .base (.str _) | exact .base .non | ((with_reducible apply TyX.base); (with_reducible apply TyOf.lst); kcf_m) | ((with_reducible apply TyX.base); (with_reducible apply TyOf.tup); kcf_m)); (case hb => first | exact kb_int_bool | exact kb_int_int | exact kb_int_str | exact kb_int_list | exact kb_int_tuple | exact kb_bool_bool | exact kb_bool_int | exact kb_bool_str | exact kb_bool_list | exact kb_bool_tuple | exact kb_str_bool | exact kb_str_int | exact kb_str_str | exact kb_str_list | exact kb_str_tuple | exact kb_list_bool | exact kb_list_int | exact kb_list_str | exact kb_list_list | exact kb_list_tuple | exact kb_tuple_bool | exact kb_tuple_int | exact kb_tuple_str | exact kb_tuple_list | exact kb_tuple_tuple | exact kb_NoneType_bool | exact kb_NoneType_int | exact kb_NoneType_str | exact kb_NoneType_list | exact kb_NoneType_tuple))
  | ((with_reducible apply rd_inL); (case hp => kcf_m); (case hx => rfl); (case ha => exact flat_iv _)) | ((with_reducible apply rd_notInL); (case hp => kcf_m); (case hx => rfl); (case ha => exact flat_iv _))
  | with_reducible refine rd_yes ?_ | with_reducible refine rd_bl ?_ | with_reducible refine rd_truB ?_ | with_reducible refine rd_ite1 ?_ | with_reducible refine rd_ite0 ?_ | with_reducible refine rd_nite1 ?_ | with_reducible refine rd_nite0 ?_
  | ((with_reducible refine rd_iteT ?_ ?_); kaf_suf) | ((with_reducible refine rd_iteF ?_ ?_); kaf_suf) | ((with_reducible refine rd_niteT ?_ ?_); kaf_suf) | ((with_reducible refine rd_niteF ?_ ?_); kaf_suf))
local macro_rules | `(tactic| kaf_pre) => `(tactic| first
  | with_reducible refine rd_callS ?_ | with_reducible refine rd_tryAs ?_ | with_reducible refine rd_tryOnly ?_ | with_reducible refine rd_raise ?_ | with_reducible refine rd_xg ?_ | with_reducible refine rd_listRg ?_)
local macro_rules | `(tactic| kaf_pre) => `(tactic| first
  | ((with_reducible apply rd_all); (case ha => kcf_m)) | ((with_reducible apply rd_any); (case ha => kcf_m)))
local macro_rules | `(tactic| kaf_pre) => `(tactic| first
  | ((with_reducible apply rd_inL); (case hp => kcf_m); (case hx => rfl); (case ha => first | exact flat_int _ | exact flat_bl _)) | ((with_reducible apply rd_notInL); (case hp => kcf_m); (case hx => rfl); (case ha => first | exact flat_int _ | exact flat_bl _)))
local macro_rules | `(tactic| kaf_pre) => `(tactic| first
  | ((with_reducible apply rd_lenS); (case hl => first | assumption | exact size_of (by omega))) | with_reducible refine rd_inC ?_ | with_reducible refine rd_notInC ?_ | with_reducible refine rd_tyS ?_ | with_reducible refine rd_find ?_
  | with_reducible refine rd_slT ?_ | with_reducible refine rd_noPart ?_ | with_reducible refine rd_part ?_ | with_reducible refine rd_partI ?_ | ((with_reducible apply rd_slS); (case l => first | assumption | exact size_of (by omega)))
  | ((with_reducible apply rd_strI); (case hl => exact log_small (by omega) (by omega))))
local macro_rules | `(tactic| kaf_pre) => `(tactic| first
  | with_reducible refine rd_fld ?_ | with_reducible refine rd_con ?_ | with_reducible refine rd_sFld ?_ | with_reducible refine rd_meth ?_ | with_reducible refine rd_make ?_ | with_reducible refine rd_prop ?_
  | ((with_reducible apply rd_fldI); (case h => kcf_m); (case i => infer_instance); (case l => rfl))
  | ((with_reducible apply rd_putI); (case h => kcf_m); (case i => infer_instance); (case l => repeat (first | decide | refine put_lt ?_))) | ((with_reducible apply rd_insI); (case h => kcf_m); (case l => rfl)) | ((with_reducible apply rd_propI); (case h => kcf_m))
  | ((with_reducible apply rd_isiO); (case h => kcf_m); (case i => infer_instance))
  | ((with_reducible apply rd_tyT); (case i => infer_instance)))
/-! kd_p: an address is free; kd_in: all but some places stand (through stores); kd_all: all stands (new things) -/
local macro_rules | `(tactic| kd_p) => `(tactic| first | assumption | exact upd_free (by assumption) | exact upd_free (upd_free (by assumption)) | exact upd_free (upd_free (upd_free (by assumption))) | exact upd_free (upd_free (upd_free (upd_free (by assumption)))) | exact upd_free (upd_free (upd_free (upd_free (upd_free (by assumption))))) | exact upd_free (upd_free (upd_free (upd_free (upd_free (upd_free (by assumption)))))) | fail)
local macro_rules | `(tactic| kd_in) => `(tactic| repeat (first | assumption | exact But.refl _ _ | exact But.of (by assumption) | refine But.set ?_ (by first | exact .head _ | exact .tail _ (.head _) | exact .tail _ (.tail _ (.head _)) | exact .tail _ (.tail _ (.tail _ (.head _))) | fail) | refine But.new ?_ (by kd_p)))
local macro_rules | `(tactic| kd_all) => `(tactic| repeat (first | assumption | exact Same.refl _ | refine same_mut ?_ (by kd_p)))
local macro_rules | `(tactic| kcj_m) => `(tactic| first | exact ne_tl (by assumption) (by assumption) | exact (ne_tl (by assumption) (by assumption)).symm | exact ne_il (by assumption) (by assumption) | exact (ne_il (by assumption) (by assumption)).symm | exact ne_it (by assumption) (by assumption) | exact (ne_it (by assumption) (by assumption)).symm)
local macro_rules | `(tactic| kaf_pre) => `(tactic| first
  | with_reducible refine rd_tryMix ?_ | with_reducible refine rd_opS ?_ | with_reducible refine rd_cval ?_)
local macro_rules | `(tactic| kaf_pre) => `(tactic| first
  | ((with_reducible apply rd_slAS); (case l => first | assumption | exact size_of (by omega))) | ((with_reducible apply rd_slAL); (case hp => kcf_m)) | ((with_reducible apply rd_rev); (case hp => kcf_m)) | ((with_reducible apply rd_clear); (case hp => kcf_m)) | ((with_reducible apply rd_tupL); (case hp => kcf_m)))
local macro_rules | `(tactic| kaf_pre) => `(tactic| first
  | with_reducible refine rd_stat ?_ | with_reducible refine rd_isC ?_ | with_reducible refine rd_asg2 ?_)
local macro_rules | `(tactic| kaf_pre) => `(tactic| first
  | with_reducible refine rd_join ?_ | with_reducible refine rd_jnil ?_ | with_reducible refine rd_jcons ?_ | with_reducible refine rd_fmt ?_ | ((with_reducible apply rd_fmtI); (case l => exact log_small (by omega) (by omega))) | ((with_reducible apply rd_fmtS); (case l => first | assumption | exact size_of (by omega))))
local macro_rules | `(tactic| kaf_pre) => `(tactic| first
  | with_reducible refine rd_clsM ?_ | with_reducible refine rd_makeV ?_)
local macro_rules | `(tactic| kaf_pre) => `(tactic| first
  | with_reducible refine rd_lcE ?_ | with_reducible refine rd_forE ?_ | with_reducible refine rd_starL ?_)
local macro_rules | `(tactic| kaf_pre) => `(tactic| with_reducible refine rd_replC ?_)
local macro_rules | `(tactic| kaf_pre) => `(tactic| (with_reducible apply rd_ixOt))
local macro_rules | `(tactic| kaf_pre) => `(tactic| ((with_reducible apply rd_augOt); (case hx => rfl)))
local macro_rules | `(tactic| kaf_pre) => `(tactic| first
  | with_reducible refine rd_dcA ?_ | with_reducible refine rd_dput ?_ | with_reducible refine rd_sIxO ?_)
local macro_rules | `(tactic| kaf_pre) => `(tactic| first
  | with_reducible refine rd_forO ?_ | with_reducible refine rd_lcO ?_)
def topS (i : Nat) : Stmt := PySem.Challenge.pw_promisesowned_k17_rules_by_what_they_let.main.body.getD i (.Pass ⟨0, 0, 0, 0⟩)
abbrev S_law_start : Stmt := topS 37
abbrev S_law_draw : Stmt := topS 38
abbrev S_law_reach : Stmt := topS 50
abbrev S_law_sides : Stmt := topS 41
abbrev S_law_cells : Stmt := topS 45
abbrev S_law_wanted : Stmt := topS 46
abbrev S_law_rule_cells : Stmt := topS 47
abbrev S_law_capped : Stmt := topS 43
abbrev S_law_near : Stmt := topS 51
abbrev S_demand_reach : Stmt := topS 23
abbrev S_Kin_is_self : Stmt := inClass (topS 17) 5
abbrev S_fits_side : Stmt := topS 16
abbrev S_Kin__init_ : Stmt := inClass (topS 17) 1
abbrev S_capped : Stmt := topS 15
abbrev S_Kin__mod_ : Stmt := inClass (topS 17) 13
abbrev S_let_parts : Stmt := topS 28
abbrev S_all_cells : Stmt := topS 24
abbrev S_Rule_lets : Stmt := inClass (topS 29) 4
abbrev S_Rule__init_ : Stmt := inClass (topS 29) 1
abbrev S_Rule__getitem_ : Stmt := inClass (topS 29) 16
abbrev S_Kin_measure : Stmt := inClass (topS 17) 7
abbrev S_Kin__lt_ : Stmt := inClass (topS 17) 9
abbrev S_Rule_put : Stmt := inClass (topS 29) 9
abbrev S_Rule_take : Stmt := inClass (topS 29) 10
abbrev S_Rule_reach : Stmt := inClass (topS 29) 6
abbrev S_joined : Stmt := topS 31
abbrev S_combined : Stmt := topS 32
abbrev S_Rule__sub_ : Stmt := inClass (topS 29) 29
abbrev S_Rule__setitem_ : Stmt := inClass (topS 29) 18
abbrev S_law_kin : Stmt := topS 44
abbrev S_law_rule : Stmt := topS 48
abbrev S_law_lets : Stmt := topS 49
abbrev S_law_lets_all : Stmt := topS 52
abbrev S_Rule_none : Stmt := inClass (topS 29) 2
abbrev S_Rule__ior_ : Stmt := inClass (topS 29) 31
abbrev S_union : Stmt := topS 34
abbrev S_Rule_full : Stmt := inClass (topS 29) 3
abbrev S_Rule__iand_ : Stmt := inClass (topS 29) 32
abbrev S_cutR : Stmt := topS 35
abbrev S_law_any : Stmt := topS 55
abbrev S_law_all : Stmt := topS 56
abbrev S_law_is_number : Stmt := topS 39
abbrev S_law_same : Stmt := topS 40
abbrev S_Rule__len_ : Stmt := inClass (topS 29) 20
abbrev S_Rule__le_ : Stmt := inClass (topS 29) 24
abbrev S_Rule__lt_ : Stmt := inClass (topS 29) 25
abbrev S_Rule__eq_ : Stmt := inClass (topS 29) 23
abbrev S_law_compared : Stmt := topS 54
abbrev S_law_is_rule : Stmt := topS 53
abbrev S_law_parts : Stmt := topS 42
abbrev S_law_of_none : Stmt := topS 57
abbrev S_law : Stmt := topS 58
abbrev M_ForkError : Stmt := inClass (topS 2) 0
abbrev M_BadKin : Stmt := inClass (topS 3) 0
abbrev M_BadReach : Stmt := inClass (topS 4) 0
abbrev M_TooNarrow : Stmt := inClass (topS 5) 0
abbrev M_BadCell : Stmt := inClass (topS 6) 0
abbrev M_BadText : Stmt := inClass (topS 7) 0
def fd0 : Hd.DP := ⟨fun K => Hd.fnB K (Hd.ga K "_law_start") = true, fun K => inferInstance⟩
def fd1 : Hd.DP := ⟨fun K => Hd.fnB K (Hd.ga K "_law_draw") = true, fun K => inferInstance⟩
def fd2 : Hd.DP := ⟨fun K => Hd.fnB K (Hd.ga K "_law_reach") = true, fun K => inferInstance⟩
def fd3 : Hd.DP := ⟨fun K => Hd.fnB K (Hd.ga K "_law_sides") = true, fun K => inferInstance⟩
def fd4 : Hd.DP := ⟨fun K => Hd.fnB K (Hd.ga K "_law_cells") = true, fun K => inferInstance⟩
def fd5 : Hd.DP := ⟨fun K => Hd.fnB K (Hd.ga K "_law_wanted") = true, fun K => inferInstance⟩
def fd6 : Hd.DP := ⟨fun K => Hd.fnB K (Hd.ga K "_law_rule_cells") = true, fun K => inferInstance⟩
def fd7 : Hd.DP := ⟨fun K => Hd.fnB K (Hd.ga K "_law_capped") = true, fun K => inferInstance⟩
def fd8 : Hd.DP := ⟨fun K => Hd.fnB K (Hd.ga K "_law_near") = true, fun K => inferInstance⟩
def fd9 : Hd.DP := ⟨fun K => Hd.fnB K (Hd.ga K "demand_reach") = true, fun K => inferInstance⟩
def fd10 : Hd.DP := ⟨fun K => Hd.fnB K (Hd.rcA K (Hd.ma K "Kin" "is_self") "property") = true, fun K => inferInstance⟩
def fd11 : Hd.DP := ⟨fun K => Hd.fnB K (Hd.ga K "fits_side") = true, fun K => inferInstance⟩
def fd12 : Hd.DP := ⟨fun K => Hd.fnB K (Hd.ma K "Kin" "__init__") = true, fun K => inferInstance⟩
def fd13 : Hd.DP := ⟨fun K => Hd.fnB K (Hd.ga K "capped") = true, fun K => inferInstance⟩
def fd14 : Hd.DP := ⟨fun K => Hd.fnB K (Hd.ma K "Kin" "__mod__") = true, fun K => inferInstance⟩
def fd15 : Hd.DP := ⟨fun K => Hd.fnB K (Hd.ga K "let_parts") = true, fun K => inferInstance⟩
def fd16 : Hd.DP := ⟨fun K => Hd.fnB K (Hd.ga K "all_cells") = true, fun K => inferInstance⟩
def fd17 : Hd.DP := ⟨fun K => Hd.fnB K (Hd.ma K "Rule" "lets") = true, fun K => inferInstance⟩
def fd18 : Hd.DP := ⟨fun K => Hd.fnB K (Hd.ma K "Rule" "__init__") = true, fun K => inferInstance⟩
def fd19 : Hd.DP := ⟨fun K => Hd.fnB K (Hd.ma K "Rule" "__getitem__") = true, fun K => inferInstance⟩
def fd20 : Hd.DP := ⟨fun K => Hd.fnB K (Hd.ma K "Kin" "measure") = true, fun K => inferInstance⟩
def fd21 : Hd.DP := ⟨fun K => Hd.fnB K (Hd.ma K "Kin" "__lt__") = true, fun K => inferInstance⟩
def fd22 : Hd.DP := ⟨fun K => Hd.fnB K (Hd.ma K "Rule" "put") = true, fun K => inferInstance⟩
def fd23 : Hd.DP := ⟨fun K => Hd.fnB K (Hd.ma K "Rule" "take") = true, fun K => inferInstance⟩
def fd24 : Hd.DP := ⟨fun K => Hd.fnB K (Hd.rcA K (Hd.ma K "Rule" "reach") "property") = true, fun K => inferInstance⟩
def fd25 : Hd.DP := ⟨fun K => Hd.fnB K (Hd.ga K "joined") = true, fun K => inferInstance⟩
def fd26 : Hd.DP := ⟨fun K => Hd.fnB K (Hd.ga K "combined") = true, fun K => inferInstance⟩
def fd27 : Hd.DP := ⟨fun K => Hd.fnB K (Hd.ma K "Rule" "__sub__") = true, fun K => inferInstance⟩
def fd28 : Hd.DP := ⟨fun K => Hd.fnB K (Hd.ma K "Rule" "__setitem__") = true, fun K => inferInstance⟩
def fd29 : Hd.DP := ⟨fun K => Hd.fnB K (Hd.ga K "_law_kin") = true, fun K => inferInstance⟩
def fd30 : Hd.DP := ⟨fun K => Hd.fnB K (Hd.ga K "_law_rule") = true, fun K => inferInstance⟩
def fd31 : Hd.DP := ⟨fun K => Hd.fnB K (Hd.ga K "_law_lets") = true, fun K => inferInstance⟩
def fd32 : Hd.DP := ⟨fun K => Hd.fnB K (Hd.ga K "_law_lets_all") = true, fun K => inferInstance⟩
def fd33 : Hd.DP := ⟨fun K => Hd.fnB K (Hd.rcA K (Hd.ma K "Rule" "none") "classmethod") = true, fun K => inferInstance⟩
def fd34 : Hd.DP := ⟨fun K => Hd.fnB K (Hd.ma K "Rule" "__ior__") = true, fun K => inferInstance⟩
def fd35 : Hd.DP := ⟨fun K => Hd.fnB K (Hd.ga K "union") = true, fun K => inferInstance⟩
def fd36 : Hd.DP := ⟨fun K => Hd.fnB K (Hd.rcA K (Hd.ma K "Rule" "full") "classmethod") = true, fun K => inferInstance⟩
def fd37 : Hd.DP := ⟨fun K => Hd.fnB K (Hd.ma K "Rule" "__iand__") = true, fun K => inferInstance⟩
def fd38 : Hd.DP := ⟨fun K => Hd.fnB K (Hd.ga K "cut") = true, fun K => inferInstance⟩
def fd39 : Hd.DP := ⟨fun K => Hd.fnB K (Hd.ga K "_law_any") = true, fun K => inferInstance⟩
def fd40 : Hd.DP := ⟨fun K => Hd.fnB K (Hd.ga K "_law_all") = true, fun K => inferInstance⟩
def fd41 : Hd.DP := ⟨fun K => Hd.fnB K (Hd.ga K "_law_is_number") = true, fun K => inferInstance⟩
def fd42 : Hd.DP := ⟨fun K => Hd.fnB K (Hd.ga K "_law_same") = true, fun K => inferInstance⟩
def fd43 : Hd.DP := ⟨fun K => Hd.fnB K (Hd.ma K "Rule" "__len__") = true, fun K => inferInstance⟩
def fd44 : Hd.DP := ⟨fun K => Hd.fnB K (Hd.ma K "Rule" "__le__") = true, fun K => inferInstance⟩
def fd45 : Hd.DP := ⟨fun K => Hd.fnB K (Hd.ma K "Rule" "__lt__") = true, fun K => inferInstance⟩
def fd46 : Hd.DP := ⟨fun K => Hd.fnB K (Hd.ma K "Rule" "__eq__") = true, fun K => inferInstance⟩
def fd47 : Hd.DP := ⟨fun K => Hd.fnB K (Hd.ga K "_law_compared") = true, fun K => inferInstance⟩
def fd48 : Hd.DP := ⟨fun K => Hd.fnB K (Hd.ga K "_law_is_rule") = true, fun K => inferInstance⟩
def fd49 : Hd.DP := ⟨fun K => Hd.fnB K (Hd.ga K "_law_parts") = true, fun K => inferInstance⟩
def fd50 : Hd.DP := ⟨fun K => Hd.fnB K (Hd.ga K "_law_of_none") = true, fun K => inferInstance⟩
def fd51 : Hd.DP := ⟨fun K => Hd.fnB K (Hd.ga K "law") = true, fun K => inferInstance⟩
def fd52 : Hd.DP := ⟨fun K => Hd.excB K (Hd.ga K "ForkError") [.type "ValueError", .type "Exception", .type "BaseException", .type "object"] = true, fun K => inferInstance⟩
def fd53 : Hd.DP := ⟨fun K => Hd.iniB K (Hd.ma K "ForkError" "__init__") (Hd.ga K "ForkError") "ForkError.__init__" (PySem.Challenge.rw_promisesowned_k17_rules_by_what_they_let).prog.main.file = true, fun K => inferInstance⟩
def fd54 : Hd.DP := ⟨fun K => Hd.excB K (Hd.ga K "BadKin") [.ref (Hd.ga K "ForkError"), .type "ValueError", .type "Exception", .type "BaseException", .type "object"] = true, fun K => inferInstance⟩
def fd55 : Hd.DP := ⟨fun K => Hd.iniB K (Hd.ma K "BadKin" "__init__") (Hd.ga K "BadKin") "BadKin.__init__" (PySem.Challenge.rw_promisesowned_k17_rules_by_what_they_let).prog.main.file = true, fun K => inferInstance⟩
def fd56 : Hd.DP := ⟨fun K => Hd.excB K (Hd.ga K "BadReach") [.ref (Hd.ga K "ForkError"), .type "ValueError", .type "Exception", .type "BaseException", .type "object"] = true, fun K => inferInstance⟩
def fd57 : Hd.DP := ⟨fun K => Hd.iniB K (Hd.ma K "BadReach" "__init__") (Hd.ga K "BadReach") "BadReach.__init__" (PySem.Challenge.rw_promisesowned_k17_rules_by_what_they_let).prog.main.file = true, fun K => inferInstance⟩
def fd58 : Hd.DP := ⟨fun K => Hd.excB K (Hd.ga K "TooNarrow") [.ref (Hd.ga K "ForkError"), .type "ValueError", .type "Exception", .type "BaseException", .type "object"] = true, fun K => inferInstance⟩
def fd59 : Hd.DP := ⟨fun K => Hd.iniB K (Hd.ma K "TooNarrow" "__init__") (Hd.ga K "TooNarrow") "TooNarrow.__init__" (PySem.Challenge.rw_promisesowned_k17_rules_by_what_they_let).prog.main.file = true, fun K => inferInstance⟩
def fd60 : Hd.DP := ⟨fun K => Hd.excB K (Hd.ga K "BadCell") [.ref (Hd.ga K "ForkError"), .type "ValueError", .type "Exception", .type "BaseException", .type "object"] = true, fun K => inferInstance⟩
def fd61 : Hd.DP := ⟨fun K => Hd.iniB K (Hd.ma K "BadCell" "__init__") (Hd.ga K "BadCell") "BadCell.__init__" (PySem.Challenge.rw_promisesowned_k17_rules_by_what_they_let).prog.main.file = true, fun K => inferInstance⟩
def fd62 : Hd.DP := ⟨fun K => Hd.excB K (Hd.ga K "BadText") [.ref (Hd.ga K "ForkError"), .type "ValueError", .type "Exception", .type "BaseException", .type "object"] = true, fun K => inferInstance⟩
def fd63 : Hd.DP := ⟨fun K => Hd.iniB K (Hd.ma K "BadText" "__init__") (Hd.ga K "BadText") "BadText.__init__" (PySem.Challenge.rw_promisesowned_k17_rules_by_what_they_let).prog.main.file = true, fun K => inferInstance⟩
def fd64 : Hd.DP := ⟨fun K => Hd.conIB K (Hd.ga K "Kin") "MOST" 999 = true, fun K => inferInstance⟩
def fd65 : Hd.DP := ⟨fun K => Hd.conIB K (Hd.ga K "Rule") "MOST_REACH" 4 = true, fun K => inferInstance⟩
def fd66 : Hd.DP := ⟨fun K => Hd.intB (PySem.W.nsIn K mainGlobals "LEAST_REACH") 1 = true, fun K => inferInstance⟩
def fd67 : Hd.DP := ⟨fun K => Hd.intB (PySem.W.nsIn K mainGlobals "MOST_REACH") 4 = true, fun K => inferInstance⟩
def fd68 : Hd.DP := ⟨fun K => Hd.tupSB K (Hd.ga K "SIDES") ["line", "elder", "younger"] = true, fun K => inferInstance⟩
def fd69 : Hd.DP := ⟨fun K => PySem.W.nsIn K mainGlobals "Kin" = some (some (.ref (Hd.ga K "Kin"))), fun K => inferInstance⟩
def fd70 : Hd.DP := ⟨fun K => PySem.W.nsIn K mainGlobals "Rule" = some (some (.ref (Hd.ga K "Rule"))), fun K => inferInstance⟩
def fd71 : Hd.DP := ⟨fun K => PySem.W.nsIn K mainGlobals "_law_start" = some (some (.ref (Hd.ga K "_law_start"))), fun K => inferInstance⟩
def fd72 : Hd.DP := ⟨fun K => PySem.W.keepIn K (.ref (Hd.ga K "_law_start")) = true, fun K => inferInstance⟩
def fd73 : Hd.DP := ⟨fun K => PySem.W.nsIn K mainGlobals "_law_draw" = some (some (.ref (Hd.ga K "_law_draw"))), fun K => inferInstance⟩
def fd74 : Hd.DP := ⟨fun K => PySem.W.keepIn K (.ref (Hd.ga K "_law_draw")) = true, fun K => inferInstance⟩
def fd75 : Hd.DP := ⟨fun K => PySem.W.nsIn K mainGlobals "_law_reach" = some (some (.ref (Hd.ga K "_law_reach"))), fun K => inferInstance⟩
def fd76 : Hd.DP := ⟨fun K => PySem.W.keepIn K (.ref (Hd.ga K "_law_reach")) = true, fun K => inferInstance⟩
def fd77 : Hd.DP := ⟨fun K => PySem.W.nsIn K mainGlobals "_law_sides" = some (some (.ref (Hd.ga K "_law_sides"))), fun K => inferInstance⟩
def fd78 : Hd.DP := ⟨fun K => PySem.W.keepIn K (.ref (Hd.ga K "_law_sides")) = true, fun K => inferInstance⟩
def fd79 : Hd.DP := ⟨fun K => PySem.W.nsIn K mainGlobals "_law_cells" = some (some (.ref (Hd.ga K "_law_cells"))), fun K => inferInstance⟩
def fd80 : Hd.DP := ⟨fun K => PySem.W.keepIn K (.ref (Hd.ga K "_law_cells")) = true, fun K => inferInstance⟩
def fd81 : Hd.DP := ⟨fun K => PySem.W.nsIn K mainGlobals "_law_wanted" = some (some (.ref (Hd.ga K "_law_wanted"))), fun K => inferInstance⟩
def fd82 : Hd.DP := ⟨fun K => PySem.W.keepIn K (.ref (Hd.ga K "_law_wanted")) = true, fun K => inferInstance⟩
def fd83 : Hd.DP := ⟨fun K => PySem.W.nsIn K mainGlobals "_law_rule_cells" = some (some (.ref (Hd.ga K "_law_rule_cells"))), fun K => inferInstance⟩
def fd84 : Hd.DP := ⟨fun K => PySem.W.keepIn K (.ref (Hd.ga K "_law_rule_cells")) = true, fun K => inferInstance⟩
def fd85 : Hd.DP := ⟨fun K => PySem.W.nsIn K mainGlobals "_law_capped" = some (some (.ref (Hd.ga K "_law_capped"))), fun K => inferInstance⟩
def fd86 : Hd.DP := ⟨fun K => PySem.W.keepIn K (.ref (Hd.ga K "_law_capped")) = true, fun K => inferInstance⟩
def fd87 : Hd.DP := ⟨fun K => PySem.W.nsIn K mainGlobals "_law_near" = some (some (.ref (Hd.ga K "_law_near"))), fun K => inferInstance⟩
def fd88 : Hd.DP := ⟨fun K => PySem.W.keepIn K (.ref (Hd.ga K "_law_near")) = true, fun K => inferInstance⟩
def fd89 : Hd.DP := ⟨fun K => PySem.W.nsIn K mainGlobals "demand_reach" = some (some (.ref (Hd.ga K "demand_reach"))), fun K => inferInstance⟩
def fd90 : Hd.DP := ⟨fun K => PySem.W.keepIn K (.ref (Hd.ga K "demand_reach")) = true, fun K => inferInstance⟩
def fd91 : Hd.DP := ⟨fun K => PySem.W.findIn K (.ref (Hd.ga K "Kin")) "is_self" = some (some (.ref (Hd.ma K "Kin" "is_self"))), fun K => inferInstance⟩
def fd92 : Hd.DP := ⟨fun K => PySem.W.specialIn K (.ref (Hd.ma K "Kin" "is_self")) "__get__" = some (some (.builtin "property.__get__")), fun K => inferInstance⟩
def fd93 : Hd.DP := ⟨fun K => PySem.W.takesIn K (.ref (Hd.ma K "Kin" "is_self")) = some true, fun K => inferInstance⟩
def fd94 : Hd.DP := ⟨fun K => PySem.W.recIn K (Hd.ma K "Kin" "is_self") "property" = some (.ref (Hd.rcA K (Hd.ma K "Kin" "is_self") "property") :: (Hd.rcR K (Hd.ma K "Kin" "is_self") "property")), fun K => inferInstance⟩
def fd95 : Hd.DP := ⟨fun K => PySem.W.keepIn K (.ref (Hd.rcA K (Hd.ma K "Kin" "is_self") "property")) = true, fun K => inferInstance⟩
def fd96 : Hd.DP := ⟨fun K => PySem.W.nsIn K mainGlobals "fits_side" = some (some (.ref (Hd.ga K "fits_side"))), fun K => inferInstance⟩
def fd97 : Hd.DP := ⟨fun K => PySem.W.keepIn K (.ref (Hd.ga K "fits_side")) = true, fun K => inferInstance⟩
def fd98 : Hd.DP := ⟨fun K => PySem.W.findIn K (.ref (Hd.ga K "Kin")) "__init__" = some (some (.ref (Hd.ma K "Kin" "__init__"))), fun K => inferInstance⟩
def fd99 : Hd.DP := ⟨fun K => PySem.W.isFn K (.ref (Hd.ma K "Kin" "__init__")) = true, fun K => inferInstance⟩
def fd100 : Hd.DP := ⟨fun K => PySem.W.keepIn K (.ref (Hd.ma K "Kin" "__init__")) = true, fun K => inferInstance⟩
def fd101 : Hd.DP := ⟨fun K => PySem.W.nsIn K mainGlobals "capped" = some (some (.ref (Hd.ga K "capped"))), fun K => inferInstance⟩
def fd102 : Hd.DP := ⟨fun K => PySem.W.keepIn K (.ref (Hd.ga K "capped")) = true, fun K => inferInstance⟩
def fd103 : Hd.DP := ⟨fun K => PySem.W.findIn K (.ref (Hd.ga K "Kin")) "__mod__" = some (some (.ref (Hd.ma K "Kin" "__mod__"))), fun K => inferInstance⟩
def fd104 : Hd.DP := ⟨fun K => PySem.W.isFn K (.ref (Hd.ma K "Kin" "__mod__")) = true, fun K => inferInstance⟩
def fd105 : Hd.DP := ⟨fun K => PySem.W.keepIn K (.ref (Hd.ma K "Kin" "__mod__")) = true, fun K => inferInstance⟩
def fd106 : Hd.DP := ⟨fun K => PySem.W.nsIn K mainGlobals "let_parts" = some (some (.ref (Hd.ga K "let_parts"))), fun K => inferInstance⟩
def fd107 : Hd.DP := ⟨fun K => PySem.W.keepIn K (.ref (Hd.ga K "let_parts")) = true, fun K => inferInstance⟩
def fd108 : Hd.DP := ⟨fun K => PySem.W.nsIn K mainGlobals "all_cells" = some (some (.ref (Hd.ga K "all_cells"))), fun K => inferInstance⟩
def fd109 : Hd.DP := ⟨fun K => PySem.W.keepIn K (.ref (Hd.ga K "all_cells")) = true, fun K => inferInstance⟩
def fd110 : Hd.DP := ⟨fun K => PySem.W.findIn K (.ref (Hd.ga K "Rule")) "lets" = some (some (.ref (Hd.ma K "Rule" "lets"))), fun K => inferInstance⟩
def fd111 : Hd.DP := ⟨fun K => PySem.W.isFn K (.ref (Hd.ma K "Rule" "lets")) = true, fun K => inferInstance⟩
def fd112 : Hd.DP := ⟨fun K => PySem.W.keepIn K (.ref (Hd.ma K "Rule" "lets")) = true, fun K => inferInstance⟩
def fd113 : Hd.DP := ⟨fun K => PySem.W.findIn K (.ref (Hd.ga K "Rule")) "__init__" = some (some (.ref (Hd.ma K "Rule" "__init__"))), fun K => inferInstance⟩
def fd114 : Hd.DP := ⟨fun K => PySem.W.isFn K (.ref (Hd.ma K "Rule" "__init__")) = true, fun K => inferInstance⟩
def fd115 : Hd.DP := ⟨fun K => PySem.W.keepIn K (.ref (Hd.ma K "Rule" "__init__")) = true, fun K => inferInstance⟩
def fd116 : Hd.DP := ⟨fun K => PySem.W.findIn K (.ref (Hd.ga K "Rule")) "__getitem__" = some (some (.ref (Hd.ma K "Rule" "__getitem__"))), fun K => inferInstance⟩
def fd117 : Hd.DP := ⟨fun K => PySem.W.isFn K (.ref (Hd.ma K "Rule" "__getitem__")) = true, fun K => inferInstance⟩
def fd118 : Hd.DP := ⟨fun K => PySem.W.keepIn K (.ref (Hd.ma K "Rule" "__getitem__")) = true, fun K => inferInstance⟩
def fd119 : Hd.DP := ⟨fun K => PySem.W.findIn K (.ref (Hd.ga K "Kin")) "measure" = some (some (.ref (Hd.ma K "Kin" "measure"))), fun K => inferInstance⟩
def fd120 : Hd.DP := ⟨fun K => PySem.W.isFn K (.ref (Hd.ma K "Kin" "measure")) = true, fun K => inferInstance⟩
def fd121 : Hd.DP := ⟨fun K => PySem.W.keepIn K (.ref (Hd.ma K "Kin" "measure")) = true, fun K => inferInstance⟩
def fd122 : Hd.DP := ⟨fun K => PySem.W.findIn K (.ref (Hd.ga K "Kin")) "__lt__" = some (some (.ref (Hd.ma K "Kin" "__lt__"))), fun K => inferInstance⟩
def fd123 : Hd.DP := ⟨fun K => PySem.W.isFn K (.ref (Hd.ma K "Kin" "__lt__")) = true, fun K => inferInstance⟩
def fd124 : Hd.DP := ⟨fun K => PySem.W.keepIn K (.ref (Hd.ma K "Kin" "__lt__")) = true, fun K => inferInstance⟩
def fd125 : Hd.DP := ⟨fun K => PySem.W.findIn K (.ref (Hd.ga K "Rule")) "put" = some (some (.ref (Hd.ma K "Rule" "put"))), fun K => inferInstance⟩
def fd126 : Hd.DP := ⟨fun K => PySem.W.isFn K (.ref (Hd.ma K "Rule" "put")) = true, fun K => inferInstance⟩
def fd127 : Hd.DP := ⟨fun K => PySem.W.keepIn K (.ref (Hd.ma K "Rule" "put")) = true, fun K => inferInstance⟩
def fd128 : Hd.DP := ⟨fun K => PySem.W.findIn K (.ref (Hd.ga K "Rule")) "take" = some (some (.ref (Hd.ma K "Rule" "take"))), fun K => inferInstance⟩
def fd129 : Hd.DP := ⟨fun K => PySem.W.isFn K (.ref (Hd.ma K "Rule" "take")) = true, fun K => inferInstance⟩
def fd130 : Hd.DP := ⟨fun K => PySem.W.keepIn K (.ref (Hd.ma K "Rule" "take")) = true, fun K => inferInstance⟩
def fd131 : Hd.DP := ⟨fun K => PySem.W.findIn K (.ref (Hd.ga K "Rule")) "reach" = some (some (.ref (Hd.ma K "Rule" "reach"))), fun K => inferInstance⟩
def fd132 : Hd.DP := ⟨fun K => PySem.W.specialIn K (.ref (Hd.ma K "Rule" "reach")) "__get__" = some (some (.builtin "property.__get__")), fun K => inferInstance⟩
def fd133 : Hd.DP := ⟨fun K => PySem.W.takesIn K (.ref (Hd.ma K "Rule" "reach")) = some true, fun K => inferInstance⟩
def fd134 : Hd.DP := ⟨fun K => PySem.W.recIn K (Hd.ma K "Rule" "reach") "property" = some (.ref (Hd.rcA K (Hd.ma K "Rule" "reach") "property") :: (Hd.rcR K (Hd.ma K "Rule" "reach") "property")), fun K => inferInstance⟩
def fd135 : Hd.DP := ⟨fun K => PySem.W.keepIn K (.ref (Hd.rcA K (Hd.ma K "Rule" "reach") "property")) = true, fun K => inferInstance⟩
def fd136 : Hd.DP := ⟨fun K => PySem.W.nsIn K mainGlobals "joined" = some (some (.ref (Hd.ga K "joined"))), fun K => inferInstance⟩
def fd137 : Hd.DP := ⟨fun K => PySem.W.keepIn K (.ref (Hd.ga K "joined")) = true, fun K => inferInstance⟩
def fd138 : Hd.DP := ⟨fun K => PySem.W.nsIn K mainGlobals "combined" = some (some (.ref (Hd.ga K "combined"))), fun K => inferInstance⟩
def fd139 : Hd.DP := ⟨fun K => PySem.W.keepIn K (.ref (Hd.ga K "combined")) = true, fun K => inferInstance⟩
def fd140 : Hd.DP := ⟨fun K => PySem.W.findIn K (.ref (Hd.ga K "Rule")) "__sub__" = some (some (.ref (Hd.ma K "Rule" "__sub__"))), fun K => inferInstance⟩
def fd141 : Hd.DP := ⟨fun K => PySem.W.isFn K (.ref (Hd.ma K "Rule" "__sub__")) = true, fun K => inferInstance⟩
def fd142 : Hd.DP := ⟨fun K => PySem.W.keepIn K (.ref (Hd.ma K "Rule" "__sub__")) = true, fun K => inferInstance⟩
def fd143 : Hd.DP := ⟨fun K => PySem.W.findIn K (.ref (Hd.ga K "Rule")) "__setitem__" = some (some (.ref (Hd.ma K "Rule" "__setitem__"))), fun K => inferInstance⟩
def fd144 : Hd.DP := ⟨fun K => PySem.W.isFn K (.ref (Hd.ma K "Rule" "__setitem__")) = true, fun K => inferInstance⟩
def fd145 : Hd.DP := ⟨fun K => PySem.W.keepIn K (.ref (Hd.ma K "Rule" "__setitem__")) = true, fun K => inferInstance⟩
def fd146 : Hd.DP := ⟨fun K => PySem.W.nsIn K mainGlobals "_law_kin" = some (some (.ref (Hd.ga K "_law_kin"))), fun K => inferInstance⟩
def fd147 : Hd.DP := ⟨fun K => PySem.W.keepIn K (.ref (Hd.ga K "_law_kin")) = true, fun K => inferInstance⟩
def fd148 : Hd.DP := ⟨fun K => PySem.W.nsIn K mainGlobals "_law_rule" = some (some (.ref (Hd.ga K "_law_rule"))), fun K => inferInstance⟩
def fd149 : Hd.DP := ⟨fun K => PySem.W.keepIn K (.ref (Hd.ga K "_law_rule")) = true, fun K => inferInstance⟩
def fd150 : Hd.DP := ⟨fun K => PySem.W.nsIn K mainGlobals "_law_lets" = some (some (.ref (Hd.ga K "_law_lets"))), fun K => inferInstance⟩
def fd151 : Hd.DP := ⟨fun K => PySem.W.keepIn K (.ref (Hd.ga K "_law_lets")) = true, fun K => inferInstance⟩
def fd152 : Hd.DP := ⟨fun K => PySem.W.nsIn K mainGlobals "_law_lets_all" = some (some (.ref (Hd.ga K "_law_lets_all"))), fun K => inferInstance⟩
def fd153 : Hd.DP := ⟨fun K => PySem.W.keepIn K (.ref (Hd.ga K "_law_lets_all")) = true, fun K => inferInstance⟩
def fd154 : Hd.DP := ⟨fun K => PySem.W.findIn K (.ref (Hd.ga K "Rule")) "none" = some (some (.ref (Hd.ma K "Rule" "none"))), fun K => inferInstance⟩
def fd155 : Hd.DP := ⟨fun K => PySem.W.findIn K (.type "type") "none" = some none, fun K => inferInstance⟩
def fd156 : Hd.DP := ⟨fun K => PySem.W.typeIn K (.ref (Hd.ma K "Rule" "none")) = some (.type "classmethod"), fun K => inferInstance⟩
def fd157 : Hd.DP := ⟨fun K => PySem.W.specialIn K (.ref (Hd.ma K "Rule" "none")) "__get__" = some (some (.builtin "classmethod.__get__")), fun K => inferInstance⟩
def fd158 : Hd.DP := ⟨fun K => PySem.W.recIn K (Hd.ma K "Rule" "none") "classmethod" = some (.ref (Hd.rcA K (Hd.ma K "Rule" "none") "classmethod") :: (Hd.rcR K (Hd.ma K "Rule" "none") "classmethod")), fun K => inferInstance⟩
def fd159 : Hd.DP := ⟨fun K => PySem.W.readsIn K (Hd.ga K "Rule") (.type "type") = true, fun K => inferInstance⟩
def fd160 : Hd.DP := ⟨fun K => PySem.W.specialIn K (.ref (Hd.ga K "Rule")) "__getattribute__" = some (some (.builtin "type.__getattribute__")), fun K => inferInstance⟩
def fd161 : Hd.DP := ⟨fun K => PySem.W.fnIn K (Hd.rcA K (Hd.ma K "Rule" "none") "classmethod") = true, fun K => inferInstance⟩
def fd162 : Hd.DP := ⟨fun K => PySem.W.keepIn K (.ref (Hd.rcA K (Hd.ma K "Rule" "none") "classmethod")) = true, fun K => inferInstance⟩
def fd163 : Hd.DP := ⟨fun K => PySem.W.findIn K (.ref (Hd.ga K "Rule")) "__ior__" = some (some (.ref (Hd.ma K "Rule" "__ior__"))), fun K => inferInstance⟩
def fd164 : Hd.DP := ⟨fun K => PySem.W.isFn K (.ref (Hd.ma K "Rule" "__ior__")) = true, fun K => inferInstance⟩
def fd165 : Hd.DP := ⟨fun K => PySem.W.keepIn K (.ref (Hd.ma K "Rule" "__ior__")) = true, fun K => inferInstance⟩
def fd166 : Hd.DP := ⟨fun K => PySem.W.nsIn K mainGlobals "union" = some (some (.ref (Hd.ga K "union"))), fun K => inferInstance⟩
def fd167 : Hd.DP := ⟨fun K => PySem.W.keepIn K (.ref (Hd.ga K "union")) = true, fun K => inferInstance⟩
def fd168 : Hd.DP := ⟨fun K => PySem.W.findIn K (.ref (Hd.ga K "Rule")) "full" = some (some (.ref (Hd.ma K "Rule" "full"))), fun K => inferInstance⟩
def fd169 : Hd.DP := ⟨fun K => PySem.W.findIn K (.type "type") "full" = some none, fun K => inferInstance⟩
def fd170 : Hd.DP := ⟨fun K => PySem.W.typeIn K (.ref (Hd.ma K "Rule" "full")) = some (.type "classmethod"), fun K => inferInstance⟩
def fd171 : Hd.DP := ⟨fun K => PySem.W.specialIn K (.ref (Hd.ma K "Rule" "full")) "__get__" = some (some (.builtin "classmethod.__get__")), fun K => inferInstance⟩
def fd172 : Hd.DP := ⟨fun K => PySem.W.recIn K (Hd.ma K "Rule" "full") "classmethod" = some (.ref (Hd.rcA K (Hd.ma K "Rule" "full") "classmethod") :: (Hd.rcR K (Hd.ma K "Rule" "full") "classmethod")), fun K => inferInstance⟩
def fd173 : Hd.DP := ⟨fun K => PySem.W.readsIn K (Hd.ga K "Rule") (.type "type") = true, fun K => inferInstance⟩
def fd174 : Hd.DP := ⟨fun K => PySem.W.specialIn K (.ref (Hd.ga K "Rule")) "__getattribute__" = some (some (.builtin "type.__getattribute__")), fun K => inferInstance⟩
def fd175 : Hd.DP := ⟨fun K => PySem.W.fnIn K (Hd.rcA K (Hd.ma K "Rule" "full") "classmethod") = true, fun K => inferInstance⟩
def fd176 : Hd.DP := ⟨fun K => PySem.W.keepIn K (.ref (Hd.rcA K (Hd.ma K "Rule" "full") "classmethod")) = true, fun K => inferInstance⟩
def fd177 : Hd.DP := ⟨fun K => PySem.W.findIn K (.ref (Hd.ga K "Rule")) "__iand__" = some (some (.ref (Hd.ma K "Rule" "__iand__"))), fun K => inferInstance⟩
def fd178 : Hd.DP := ⟨fun K => PySem.W.isFn K (.ref (Hd.ma K "Rule" "__iand__")) = true, fun K => inferInstance⟩
def fd179 : Hd.DP := ⟨fun K => PySem.W.keepIn K (.ref (Hd.ma K "Rule" "__iand__")) = true, fun K => inferInstance⟩
def fd180 : Hd.DP := ⟨fun K => PySem.W.nsIn K mainGlobals "cut" = some (some (.ref (Hd.ga K "cut"))), fun K => inferInstance⟩
def fd181 : Hd.DP := ⟨fun K => PySem.W.keepIn K (.ref (Hd.ga K "cut")) = true, fun K => inferInstance⟩
def fd182 : Hd.DP := ⟨fun K => PySem.W.nsIn K mainGlobals "_law_any" = some (some (.ref (Hd.ga K "_law_any"))), fun K => inferInstance⟩
def fd183 : Hd.DP := ⟨fun K => PySem.W.keepIn K (.ref (Hd.ga K "_law_any")) = true, fun K => inferInstance⟩
def fd184 : Hd.DP := ⟨fun K => PySem.W.nsIn K mainGlobals "_law_all" = some (some (.ref (Hd.ga K "_law_all"))), fun K => inferInstance⟩
def fd185 : Hd.DP := ⟨fun K => PySem.W.keepIn K (.ref (Hd.ga K "_law_all")) = true, fun K => inferInstance⟩
def fd186 : Hd.DP := ⟨fun K => PySem.W.nsIn K mainGlobals "_law_is_number" = some (some (.ref (Hd.ga K "_law_is_number"))), fun K => inferInstance⟩
def fd187 : Hd.DP := ⟨fun K => PySem.W.keepIn K (.ref (Hd.ga K "_law_is_number")) = true, fun K => inferInstance⟩
def fd188 : Hd.DP := ⟨fun K => PySem.W.nsIn K mainGlobals "_law_same" = some (some (.ref (Hd.ga K "_law_same"))), fun K => inferInstance⟩
def fd189 : Hd.DP := ⟨fun K => PySem.W.keepIn K (.ref (Hd.ga K "_law_same")) = true, fun K => inferInstance⟩
def fd190 : Hd.DP := ⟨fun K => PySem.W.findIn K (.ref (Hd.ga K "Rule")) "__len__" = some (some (.ref (Hd.ma K "Rule" "__len__"))), fun K => inferInstance⟩
def fd191 : Hd.DP := ⟨fun K => PySem.W.isFn K (.ref (Hd.ma K "Rule" "__len__")) = true, fun K => inferInstance⟩
def fd192 : Hd.DP := ⟨fun K => PySem.W.keepIn K (.ref (Hd.ma K "Rule" "__len__")) = true, fun K => inferInstance⟩
def fd193 : Hd.DP := ⟨fun K => PySem.W.findIn K (.ref (Hd.ga K "Rule")) "__le__" = some (some (.ref (Hd.ma K "Rule" "__le__"))), fun K => inferInstance⟩
def fd194 : Hd.DP := ⟨fun K => PySem.W.isFn K (.ref (Hd.ma K "Rule" "__le__")) = true, fun K => inferInstance⟩
def fd195 : Hd.DP := ⟨fun K => PySem.W.keepIn K (.ref (Hd.ma K "Rule" "__le__")) = true, fun K => inferInstance⟩
def fd196 : Hd.DP := ⟨fun K => PySem.W.findIn K (.ref (Hd.ga K "Rule")) "__lt__" = some (some (.ref (Hd.ma K "Rule" "__lt__"))), fun K => inferInstance⟩
def fd197 : Hd.DP := ⟨fun K => PySem.W.isFn K (.ref (Hd.ma K "Rule" "__lt__")) = true, fun K => inferInstance⟩
def fd198 : Hd.DP := ⟨fun K => PySem.W.keepIn K (.ref (Hd.ma K "Rule" "__lt__")) = true, fun K => inferInstance⟩
def fd199 : Hd.DP := ⟨fun K => PySem.W.findIn K (.ref (Hd.ga K "Rule")) "__eq__" = some (some (.ref (Hd.ma K "Rule" "__eq__"))), fun K => inferInstance⟩
def fd200 : Hd.DP := ⟨fun K => PySem.W.isFn K (.ref (Hd.ma K "Rule" "__eq__")) = true, fun K => inferInstance⟩
def fd201 : Hd.DP := ⟨fun K => PySem.W.keepIn K (.ref (Hd.ma K "Rule" "__eq__")) = true, fun K => inferInstance⟩
def fd202 : Hd.DP := ⟨fun K => PySem.W.nsIn K mainGlobals "_law_compared" = some (some (.ref (Hd.ga K "_law_compared"))), fun K => inferInstance⟩
def fd203 : Hd.DP := ⟨fun K => PySem.W.keepIn K (.ref (Hd.ga K "_law_compared")) = true, fun K => inferInstance⟩
def fd204 : Hd.DP := ⟨fun K => PySem.W.nsIn K mainGlobals "_law_is_rule" = some (some (.ref (Hd.ga K "_law_is_rule"))), fun K => inferInstance⟩
def fd205 : Hd.DP := ⟨fun K => PySem.W.keepIn K (.ref (Hd.ga K "_law_is_rule")) = true, fun K => inferInstance⟩
def fd206 : Hd.DP := ⟨fun K => PySem.W.nsIn K mainGlobals "_law_parts" = some (some (.ref (Hd.ga K "_law_parts"))), fun K => inferInstance⟩
def fd207 : Hd.DP := ⟨fun K => PySem.W.keepIn K (.ref (Hd.ga K "_law_parts")) = true, fun K => inferInstance⟩
def fd208 : Hd.DP := ⟨fun K => PySem.W.nsIn K mainGlobals "_law_of_none" = some (some (.ref (Hd.ga K "_law_of_none"))), fun K => inferInstance⟩
def fd209 : Hd.DP := ⟨fun K => PySem.W.keepIn K (.ref (Hd.ga K "_law_of_none")) = true, fun K => inferInstance⟩
def fd210 : Hd.DP := ⟨fun K => PySem.W.nsIn K mainGlobals "law" = some (some (.ref (Hd.ga K "law"))), fun K => inferInstance⟩
def fd211 : Hd.DP := ⟨fun K => PySem.W.keepIn K (.ref (Hd.ga K "law")) = true, fun K => inferInstance⟩
def fd212 : Hd.DP := ⟨fun K => PySem.W.nsIn K mainGlobals "bool" = some none, fun K => inferInstance⟩
def fd213 : Hd.DP := ⟨fun K => PySem.W.nsIn K mainGlobals "int" = some none, fun K => inferInstance⟩
def fd214 : Hd.DP := ⟨fun K => PySem.W.nsIn K mainGlobals "isinstance" = some none, fun K => inferInstance⟩
def fd215 : Hd.DP := ⟨fun K => PySem.W.nsIn K mainGlobals "len" = some none, fun K => inferInstance⟩
def fd216 : Hd.DP := ⟨fun K => PySem.W.nsIn K mainGlobals "list" = some none, fun K => inferInstance⟩
def fd217 : Hd.DP := ⟨fun K => PySem.W.nsIn K mainGlobals "max" = some none, fun K => inferInstance⟩
def fd218 : Hd.DP := ⟨fun K => PySem.W.nsIn K mainGlobals "min" = some none, fun K => inferInstance⟩
def fd219 : Hd.DP := ⟨fun K => PySem.W.nsIn K mainGlobals "range" = some none, fun K => inferInstance⟩
def fd220 : Hd.DP := ⟨fun K => PySem.W.nsIn K mainGlobals "str" = some none, fun K => inferInstance⟩
def fd221 : Hd.DP := ⟨fun K => PySem.W.nsIn K mainGlobals "tuple" = some none, fun K => inferInstance⟩
def fd222 : Hd.DP := ⟨fun K => PySem.W.nsIn K mainGlobals "ForkError" = some (some (.ref (Hd.ga K "ForkError"))), fun K => inferInstance⟩
def fd223 : Hd.DP := ⟨fun K => ExL.ecB K (Hd.ga K "ForkError") ["reason"] = true, fun K => inferInstance⟩
def fd224 : Hd.DP := ⟨fun K => PySem.W.findIn K (.ref (Hd.ga K "ForkError")) "__init__" = some (some (.ref (Hd.ma K "ForkError" "__init__"))), fun K => inferInstance⟩
def fd225 : Hd.DP := ⟨fun K => PySem.W.typeIn K (.ref (Hd.ma K "ForkError" "__init__")) = some (.type "function"), fun K => inferInstance⟩
def fd226 : Hd.DP := ⟨fun K => PySem.W.nsIn K mainGlobals "BadKin" = some (some (.ref (Hd.ga K "BadKin"))), fun K => inferInstance⟩
def fd227 : Hd.DP := ⟨fun K => ExL.ecB K (Hd.ga K "BadKin") ["reason", "up", "down", "side"] = true, fun K => inferInstance⟩
def fd228 : Hd.DP := ⟨fun K => PySem.W.findIn K (.ref (Hd.ga K "BadKin")) "__init__" = some (some (.ref (Hd.ma K "BadKin" "__init__"))), fun K => inferInstance⟩
def fd229 : Hd.DP := ⟨fun K => PySem.W.typeIn K (.ref (Hd.ma K "BadKin" "__init__")) = some (.type "function"), fun K => inferInstance⟩
def fd230 : Hd.DP := ⟨fun K => PySem.W.ks_superIn K (Hd.ga K "BadKin") (Hd.ga K "BadKin") "__init__" = some (some (.ref (Hd.ma K "ForkError" "__init__"))), fun K => inferInstance⟩
def fd231 : Hd.DP := ⟨fun K => PySem.W.ks_superIn K (Hd.ga K "BadKin") (Hd.ga K "ForkError") "__init__" = some (some (.builtin "ValueError.__init__")), fun K => inferInstance⟩
def fd232 : Hd.DP := ⟨fun K => PySem.W.mroIn K (Hd.ga K "BadKin") (.ref (Hd.ga K "ForkError")) = some true, fun K => inferInstance⟩
def fd233 : Hd.DP := ⟨fun K => PySem.W.nsIn K mainGlobals "BadReach" = some (some (.ref (Hd.ga K "BadReach"))), fun K => inferInstance⟩
def fd234 : Hd.DP := ⟨fun K => ExL.ecB K (Hd.ga K "BadReach") ["reason", "number"] = true, fun K => inferInstance⟩
def fd235 : Hd.DP := ⟨fun K => PySem.W.findIn K (.ref (Hd.ga K "BadReach")) "__init__" = some (some (.ref (Hd.ma K "BadReach" "__init__"))), fun K => inferInstance⟩
def fd236 : Hd.DP := ⟨fun K => PySem.W.typeIn K (.ref (Hd.ma K "BadReach" "__init__")) = some (.type "function"), fun K => inferInstance⟩
def fd237 : Hd.DP := ⟨fun K => PySem.W.ks_superIn K (Hd.ga K "BadReach") (Hd.ga K "BadReach") "__init__" = some (some (.ref (Hd.ma K "ForkError" "__init__"))), fun K => inferInstance⟩
def fd238 : Hd.DP := ⟨fun K => PySem.W.ks_superIn K (Hd.ga K "BadReach") (Hd.ga K "ForkError") "__init__" = some (some (.builtin "ValueError.__init__")), fun K => inferInstance⟩
def fd239 : Hd.DP := ⟨fun K => PySem.W.mroIn K (Hd.ga K "BadReach") (.ref (Hd.ga K "ForkError")) = some true, fun K => inferInstance⟩
def fd240 : Hd.DP := ⟨fun K => PySem.W.nsIn K mainGlobals "TooNarrow" = some (some (.ref (Hd.ga K "TooNarrow"))), fun K => inferInstance⟩
def fd241 : Hd.DP := ⟨fun K => ExL.ecB K (Hd.ga K "TooNarrow") ["reason", "number"] = true, fun K => inferInstance⟩
def fd242 : Hd.DP := ⟨fun K => PySem.W.findIn K (.ref (Hd.ga K "TooNarrow")) "__init__" = some (some (.ref (Hd.ma K "TooNarrow" "__init__"))), fun K => inferInstance⟩
def fd243 : Hd.DP := ⟨fun K => PySem.W.typeIn K (.ref (Hd.ma K "TooNarrow" "__init__")) = some (.type "function"), fun K => inferInstance⟩
def fd244 : Hd.DP := ⟨fun K => PySem.W.ks_superIn K (Hd.ga K "TooNarrow") (Hd.ga K "TooNarrow") "__init__" = some (some (.ref (Hd.ma K "ForkError" "__init__"))), fun K => inferInstance⟩
def fd245 : Hd.DP := ⟨fun K => PySem.W.ks_superIn K (Hd.ga K "TooNarrow") (Hd.ga K "ForkError") "__init__" = some (some (.builtin "ValueError.__init__")), fun K => inferInstance⟩
def fd246 : Hd.DP := ⟨fun K => PySem.W.mroIn K (Hd.ga K "TooNarrow") (.ref (Hd.ga K "ForkError")) = some true, fun K => inferInstance⟩
def fd247 : Hd.DP := ⟨fun K => PySem.W.nsIn K mainGlobals "BadCell" = some (some (.ref (Hd.ga K "BadCell"))), fun K => inferInstance⟩
def fd248 : Hd.DP := ⟨fun K => ExL.ecB K (Hd.ga K "BadCell") ["reason", "kin"] = true, fun K => inferInstance⟩
def fd249 : Hd.DP := ⟨fun K => PySem.W.findIn K (.ref (Hd.ga K "BadCell")) "__init__" = some (some (.ref (Hd.ma K "BadCell" "__init__"))), fun K => inferInstance⟩
def fd250 : Hd.DP := ⟨fun K => PySem.W.typeIn K (.ref (Hd.ma K "BadCell" "__init__")) = some (.type "function"), fun K => inferInstance⟩
def fd251 : Hd.DP := ⟨fun K => PySem.W.ks_superIn K (Hd.ga K "BadCell") (Hd.ga K "BadCell") "__init__" = some (some (.ref (Hd.ma K "ForkError" "__init__"))), fun K => inferInstance⟩
def fd252 : Hd.DP := ⟨fun K => PySem.W.ks_superIn K (Hd.ga K "BadCell") (Hd.ga K "ForkError") "__init__" = some (some (.builtin "ValueError.__init__")), fun K => inferInstance⟩
def fd253 : Hd.DP := ⟨fun K => PySem.W.mroIn K (Hd.ga K "BadCell") (.ref (Hd.ga K "ForkError")) = some true, fun K => inferInstance⟩
def fd254 : Hd.DP := ⟨fun K => PySem.W.nsIn K mainGlobals "BadText" = some (some (.ref (Hd.ga K "BadText"))), fun K => inferInstance⟩
def fd255 : Hd.DP := ⟨fun K => ExL.ecB K (Hd.ga K "BadText") ["reason", "line"] = true, fun K => inferInstance⟩
def fd256 : Hd.DP := ⟨fun K => PySem.W.findIn K (.ref (Hd.ga K "BadText")) "__init__" = some (some (.ref (Hd.ma K "BadText" "__init__"))), fun K => inferInstance⟩
def fd257 : Hd.DP := ⟨fun K => PySem.W.typeIn K (.ref (Hd.ma K "BadText" "__init__")) = some (.type "function"), fun K => inferInstance⟩
def fd258 : Hd.DP := ⟨fun K => PySem.W.ks_superIn K (Hd.ga K "BadText") (Hd.ga K "BadText") "__init__" = some (some (.ref (Hd.ma K "ForkError" "__init__"))), fun K => inferInstance⟩
def fd259 : Hd.DP := ⟨fun K => PySem.W.ks_superIn K (Hd.ga K "BadText") (Hd.ga K "ForkError") "__init__" = some (some (.builtin "ValueError.__init__")), fun K => inferInstance⟩
def fd260 : Hd.DP := ⟨fun K => PySem.W.mroIn K (Hd.ga K "BadText") (.ref (Hd.ga K "ForkError")) = some true, fun K => inferInstance⟩
def fd261 : Hd.DP := ⟨fun K => objB K (Hd.ga K "Kin") ["up", "down", "side", "far", "rank"] = true, fun K => inferInstance⟩
def fd262 : Hd.DP := ⟨fun K => objB K (Hd.ga K "Rule") ["_reach", "_let", "_rows"] = true, fun K => inferInstance⟩
def fd263 : Hd.DP := ⟨fun K => gtB K (Hd.ga K "Rule") = true, fun K => inferInstance⟩
def fd264 : Hd.DP := ⟨fun K => PySem.W.findIn K (.ref (Hd.ga K "Rule")) "__ne__" = some (some (.builtin "object.__ne__")), fun K => inferInstance⟩
def fd265 : Hd.DP := ⟨fun K => PySem.W.subIn K (.ref (Hd.ga K "Rule")) (.type "object") = some true, fun K => inferInstance⟩
def fd266 : Hd.DP := ⟨fun K => PySem.W.noSeq K (Hd.ga K "Rule") = true, fun K => inferInstance⟩
def fd267 : Hd.DP := ⟨fun K => PySem.W.selfFirst K (Hd.ga K "Rule") = true, fun K => inferInstance⟩
def fd268 : Hd.DP := ⟨fun K => opB K (Hd.ga K "Kin") "mod" = true, fun K => inferInstance⟩
def fd269 : Hd.DP := ⟨fun K => (PySem.W.clsIn K (Hd.ga K "Kin")).isSome = true, fun K => inferInstance⟩
def fd270 : Hd.DP := ⟨fun K => PySem.W.typeIn K (.ref (Hd.ga K "Kin")) = some (.type "type"), fun K => inferInstance⟩
def fd271 : Hd.DP := ⟨fun K => PySem.W.subIn K (.ref (Hd.ga K "Kin")) (.ref (Hd.ga K "Kin")) = some true, fun K => inferInstance⟩
def fd272 : Hd.DP := ⟨fun K => (PySem.W.clsIn K (Hd.ga K "Rule")).isSome = true, fun K => inferInstance⟩
def fd273 : Hd.DP := ⟨fun K => PySem.W.typeIn K (.ref (Hd.ga K "Rule")) = some (.type "type"), fun K => inferInstance⟩
def fd274 : Hd.DP := ⟨fun K => PySem.W.subIn K (.ref (Hd.ga K "Rule")) (.ref (Hd.ga K "Rule")) = some true, fun K => inferInstance⟩
def fd275 : Hd.DP := ⟨fun K => PySem.W.subIn K (.ref (Hd.ga K "Rule")) (.ref (Hd.ga K "Kin")) = some false, fun K => inferInstance⟩
def fd276 : Hd.DP := ⟨fun K => PySem.W.subIn K (.ref (Hd.ga K "Kin")) (.ref (Hd.ga K "Rule")) = some false, fun K => inferInstance⟩
def fd277 : Hd.DP := ⟨fun K => opNoB K (Hd.ga K "Kin") "sub" = true, fun K => inferInstance⟩
def fd278 : Hd.DP := ⟨fun K => ((Hd.ga K "Rule") == (Hd.ga K "Kin")) = false, fun K => inferInstance⟩
def fd279 : Hd.DP := ⟨fun K => PySem.W.nsIn K mainGlobals "SIDES" = some (some (.ref (Hd.ga K "SIDES"))), fun K => inferInstance⟩
def fd280 : Hd.DP := ⟨fun K => PySem.W.nsIn K mainGlobals "super" = some none, fun K => inferInstance⟩
def fd281 : Hd.DP := ⟨fun K => PySem.W.nsIn K cStatics "thirdparty.any" = some none, fun K => inferInstance⟩
def fs : List Hd.DP := [fd0, fd1, fd2, fd3, fd4, fd5, fd6, fd7, fd8, fd9, fd10, fd11, fd12, fd13, fd14, fd15, fd16, fd17, fd18, fd19, fd20, fd21, fd22, fd23, fd24, fd25, fd26, fd27, fd28, fd29, fd30, fd31, fd32, fd33, fd34, fd35, fd36, fd37, fd38, fd39, fd40, fd41, fd42, fd43, fd44, fd45, fd46, fd47, fd48, fd49, fd50, fd51, fd52, fd53, fd54, fd55, fd56, fd57, fd58, fd59, fd60, fd61, fd62, fd63, fd64, fd65, fd66, fd67, fd68, fd69, fd70, fd71, fd72, fd73, fd74, fd75, fd76, fd77, fd78, fd79, fd80, fd81, fd82, fd83, fd84, fd85, fd86, fd87, fd88, fd89, fd90, fd91, fd92, fd93, fd94, fd95, fd96, fd97, fd98, fd99, fd100, fd101, fd102, fd103, fd104, fd105, fd106, fd107, fd108, fd109, fd110, fd111, fd112, fd113, fd114, fd115, fd116, fd117, fd118, fd119, fd120, fd121, fd122, fd123, fd124, fd125, fd126, fd127, fd128, fd129, fd130, fd131, fd132, fd133, fd134, fd135, fd136, fd137, fd138, fd139, fd140, fd141, fd142, fd143, fd144, fd145, fd146, fd147, fd148, fd149, fd150, fd151, fd152, fd153, fd154, fd155, fd156, fd157, fd158, fd159, fd160, fd161, fd162, fd163, fd164, fd165, fd166, fd167, fd168, fd169, fd170, fd171, fd172, fd173, fd174, fd175, fd176, fd177, fd178, fd179, fd180, fd181, fd182, fd183, fd184, fd185, fd186, fd187, fd188, fd189, fd190, fd191, fd192, fd193, fd194, fd195, fd196, fd197, fd198, fd199, fd200, fd201, fd202, fd203, fd204, fd205, fd206, fd207, fd208, fd209, fd210, fd211, fd212, fd213, fd214, fd215, fd216, fd217, fd218, fd219, fd220, fd221, fd222, fd223, fd224, fd225, fd226, fd227, fd228, fd229, fd230, fd231, fd232, fd233, fd234, fd235, fd236, fd237, fd238, fd239, fd240, fd241, fd242, fd243, fd244, fd245, fd246, fd247, fd248, fd249, fd250, fd251, fd252, fd253, fd254, fd255, fd256, fd257, fd258, fd259, fd260, fd261, fd262, fd263, fd264, fd265, fd266, fd267, fd268, fd269, fd270, fd271, fd272, fd273, fd274, fd275, fd276, fd277, fd278, fd279, fd280, fd281]
def fns : List (PySem.W.Frag → Addr) := [fun K => (Hd.ga K "_law_start"), fun K => (Hd.ga K "_law_draw"), fun K => (Hd.ga K "_law_reach"), fun K => (Hd.ga K "_law_sides"), fun K => (Hd.ga K "_law_cells"), fun K => (Hd.ga K "_law_wanted"), fun K => (Hd.ga K "_law_rule_cells"), fun K => (Hd.ga K "_law_capped"), fun K => (Hd.ga K "_law_near"), fun K => (Hd.ga K "demand_reach"), fun K => (Hd.rcA K (Hd.ma K "Kin" "is_self") "property"), fun K => (Hd.ga K "fits_side"), fun K => (Hd.ma K "Kin" "__init__"), fun K => (Hd.ga K "capped"), fun K => (Hd.ma K "Kin" "__mod__"), fun K => (Hd.ga K "let_parts"), fun K => (Hd.ga K "all_cells"), fun K => (Hd.ma K "Rule" "lets"), fun K => (Hd.ma K "Rule" "__init__"), fun K => (Hd.ma K "Rule" "__getitem__"), fun K => (Hd.ma K "Kin" "measure"), fun K => (Hd.ma K "Kin" "__lt__"), fun K => (Hd.ma K "Rule" "put"), fun K => (Hd.ma K "Rule" "take"), fun K => (Hd.rcA K (Hd.ma K "Rule" "reach") "property"), fun K => (Hd.ga K "joined"), fun K => (Hd.ga K "combined"), fun K => (Hd.ma K "Rule" "__sub__"), fun K => (Hd.ma K "Rule" "__setitem__"), fun K => (Hd.ga K "_law_kin"), fun K => (Hd.ga K "_law_rule"), fun K => (Hd.ga K "_law_lets"), fun K => (Hd.ga K "_law_lets_all"), fun K => (Hd.rcA K (Hd.ma K "Rule" "none") "classmethod"), fun K => (Hd.ma K "Rule" "__ior__"), fun K => (Hd.ga K "union"), fun K => (Hd.rcA K (Hd.ma K "Rule" "full") "classmethod"), fun K => (Hd.ma K "Rule" "__iand__"), fun K => (Hd.ga K "cut"), fun K => (Hd.ga K "_law_any"), fun K => (Hd.ga K "_law_all"), fun K => (Hd.ga K "_law_is_number"), fun K => (Hd.ga K "_law_same"), fun K => (Hd.ma K "Rule" "__len__"), fun K => (Hd.ma K "Rule" "__le__"), fun K => (Hd.ma K "Rule" "__lt__"), fun K => (Hd.ma K "Rule" "__eq__"), fun K => (Hd.ga K "_law_compared"), fun K => (Hd.ga K "_law_is_rule"), fun K => (Hd.ga K "_law_parts"), fun K => (Hd.ga K "_law_of_none"), fun K => (Hd.ga K "law"), fun K => (Hd.ma K "ForkError" "__init__"), fun K => (Hd.ma K "BadKin" "__init__"), fun K => (Hd.ma K "BadReach" "__init__"), fun K => (Hd.ma K "TooNarrow" "__init__"), fun K => (Hd.ma K "BadCell" "__init__"), fun K => (Hd.ma K "BadText" "__init__")]
def vls : List Hd.FV := [Hd.fvOf "_law_start" "_law_start" S_law_start, Hd.fvOf "_law_draw" "_law_draw" S_law_draw, Hd.fvOf "_law_reach" "_law_reach" S_law_reach, Hd.fvOf "_law_sides" "_law_sides" S_law_sides, Hd.fvOf "_law_cells" "_law_cells" S_law_cells, Hd.fvOf "_law_wanted" "_law_wanted" S_law_wanted, Hd.fvOf "_law_rule_cells" "_law_rule_cells" S_law_rule_cells, Hd.fvOf "_law_capped" "_law_capped" S_law_capped, Hd.fvOf "_law_near" "_law_near" S_law_near, Hd.fvOf "demand_reach" "demand_reach" S_demand_reach, Hd.fvOf "is_self" "Kin.is_self" S_Kin_is_self, Hd.fvOf "fits_side" "fits_side" S_fits_side, Hd.fvOf "__init__" "Kin.__init__" S_Kin__init_, Hd.fvOf "capped" "capped" S_capped, Hd.fvOf "__mod__" "Kin.__mod__" S_Kin__mod_, Hd.fvOf "let_parts" "let_parts" S_let_parts, Hd.fvOf "all_cells" "all_cells" S_all_cells, Hd.fvOf "lets" "Rule.lets" S_Rule_lets, Hd.fvOf "__init__" "Rule.__init__" S_Rule__init_, Hd.fvOf "__getitem__" "Rule.__getitem__" S_Rule__getitem_, Hd.fvOf "measure" "Kin.measure" S_Kin_measure, Hd.fvOf "__lt__" "Kin.__lt__" S_Kin__lt_, Hd.fvOf "put" "Rule.put" S_Rule_put, Hd.fvOf "take" "Rule.take" S_Rule_take, Hd.fvOf "reach" "Rule.reach" S_Rule_reach, Hd.fvOf "joined" "joined" S_joined, Hd.fvOf "combined" "combined" S_combined, Hd.fvOf "__sub__" "Rule.__sub__" S_Rule__sub_, Hd.fvOf "__setitem__" "Rule.__setitem__" S_Rule__setitem_, Hd.fvOf "_law_kin" "_law_kin" S_law_kin, Hd.fvOf "_law_rule" "_law_rule" S_law_rule, Hd.fvOf "_law_lets" "_law_lets" S_law_lets, Hd.fvOf "_law_lets_all" "_law_lets_all" S_law_lets_all, Hd.fvOf "none" "Rule.none" S_Rule_none, Hd.fvOf "__ior__" "Rule.__ior__" S_Rule__ior_, Hd.fvOf "union" "union" S_union, Hd.fvOf "full" "Rule.full" S_Rule_full, Hd.fvOf "__iand__" "Rule.__iand__" S_Rule__iand_, Hd.fvOf "cut" "cut" S_cutR, Hd.fvOf "_law_any" "_law_any" S_law_any, Hd.fvOf "_law_all" "_law_all" S_law_all, Hd.fvOf "_law_is_number" "_law_is_number" S_law_is_number, Hd.fvOf "_law_same" "_law_same" S_law_same, Hd.fvOf "__len__" "Rule.__len__" S_Rule__len_, Hd.fvOf "__le__" "Rule.__le__" S_Rule__le_, Hd.fvOf "__lt__" "Rule.__lt__" S_Rule__lt_, Hd.fvOf "__eq__" "Rule.__eq__" S_Rule__eq_, Hd.fvOf "_law_compared" "_law_compared" S_law_compared, Hd.fvOf "_law_is_rule" "_law_is_rule" S_law_is_rule, Hd.fvOf "_law_parts" "_law_parts" S_law_parts, Hd.fvOf "_law_of_none" "_law_of_none" S_law_of_none, Hd.fvOf "law" "law" S_law, Hd.fvOf "__init__" "ForkError.__init__" M_ForkError, Hd.fvOf "__init__" "BadKin.__init__" M_BadKin, Hd.fvOf "__init__" "BadReach.__init__" M_BadReach, Hd.fvOf "__init__" "TooNarrow.__init__" M_TooNarrow, Hd.fvOf "__init__" "BadCell.__init__" M_BadCell, Hd.fvOf "__init__" "BadText.__init__" M_BadText]
def tbs : List He.Tab := []
def nam0 : List PySem.Str := ["_wall", "ForkError", "BadKin", "BadReach", "TooNarrow", "BadCell", "BadText", "DIGITS", "MOST_DIGITS", "read_number", "SIDES", "OPPOSITE", "capped", "fits_side", "Kin", "line_word", "open_kins", "LEAST_REACH", "MOST_REACH", "demand_reach", "all_cells", "number_text", "cell_text", "let_parts", "Rule", "matching", "joined", "combined", "union", "cut"]
def nam1 : List PySem.Str := ["_law_start", "_law_draw", "_law_is_number", "_law_same", "_law_sides", "_law_parts", "_law_capped", "_law_kin", "_law_cells", "_law_wanted", "_law_rule_cells", "_law_rule", "_law_lets", "_law_reach", "_law_near", "_law_lets_all", "_law_is_rule", "_law_compared", "_law_any", "_law_all", "_law_of_none"]
def nams : List PySem.Str := nam0 ++ nam1
abbrev hk : PySem.W.Hook := Hd.hookH 6 fs fns vls tbs
def ob (s : PySem.W.SharedT) : Hd.AH := Hd.obsHG 6 fs fns tbs (HandSHeadRun.getT s)
theorem ob_eq (s : PySem.W.SharedT) : ob s = hk.obs s.abs := Hd.obsHG_eq (HandSHeadRun.getT_eq s)
theorem top_run (w : World) : HandSHeadRun.RunEq (PySem.W.OpenLaw.row PySem.Challenge.rw_promisesowned_k17_rules_by_what_they_let) (PySem.W.view (PySem.W.OpenLaw.row PySem.Challenge.rw_promisesowned_k17_rules_by_what_they_let).prog [58]) hk ob 30000 nams w := by
  refine PySem.W.byRow2 "special-get-raises" (fun w => ?_) (fun w => ?_) w
  · intro os
    kernel_rfl
  · intro os
    kernel_rfl
/- slots of _law_start: 0 script -/
def t_law_start (K : PySem.W.Frag) : TS :=
  (tRet (tLst (tCons (tCB (rListOf K) (tCons (tVar 0) tNil)) (tCons (tC (.int 0)) (tCons (tC (.int 0)) (tCons (tC (.int 0)) (tCons (tC (.int 0)) tNil)))))))
/- slots of _law_draw: 0 state, 1 many, 2 value, 3 mixed -/
def t_law_draw (K : PySem.W.Frag) : TS :=
  (tSeqC (tIfS (tTest (tOp (rEqA K) (tOp (rIx K) (tVar 0) (tC (.int 3))) (tC (.int 0)))) (tSeq (tIfS (tTest (tOp rGeI (tOp (rIx K) (tVar 0) (tC (.int 1))) (tCB (rLenK K) (tCons (tOp (rIx K) (tVar 0) (tC (.int 0))) tNil)))) (tRet (tC (.int 0))) tNext)
  (tSeq (tAsg (tOp (rIx K) (tOp (rIx K) (tVar 0) (tC (.int 0))) (tOp (rIx K) (tVar 0) (tC (.int 1)))) (gSub (tVar 0) (tC (.int 2)) rSetL))
  (tSeq (tAsg (tOp (rAddA K) (tOp (rIx K) (tVar 0) (tC (.int 1))) (tC (.int 1))) (gSub (tVar 0) (tC (.int 1)) rSetL))
  (tSeq (tAsg (tC (.int 10)) (gSub (tVar 0) (tC (.int 3)) rSetL))
  (tSeq (tAsg (tC (.int 0)) (gSub (tVar 0) (tC (.int 4)) rSetL))
  (tIfS (tTest (tOp rGeI (tOp (rIx K) (tVar 0) (tC (.int 2))) (tOp rPowI (tC (.int 10)) (tC (.int 18))))) (tSeq (tAsg (tC (.int 60)) (gSub (tVar 0) (tC (.int 3)) rSetL))
  (tAsg (tC (.int 1)) (gSub (tVar 0) (tC (.int 4)) rSetL))) tNext)))))) tNext)
  (tSeq (tAsg (tOp rSubI (tOp (rIx K) (tVar 0) (tC (.int 3))) (tC (.int 1))) (gSub (tVar 0) (tC (.int 3)) rSetL))
  (tSeq (tIfS (tTest (tOp (rEqA K) (tOp (rIx K) (tVar 0) (tC (.int 4))) (tC (.int 1)))) (tSeq (tAsg (tOp rModI (tCB rInt1 (tCons (tOp (rIx K) (tVar 0) (tC (.int 2))) tNil)) (tVar 1)) (gName 2))
  (tSeq (tAsg (tOp rDivI (tCB rInt1 (tCons (tOp (rIx K) (tVar 0) (tC (.int 2))) tNil)) (tVar 1)) (gSub (tVar 0) (tC (.int 2)) rSetL))
  (tSeqC (tIfS (tTest (tOp (rEqA K) (tOp (rIx K) (tVar 0) (tC (.int 2))) (tC (.int 0)))) (tAsg (tC (.int 0)) (gSub (tVar 0) (tC (.int 3)) rSetL)) tNext)
  (tRet (tVar 2))))) tNext)
  (tSeq (tAsg (tOp rModI (tCB rInt1 (tCons (tOp (rAddA K) (tOp (rAddA K) (tOp rMulA (tOp (rIx K) (tVar 0) (tC (.int 2))) (tC (.int 48271))) (tOp rMulA (tOp (rIx K) (tVar 0) (tC (.int 3))) (tC (.int 69621)))) (tC (.int 12345))) tNil)) (tC (.int 2147483647))) (gName 3))
  (tSeq (tAsg (tOp rModI (tCB rInt1 (tCons (tOp (rAddA K) (tOp (rAddA K) (tOp rMulA (tVar 3) (tC (.int 16807))) (tOp rDivI (tVar 3) (tC (.int 127773)))) (tC (.int 3))) tNil)) (tC (.int 1000003))) (gName 3))
  (tRet (tOp rModI (tCB rInt1 (tCons (tVar 3) tNil)) (tVar 1))))))))
/-! ### the law's own draws -/
/-- the state at st: the script's copy at sc, four numbers -/
def StO (sc : Addr) (a : Nat) (b c d : Int) : HO := .lst [.ref sc, .int (a : Int), .int b, .int c, .int d]
theorem st_ne {H : Hp} {st sc : Addr} {a : Nat} {b c d : Int} {ns : List Int} (h : H st = some (StO sc a b c d)) (g : H sc = some (.lst (ns.map V.int))) : sc ≠ st := by
  refine Ne.symm (ne_of h g fun z => ?_)
  unfold StO at z
  injection z with z
  cases ns with
  | nil => cases z
  | cons n r => injection z with z _; cases z
/-- _law_draw: a number below m; the state stands, all else is as it was -/
def spDraw : Sp := fun vs H Q _ => ∃ (st : Addr) (m : Int) (sc : Addr) (ns : List Int) (a : Nat) (b c d : Int), vs = [.ref st, .int m] ∧ 0 < m ∧ m < 10000000000000 ∧ H st = some (StO sc a b c d) ∧ H sc = some (.lst (ns.map V.int)) ∧
  ∀ (r : Int) (a' : Nat) (b' c' d' : Int) (H' : Hp), 0 ≤ r → r < m → H' st = some (StO sc a' b' c' d') → But [st] H H' → Q (.int r) H'
theorem len_law_draw (K : PySem.W.Frag) {vs : List V} {H : Hp} {Q : VK} {E : XK} (h : spDraw vs H Q E) : vs.length = 2 := by
  obtain ⟨st, m, sc, ns, a, b, c, d, rfl, _⟩ := h
  rfl
theorem rd_law_draw (K : PySem.W.Frag) (vs : List V) (H : Hp) (Q : VK) (E : XK) (h : spDraw vs H Q E) : t_law_draw K { nx := fun _ H' => Q .non H', rt := Q } (start ["state", "many", "value", "mixed"] vs) H := by
  obtain ⟨st, m, sc, ns, a, b, c, d, rfl, m0, m1, hst, hsc, q⟩ := h
  have ne := st_ne hst hsc
  unfold StO at hst
  unfold t_law_draw
  refine rd_cut (fun σ' H' => σ' = [some (.ref st), some (.int m), none, none] ∧ (∃ (a : Nat) (b c d : Int), H' st = some (.lst [.ref sc, .int (a : Int), .int b, .int c, .int d])) ∧ But [st] H H') ?_ ?_
  · repeat kaf_pre
    refine rd_ite (fun hc => ?_) (fun hc => ?_)
    · repeat kaf_pre
      refine rd_ite (fun hl => ?_) (fun hl => ?_)
      · repeat kaf_pre
        exact q 0 a b c d H (by omega) m0 hst (But.refl _ _)
      · rw [List.length_map] at hl
        repeat kaf_pre
        have ha : a < ns.length := by omega
        have hg : (ns.map V.int)[a]? = some (V.int ns[a]) := by rw [List.getElem?_map, List.getElem?_eq_getElem ha]; rfl
        repeat kaf_pre
        refine rd_ite (fun hb => ?_) (fun hb => ?_) <;> repeat kaf_pre
        · exact ⟨rfl, ⟨a + 1, ns[a], 60, 1, upd_same⟩, by repeat (first | exact But.refl _ _ | refine But.set ?_ (by simp))⟩
        · exact ⟨rfl, ⟨a + 1, ns[a], 10, 0, upd_same⟩, by repeat (first | exact But.refl _ _ | refine But.set ?_ (by simp))⟩
    · repeat kaf_pre
      exact ⟨rfl, ⟨a, b, c, d, hst⟩, But.refl _ _⟩
  · rintro σ' H' ⟨rfl, ⟨a, b, c, d, hst'⟩, hB⟩
    repeat kaf_pre
    refine rd_ite (fun hc => ?_) (fun hc => ?_)
    · repeat kaf_pre
      refine rd_cut (fun σ' H1 => σ' = [some (.ref st), some (.int m), some (.int (b % m)), none] ∧ (∃ (a : Nat) (b c d : Int), H1 st = some (.lst [.ref sc, .int (a : Int), .int b, .int c, .int d])) ∧ But [st] H H1) ?_ ?_
      · repeat kaf_pre
        refine rd_ite (fun hz => ?_) (fun hz => ?_) <;> repeat kaf_pre
        · exact ⟨rfl, ⟨a, _, _, _, upd_same⟩, by repeat (first | exact hB | refine But.set ?_ (by simp))⟩
        · exact ⟨rfl, ⟨a, _, _, _, upd_same⟩, by repeat (first | exact hB | refine But.set ?_ (by simp))⟩
      · rintro σ' H1 ⟨rfl, ⟨a, b', c', d', h1⟩, hB1⟩
        repeat kaf_pre
        exact q _ a b' c' d' H1 (Int.emod_nonneg _ (by omega)) (Int.emod_lt_of_pos _ m0) h1 hB1
    · repeat kaf_pre
      exact q _ a _ _ _ _ (Int.emod_nonneg _ (by omega)) (Int.emod_lt_of_pos _ m0) upd_same (But.set hB (by simp))
/-- _law_start -/
def spStart (K : PySem.W.Frag) : Sp := fun vs H Q _ => ∃ (s : Addr) (ns : List Int), vs = [.ref s] ∧ SqL K H s (ns.map V.int) ∧
  ∀ (st sc : Addr) (H' : Hp), H st = none → H sc = none → H' st = some (StO sc 0 0 0 0) → H' sc = some (.lst (ns.map V.int)) → Same H H' → Q (.ref st) H'
theorem len_law_start (K : PySem.W.Frag) {vs : List V} {H : Hp} {Q : VK} {E : XK} (h : spStart K vs H Q E) : vs.length = 1 := by
  obtain ⟨s, ns, rfl, _⟩ := h
  rfl
theorem rd_law_start (K : PySem.W.Frag) (vs : List V) (H : Hp) (Q : VK) (E : XK) (h : spStart K vs H Q E) : t_law_start K { nx := fun _ H' => Q .non H', rt := Q } (start ["script"] vs) H := by
  obtain ⟨s, ns, rfl, hs, q⟩ := h
  unfold t_law_start
  repeat kaf_pre
  intro sc nsc
  repeat kaf_pre
  refine ⟨size_of (by simp), fun st nst => ?_⟩
  have ne : sc ≠ st := fun z => by rw [← z, upd_same] at nst; cases nst
  have f : H st = none := by rw [upd_ne ne.symm] at nst; exact nst
  exact q st sc _ f nsc upd_same (by rw [upd_ne ne]; exact upd_same) (same_mut (same_new nsc) f)
/-! ### many draws -/
theorem st_none {st p : Addr} {H H' : Hp} {o : HO} (B : But [st] H H') (hs : H' st = some o) (f : H' p = none) : H p = none := But.none B (fun x hx => by rw [List.mem_singleton.mp hx, hs]; exact fun z => by cases z) f
theorem al_st {st : Addr} {H H' : Hp} {M : List Addr} {o : HO} (al : Al H M) (B : But [st] H H') (hs : H' st = some o) : Al H' M := al.but B fun x hx => by rw [List.mem_singleton.mp hx, hs]; exact fun z => by cases z
theorem Al.cons {H : Hp} {M : List Addr} {p : Addr} {o : HO} (al : Al H M) (h : H p = some o) : Al H (p :: M) := fun x hx => by
  rcases List.mem_cons.mp hx with e | e
  · rw [e, h]; exact fun z => by cases z
  · exact al x e
theorem Al.nil {H : Hp} : Al H [] := fun x hx => by cases hx
/-- [_law_draw(state, m) for j in range(n)] -/
theorem lc_draws {σ : L2.St} {j : Nat} {te : TE} {H : Hp} {Q : VK} {st sc : Addr} {m : Int} {ns : List Int} {a : Nat} {b c d : Int} {n : Nat} {z : Int} (hz : z = (n : Int)) (hst : H st = some (StO sc a b c d)) (hsc : H sc = some (.lst (ns.map V.int))) (m0 : 0 < m) (m1 : m < 10000000000000) (hn : n ≤ 1000)
    (hte : ∀ (v : Option V) (H : Hp) (R : VK), spDraw [.ref st, .int m] H R E0 → te ((wipe σ [j]).set j v) H R)
    (q : ∀ (Dd : Addr) (acc : List Int) (a : Nat) (b c d : Int) (H' : Hp), H Dd = none → H' Dd = some (.lst (acc.map V.int)) → acc.length = n → (∀ t ∈ acc, 0 ≤ t ∧ t < m) → H' st = some (StO sc a b c d) → But [st] H H' → Q (.ref Dd) H') :
    LcR1 [.int z] (gName j) tYes te [j] σ H Q := by
  have ne := st_ne hst hsc
  refine lcR hz (by omega) fun Dd hD => ⟨fun i H' => ∃ (acc : List Int) (a : Nat) (b c d : Int), H' Dd = some (.lst (acc.map V.int)) ∧ acc.length = i ∧ (∀ t ∈ acc, 0 ≤ t ∧ t < m) ∧ H' st = some (StO sc a b c d) ∧ But [st] H H',
    ⟨[], a, b, c, d, upd_same, rfl, by simp, by rw [upd_ne (ne_of_none hst hD)]; exact hst, (But.refl _ _).new hD⟩, ?_, ?_⟩
  · rintro i H1 hi ⟨acc, a, b, c, d, hd, la, ha, hs, B⟩
    have dst : Dd ≠ st := (ne_of_none hst hD).symm
    refine ⟨wipe1 _ _ _, rd_yes (rd_ite1 (hte _ _ _ ⟨st, m, sc, ns, a, b, c, d, rfl, m0, m1, hs, But.off B _ _ ne hsc, fun r a' b' c' d' H2 r0 r1 hs2 B2 => ?_⟩))⟩
    have hd2 := But.off B2 _ _ dst hd
    refine ⟨acc.map V.int, hd2, size_lt (by rw [List.length_map]; omega), acc ++ [r], a', b', c', d', by rw [List.map_append]; exact upd_same, by rw [List.length_append, List.length_singleton, la], fun t ht => ?_, by rw [upd_ne dst.symm]; exact hs2, (B.trans B2).new hD⟩
    rcases List.mem_append.mp ht with ht | ht
    · exact ha t ht
    · rw [List.mem_singleton.mp ht]; exact ⟨r0, r1⟩
  · rintro H1 ⟨acc, a, b, c, d, hd, la, ha, hs, B⟩
    exact q Dd acc a b c d H1 hD hd la ha hs B
/-! ### promises of the small ones -/
def spIsNum : Sp := fun vs H Q _ => ∃ i : Int, vs = [.int i] ∧ Q (.bl true) H
/- slots of _law_is_number: 0 actual -/
def t_law_is_number (K : PySem.W.Frag) : TS :=
  (tRet (tAndV (tCB (rIsi K) (tCons (tVar 0) (tCons (tC (.ty "int")) tNil))) (tNotV (tCB (rIsi K) (tCons (tVar 0) (tCons (tC (.ty "bool")) tNil))))))
/- slots of _law_same: 0 actual, 1 expected, 2 k -/
def t_law_same (K : PySem.W.Frag) (sp : Sp) : TS :=
  (tSeq (tIfS (tTest (tOp rIsN (tVar 1) (tC .non))) (tRet (tOp rIsN (tVar 0) (tC .non))) tNext)
  (tSeq (tIfS (tTru K (tCB (rIsi K) (tCons (tVar 1) (tCons (tC (.ty "bool")) tNil)))) (tRet (tAndV (tCB (rIsi K) (tCons (tVar 0) (tCons (tC (.ty "bool")) tNil))) (tOp (rEqA K) (tVar 0) (tVar 1)))) tNext)
  (tSeq (tIfS (tTru K (tCB (rIsi K) (tCons (tVar 1) (tCons (tC (.ty "int")) tNil)))) (tRet (tAndV (tCall (spIsNum) [] E0 (tCons (tVar 0) tNil)) (tOp (rEqA K) (tVar 0) (tVar 1)))) tNext)
  (tSeq (tIfS (tTru K (tCB (rIsi K) (tCons (tVar 1) (tCons (tC (.ty "str")) tNil)))) (tRet (tAndV (tCB (rIsi K) (tCons (tVar 0) (tCons (tC (.ty "str")) tNil))) (tOp (rEqA K) (tVar 0) (tVar 1)))) tNext)
  (tSeqC (tIfS (tTru K (tCB (rIsi K) (tCons (tVar 1) (tCons (tC (.ty "list")) tNil)))) (tIfS (tOr (tNot (tTru K (tCB (rIsi K) (tCons (tVar 0) (tCons (tC (.ty "list")) tNil))))) (tTest (tOp (rNeA K) (tCB (rLenK K) (tCons (tVar 0) tNil)) (tCB (rLenK K) (tCons (tVar 1) tNil))))) (tRet (tC (.bl false))) tNext) (tIfS (tOr (tNot (tTru K (tCB (rIsi K) (tCons (tVar 1) (tCons (tC (.ty "tuple")) tNil))))) (tOr (tNot (tTru K (tCB (rIsi K) (tCons (tVar 0) (tCons (tC (.ty "tuple")) tNil))))) (tTest (tOp (rNeA K) (tCB (rLenK K) (tCons (tVar 0) tNil)) (tCB (rLenK K) (tCons (tVar 1) tNil)))))) (tRet (tC (.bl false))) tNext))
  (tSeq (tFor (iRng1 (tCons (tCB (rLenK K) (tCons (tVar 1) tNil)) tNil)) (gName 2) (tIfS (tNot (tTru K (tCall sp [] E0 (tCons (tOp (rIx K) (tVar 0) (tVar 2)) (tCons (tOp (rIx K) (tVar 1) (tVar 2)) tNil))))) (tRet (tC (.bl false))) tNext))
  (tRet (tC (.bl true)))))))))
/-! ### _law_is_number, _law_same (the form with a loop): two values of one data are the same -/
theorem len_law_is_number (K : PySem.W.Frag) {vs : List V} {H : Hp} {Q : VK} {E : XK} (h : spIsNum vs H Q E) : vs.length = 1 := by
  obtain ⟨i, rfl, _⟩ := h
  rfl
theorem rd_law_is_number (K : PySem.W.Frag) (vs : List V) (H : Hp) (Q : VK) (E : XK) (h : spIsNum vs H Q E) : t_law_is_number K { nx := fun _ H' => Q .non H', rt := Q } (start ["actual"] vs) H := by
  obtain ⟨i, rfl, q⟩ := h
  unfold t_law_is_number
  repeat kaf_pre
  exact q
/-- by depth: 0 promises nothing -/
def spSm (K : PySem.W.Frag) : Nat → Sp
  | 0 => fun _ _ _ _ => False
  | d + 1 => fun vs H Q _ => ∃ (x y : V) (e : PyData), vs = [x, y] ∧ Dt [] H d x e ∧ Dt [] H d y e ∧ ∀ H', Same H H' → Q (.bl true) H'
theorem len_law_same (K : PySem.W.Frag) {d : Nat} {vs : List V} {H : Hp} {Q : VK} {E : XK} (h : spSm K d vs H Q E) : vs.length = 2 := by
  cases d with
  | zero => exact h.elim
  | succ d =>
    obtain ⟨x, y, e, rfl, _⟩ := h
    rfl
theorem rd_same_gen (K : PySem.W.Frag) (d : Nat) (sp : Sp) (hsp : ∀ k, d = k + 1 → ∀ (x y : V) (e : PyData) (H : Hp) (Q : VK), Dt [] H k x e → Dt [] H k y e → (∀ H', Same H H' → Q (.bl true) H') → sp [x, y] H Q E0) (x y : V) (e : PyData) (H : Hp) (Q : VK) (hx : Dt [] H d x e) (hy : Dt [] H d y e) (q : ∀ H', Same H H' → Q (.bl true) H') :
    t_law_same K sp { nx := fun _ H' => Q .non H', rt := Q } (start ["actual", "expected", "k"] [x, y]) H := by
  unfold t_law_same
  have q0 := q H (Same.refl H)
  cases hx with
  | non =>
    cases hy
    repeat kaf_pre
    exact q0
  | bl =>
    cases hy
    repeat kaf_pre
    simpa using q0
  | int =>
    cases hy
    repeat kaf_pre
    refine ⟨_, rfl, ?_⟩
    repeat kaf_pre
    simpa using q0
  | str =>
    cases hy
    repeat kaf_pre
    simpa using q0
  | @lst d a xs ds ha _ l z r1 =>
    obtain ⟨b, ys, _, rfl, e, hb, _, l2, _, r2⟩ := hy.list_inv
    cases e
    repeat kaf_pre
    refine rd_go ?_
    repeat kaf_pre
    refine forR (n := ys.length) rfl (by omega) (fun k σ' H' => Same H H' ∧ ∃ v, σ' = [some (.ref a), some (.ref b), v]) ⟨Same.refl H, _, rfl⟩ ?_ ?_
    · rintro k σ' H1 hk ⟨s, v, rfl⟩
      have gx := List.getElem?_eq_getElem (l := xs) (i := k) (by omega)
      have gy := List.getElem?_eq_getElem hk
      have gd : ds[k]? = some (ds[k]'(by omega)) := List.getElem?_eq_getElem _
      have ha1 := s _ _ ha
      have hb1 := s _ _ hb
      repeat kaf_pre
      refine hsp _ rfl _ _ _ _ _ ((r1 k _ _ gx gd).same s) ((r2 k _ _ gy gd).same s) fun H2 s2 => ?_
      repeat kaf_pre
      exact ⟨s.trans s2, _, rfl⟩
    · rintro σ' H1 ⟨s, v, rfl⟩
      repeat kaf_pre
      exact q _ s
  | @tup d a xs ds ha _ l z r1 =>
    obtain ⟨b, ys, _, rfl, e, hb, _, l2, _, r2⟩ := hy.tup_inv
    cases e
    repeat kaf_pre
    refine rd_go ?_
    repeat kaf_pre
    refine forR (n := ys.length) rfl (by omega) (fun k σ' H' => Same H H' ∧ ∃ v, σ' = [some (.ref a), some (.ref b), v]) ⟨Same.refl H, _, rfl⟩ ?_ ?_
    · rintro k σ' H1 hk ⟨s, v, rfl⟩
      have gx := List.getElem?_eq_getElem (l := xs) (i := k) (by omega)
      have gy := List.getElem?_eq_getElem hk
      have gd : ds[k]? = some (ds[k]'(by omega)) := List.getElem?_eq_getElem _
      have ha1 := s _ _ ha
      have hb1 := s _ _ hb
      repeat kaf_pre
      refine hsp _ rfl _ _ _ _ _ ((r1 k _ _ gx gd).same s) ((r2 k _ _ gy gd).same s) fun H2 s2 => ?_
      repeat kaf_pre
      exact ⟨s.trans s2, _, rfl⟩
    · rintro σ' H1 ⟨s, v, rfl⟩
      repeat kaf_pre
      exact q _ s
theorem sm_of {K : PySem.W.Frag} {d : Nat} {x y : V} {e : PyData} {H : Hp} {Q : VK} {E : XK} (hx : Dt [] H d x e) (hy : Dt [] H d y e) (q : ∀ H', Same H H' → Q (.bl true) H') : spSm K (d + 1) [x, y] H Q E := ⟨x, y, e, rfl, hx, hy, q⟩
theorem rd_law_same (K : PySem.W.Frag) (d : Nat) (vs : List V) (H : Hp) (Q : VK) (E : XK) (h : spSm K (d + 1) vs H Q E) : t_law_same K (spSm K d) { nx := fun _ H' => Q .non H', rt := Q } (start ["actual", "expected", "k"] vs) H := by
  obtain ⟨x, y, e, rfl, hx, hy, q⟩ := h
  exact rd_same_gen K d _ (fun k e x y u H Q a b c => by subst e; exact sm_of a b c) x y e H Q hx hy q
structure Cs where
  (ForkError BadKin BadReach TooNarrow BadCell BadText Kin Rule SIDES : Addr)
class Cf (K : PySem.W.Frag) (Z : Cs) : Prop where
  t_SIDES : (∀ H, SqT K H Z.SIDES ((["line", "elder", "younger"] : List Str).map V.str)) ∧ KTup K Z.SIDES
  o_Kin : ObjC K Z.Kin ["up", "down", "side", "far", "rank"]
  c_Kin_MOST : HasCon K Z.Kin "MOST" (.int 999)
  o_Rule : ObjC K Z.Rule ["_reach", "_let", "_rows"]
  ne_Rule : NeC K Z.Rule
  gt_Rule : GtC K Z.Rule
  sf_Rule : PySem.W.selfFirst K Z.Rule = true
  nq_Rule : PySem.W.noSeq K Z.Rule = true
  c_Rule_MOST_REACH : HasCon K Z.Rule "MOST_REACH" (.int 4)
  op_Kin_mod : OpC K Z.Kin "mod"
  kk_Rule_Kin : PySem.W.kitOne K (.ref Z.Rule) (.ref Z.Kin) = some false
  kk_Kin_Rule : PySem.W.kitOne K (.ref Z.Kin) (.ref Z.Rule) = some false
  on_Kin_sub : OpNo K Z.Kin "sub"
  dq_Rule_Kin_sub : Z.Rule ≠ Z.Kin
  xf_BadKin : XfC K Z.BadKin
  f_BadKin_up : PySem.W.findIn K (.ref Z.BadKin) "up" = some none
  f_BadKin_down : PySem.W.findIn K (.ref Z.BadKin) "down" = some none
  f_BadKin_side : PySem.W.findIn K (.ref Z.BadKin) "side" = some none
  f_BadKin_reason : PySem.W.findIn K (.ref Z.BadKin) "reason" = some none
  xf_BadReach : XfC K Z.BadReach
  f_BadReach_number : PySem.W.findIn K (.ref Z.BadReach) "number" = some none
  f_BadReach_reason : PySem.W.findIn K (.ref Z.BadReach) "reason" = some none
  xf_TooNarrow : XfC K Z.TooNarrow
  f_TooNarrow_number : PySem.W.findIn K (.ref Z.TooNarrow) "number" = some none
  f_TooNarrow_reason : PySem.W.findIn K (.ref Z.TooNarrow) "reason" = some none
  xf_BadCell : XfC K Z.BadCell
  f_BadCell_kin : PySem.W.findIn K (.ref Z.BadCell) "kin" = some none
  f_BadCell_reason : PySem.W.findIn K (.ref Z.BadCell) "reason" = some none
  xf_BadText : XfC K Z.BadText
  f_BadText_line : PySem.W.findIn K (.ref Z.BadText) "line" = some none
  f_BadText_reason : PySem.W.findIn K (.ref Z.BadText) "reason" = some none
instance {K : PySem.W.Frag} {Z : Cs} [c : Cf K Z] : KTup K Z.SIDES := c.t_SIDES.2
instance {K : PySem.W.Frag} {Z : Cs} [c : Cf K Z] : HasFld K Z.Kin "up" := ⟨c.o_Kin.cl, c.o_Kin.no _ (by decide)⟩
instance {K : PySem.W.Frag} {Z : Cs} [c : Cf K Z] : HasFld K Z.Kin "down" := ⟨c.o_Kin.cl, c.o_Kin.no _ (by decide)⟩
instance {K : PySem.W.Frag} {Z : Cs} [c : Cf K Z] : HasFld K Z.Kin "side" := ⟨c.o_Kin.cl, c.o_Kin.no _ (by decide)⟩
instance {K : PySem.W.Frag} {Z : Cs} [c : Cf K Z] : HasFld K Z.Kin "far" := ⟨c.o_Kin.cl, c.o_Kin.no _ (by decide)⟩
instance {K : PySem.W.Frag} {Z : Cs} [c : Cf K Z] : HasFld K Z.Kin "rank" := ⟨c.o_Kin.cl, c.o_Kin.no _ (by decide)⟩
instance {K : PySem.W.Frag} {Z : Cs} [c : Cf K Z] : IsIns K Z.Kin := c.o_Kin.ins
instance {K : PySem.W.Frag} {Z : Cs} [c : Cf K Z] : HasCon K Z.Kin "MOST" (.int 999) := c.c_Kin_MOST
instance {K : PySem.W.Frag} {Z : Cs} [c : Cf K Z] : HasFld K Z.Rule "_reach" := ⟨c.o_Rule.cl, c.o_Rule.no _ (by decide)⟩
instance {K : PySem.W.Frag} {Z : Cs} [c : Cf K Z] : HasFld K Z.Rule "_let" := ⟨c.o_Rule.cl, c.o_Rule.no _ (by decide)⟩
instance {K : PySem.W.Frag} {Z : Cs} [c : Cf K Z] : HasFld K Z.Rule "_rows" := ⟨c.o_Rule.cl, c.o_Rule.no _ (by decide)⟩
instance {K : PySem.W.Frag} {Z : Cs} [c : Cf K Z] : IsIns K Z.Rule := c.o_Rule.ins
instance {K : PySem.W.Frag} {Z : Cs} [c : Cf K Z] : HasCon K Z.Rule "MOST_REACH" (.int 4) := c.c_Rule_MOST_REACH
local macro_rules | `(tactic| kaf_pre) => `(tactic| ((with_reducible apply rd_conI); (case h => kcf_m); (case i => exact Cf.c_Kin_MOST); (case l => rfl)))
local macro_rules | `(tactic| kaf_pre) => `(tactic| ((with_reducible apply rd_conI); (case h => kcf_m); (case i => exact Cf.c_Rule_MOST_REACH); (case l => rfl)))
/- slots of fits_side: 0 up, 1 down, 2 side -/
def t_fits_side (K : PySem.W.Frag) : TS :=
  (tSeqC (tIfS (tOr (tTest (tOp (rEqA K) (tVar 0) (tC (.int 0)))) (tTest (tOp (rEqA K) (tVar 1) (tC (.int 0))))) (tRet (tOp (rEqA K) (tVar 2) (tC (.str "line")))) tNext)
  (tRet (tOrV (tOp (rEqA K) (tVar 2) (tC (.str "elder"))) (tOp (rEqA K) (tVar 2) (tC (.str "younger"))))))
/-! ### kins -/
def fitsB (u d : Int) (s : Str) : Bool := if u = 0 ∨ d = 0 then decide (s = "line") else (decide (s = "elder") || decide (s = "younger"))
def kinOk (u d : Int) (s : Str) : Bool := decide (0 ≤ u) && (decide (u ≤ 999) && (decide (0 ≤ d) && (decide (d ≤ 999) && fitsB u d s)))
def rankI (s : Str) : Int := if s = "line" then 0 else if s = "elder" then 1 else 2
def kinF (u d : Int) (s : Str) : List (Str × V) := [("up", .int u), ("down", .int d), ("side", .str s), ("far", .int (u + d)), ("rank", .int (rankI s))]
def KinAt (Z : Cs) (H : Hp) (a : Addr) (u d : Int) (s : Str) : Prop := kinOk u d s = true ∧ ∃ dx, H a = some (.ins Z.Kin dx (kinF u d s))
theorem fits_side_of {u d : Int} {s : Str} (h : fitsB u d s = true) : s = "line" ∨ s = "elder" ∨ s = "younger" := by
  unfold fitsB at h
  split at h
  · exact .inl (by simpa using h)
  · exact .inr (by simpa using h)
def spFits : Sp := fun vs H Q _ => ∃ (u d : Int) (s : Str), vs = [.int u, .int d, .str s] ∧ Q (.bl (fitsB u d s)) H
theorem len_fits_side (K : PySem.W.Frag) {vs : List V} {H : Hp} {Q : VK} {E : XK} (h : spFits vs H Q E) : vs.length = 3 := by
  obtain ⟨u, d, s, rfl, _⟩ := h
  rfl
theorem rd_fits_side (K : PySem.W.Frag) (vs : List V) (H : Hp) (Q : VK) (E : XK) (h : spFits vs H Q E) : t_fits_side K { nx := fun _ H' => Q .non H', rt := Q } (start ["up", "down", "side"] vs) H := by
  obtain ⟨u, d, s, rfl, q⟩ := h
  unfold t_fits_side
  have q1 : (u = 0 ∨ d = 0) → Q (.bl (decide (s = "line"))) H := fun c => by unfold fitsB at q; rw [if_pos c] at q; exact q
  have q2 : ¬ (u = 0 ∨ d = 0) → Q (.bl (decide (s = "elder") || decide (s = "younger"))) H := fun c => by unfold fitsB at q; rw [if_neg c] at q; exact q
  refine rd_cut (fun σ' H' => σ' = [some (.int u), some (.int d), some (.str s)] ∧ H' = H ∧ ¬ (u = 0 ∨ d = 0)) ?_ ?_
  · repeat kaf_pre
    refine rd_ite (fun c => ?_) (fun c => ?_)
    · repeat kaf_pre
      exact q1 (.inl c)
    repeat kaf_pre
    refine rd_ite (fun c2 => ?_) (fun c2 => ?_)
    · repeat kaf_pre
      exact q1 (.inr c2)
    · repeat kaf_pre
      exact ⟨rfl, rfl, fun z => z.elim c c2⟩
  rintro σ' H' ⟨rfl, rfl, c⟩
  have q3 := q2 c
  repeat kaf_pre
  refine rd_ite (fun e => ?_) (fun e => ?_)
  · rw [decide_eq_true e, Bool.true_or] at q3
    repeat kaf_pre
    exact q3
  · rw [decide_eq_false e, Bool.false_or] at q3
    repeat kaf_pre
    exact q3
def spKin (K : PySem.W.Frag) (Z : Cs) : Sp := fun vs H Q E => ∃ (x dx : Addr) (u d : Int) (s : Str), vs = [.ref x, .int u, .int d, .str s] ∧ H x = some (.ins Z.Kin dx []) ∧ (kinOk u d s = true → Q .non (upd H x (.ins Z.Kin dx (kinF u d s)))) ∧
  (kinOk u d s = false → ∀ e, H e = none → E (.ref Z.BadKin) (some e) (upd H e (.xd (ExL.errF ["up", "down", "side"] "bad kin" [.int u, .int d, .str s]))))
theorem len_Kin__init_ (K : PySem.W.Frag) {Z : Cs} {vs : List V} {H : Hp} {Q : VK} {E : XK} (h : spKin K Z vs H Q E) : vs.length = 4 := by
  obtain ⟨x, dx, u, d, s, rfl, _⟩ := h
  rfl
/- slots of Kin.__init__: 0 self, 1 up, 2 down, 3 side -/
def t_Kin__init_ (K : PySem.W.Frag) (Z : Cs) (E : XK) : TS :=
  (tSeqC (tIfS (tOr (tNot (tTest (tChain rLeI rLeI (tC (.int 0)) (tVar 1) (tCon K (tVar 0) "MOST")))) (tOr (tNot (tTest (tChain rLeI rLeI (tC (.int 0)) (tVar 2) (tCon K (tVar 0) "MOST")))) (tNot (tTru K (tCall (spFits) [] E0 (tCons (tVar 1) (tCons (tVar 2) (tCons (tVar 3) tNil)))))))) (tRsK Z.BadKin (ExL.errF ["up", "down", "side"] "bad kin") 3 (fun cls d (_ : L2.St) H => E cls d H) (tCons (tVar 1) (tCons (tVar 2) (tCons (tVar 3) tNil)))) tNext)
  (tSeq (sFld K (tVar 0) (tVar 1) "up")
  (tSeq (sFld K (tVar 0) (tVar 2) "down")
  (tSeq (sFld K (tVar 0) (tVar 3) "side")
  (tSeq (sFld K (tVar 0) (tOp (rAddA K) (tVar 1) (tVar 2)) "far")
  (sFld K (tVar 0) (tBM K "tuple" (rIdxT Z.SIDES ["line", "elder", "younger"]) (tC (.ref Z.SIDES)) (tCons (tVar 3) tNil)) "rank"))))))
theorem upd_upd {H : Hp} {x : Addr} {o o' : HO} : upd (upd H x o) x o' = upd H x o' := by
  funext b
  by_cases e : b = x
  · subst e; rw [upd_same, upd_same]
  · rw [upd_ne e, upd_ne e, upd_ne e]
theorem rank_at {s : Str} (h : s = "line" ∨ s = "elder" ∨ s = "younger") : ∃ j : Nat, (["line", "elder", "younger"] : List Str)[j]? = some s ∧ (∀ m, m < j → (["line", "elder", "younger"] : List Str)[m]? ≠ some s) ∧ (j : Int) = rankI s := by
  rcases h with rfl | rfl | rfl
  · exact ⟨0, rfl, fun m hm => by omega, by decide +kernel⟩
  · refine ⟨1, rfl, fun m hm => ?_, by decide +kernel⟩
    obtain rfl : m = 0 := by omega
    decide +kernel
  · refine ⟨2, rfl, fun m hm => ?_, by decide +kernel⟩
    have : m = 0 ∨ m = 1 := by omega
    rcases this with rfl | rfl <;> decide +kernel
theorem rd_Kin__init_ (K : PySem.W.Frag) (Z : Cs) (cf : Cf K Z) (vs : List V) (H : Hp) (Q : VK) (E : XK) (h : spKin K Z vs H Q E) : t_Kin__init_ K Z E { nx := fun _ H' => Q .non H', rt := Q } (start ["self", "up", "down", "side"] vs) H := by
  obtain ⟨x, dx, u, d, s, rfl, hx, q1, q2⟩ := h
  unfold t_Kin__init_
  refine rd_cut (fun σ' H' => σ' = [some (.ref x), some (.int u), some (.int d), some (.str s)] ∧ H' = H ∧ kinOk u d s = true) ?_ ?_
  · have bad : (¬ (0 ≤ u ∧ u ≤ 999 ∧ 0 ≤ d ∧ d ≤ 999 ∧ fitsB u d s = true)) → kinOk u d s = false := fun z => by
      cases e : kinOk u d s with
      | false => rfl
      | true =>
        refine absurd ?_ z
        unfold kinOk at e
        simpa using e
    rcases Int.lt_or_le u 0 with c0 | c0
    · repeat kaf_pre
      exact ⟨rfl, q2 (bad fun z => by omega)⟩
    rcases Int.lt_or_le 999 u with c1 | c1
    · repeat kaf_pre
      exact ⟨rfl, q2 (bad fun z => by omega)⟩
    rcases Int.lt_or_le d 0 with c2 | c2
    · repeat kaf_pre
      exact ⟨rfl, q2 (bad fun z => by omega)⟩
    rcases Int.lt_or_le 999 d with c3 | c3
    · repeat kaf_pre
      exact ⟨rfl, q2 (bad fun z => by omega)⟩
    repeat kaf_pre
    refine ⟨u, d, s, rfl, ?_⟩
    repeat kaf_pre
    refine rd_niteB (fun c4 => ?_) (fun c4 => ?_)
    · repeat kaf_pre
      exact ⟨rfl, q2 (bad fun z => by rw [z.2.2.2.2] at c4; cases c4)⟩
    · repeat kaf_pre
      exact ⟨rfl, rfl, by unfold kinOk; simp [c0, c1, c2, c3, c4]⟩
  rintro σ' H' ⟨rfl, rfl, ok⟩
  have fs : fitsB u d s = true := by unfold kinOk at ok; simp only [Bool.and_eq_true] at ok; exact ok.2.2.2.2
  obtain ⟨j, j1, j2, j3⟩ := rank_at (fits_side_of fs)
  repeat kaf_pre
  refine ⟨s, j, rfl, rfl, j1, j2, ?_⟩
  repeat kaf_pre
  have q := q1 ok
  rw [upd_upd, upd_upd, upd_upd, upd_upd, j3]
  exact q
theorem kin_side {u d : Int} {s : Str} (h : kinOk u d s = true) : s = "line" ∨ s = "elder" ∨ s = "younger" := by
  unfold kinOk at h
  simp only [Bool.and_eq_true] at h
  exact fits_side_of h.2.2.2.2
theorem side_len {s : Str} (h : s = "line" ∨ s = "elder" ∨ s = "younger") : s.length ≤ 7 := by
  rcases h with rfl | rfl | rfl <;> decide +kernel
/-- a kin is made: x, its dict dx -/
def NewKin (Z : Cs) (H : Hp) (Q : VK) (u d : Int) (s : Str) : Prop := ∀ x dx, H x = none → H dx = none → dx ≠ x → Q (.ref x) (upd (upd H dx (.own x)) x (.ins Z.Kin dx (kinF u d s)))
theorem make_kin {K : PySem.W.Frag} {Z : Cs} {H : Hp} {Q : VK} {E : XK} {u d : Int} {s : Str} (ok : kinOk u d s = true) (q : NewKin Z H Q u d s) :
    ∀ x dx, H x = none → H dx = none → dx ≠ x → spKin K Z (.ref x :: [.int u, .int d, .str s]) (upd (upd H dx (.own x)) x (.ins Z.Kin dx [])) (fun v H2 => v = .non ∧ Q (.ref x) H2) E := fun x dx nx nd ne =>
  ⟨x, dx, u, d, s, rfl, upd_same, fun _ => ⟨rfl, by rw [upd_upd]; exact q x dx nx nd ne⟩, fun z => by rw [ok] at z; cases z⟩
theorem make_kinP {K : PySem.W.Frag} {Z : Cs} {H : Hp} {P : Addr → Hp → Prop} {E : XK} {u d : Int} {s : Str} (ok : kinOk u d s = true) (q : ∀ x dx, H x = none → H dx = none → dx ≠ x → P x (upd (upd H dx (.own x)) x (.ins Z.Kin dx (kinF u d s)))) :
    ∀ x dx, H x = none → H dx = none → dx ≠ x → spKin K Z (.ref x :: [.int u, .int d, .str s]) (upd (upd H dx (.own x)) x (.ins Z.Kin dx [])) (fun v H2 => v = .non ∧ P x H2) E := fun x dx nx nd ne =>
  ⟨x, dx, u, d, s, rfl, upd_same, fun _ => ⟨rfl, by rw [upd_upd]; exact q x dx nx nd ne⟩, fun z => by rw [ok] at z; cases z⟩
/- slots of capped: 0 number, 1 reach -/
def t_capped (K : PySem.W.Frag) : TS :=
  (tSeq (tIfS (tTest (tOp rLtI (tVar 0) (tVar 1))) (tRet (tVar 0)) tNext)
  (tRet (tVar 1)))
/-! ### kins: capped, %, abs, drop, is_self -/
def cap (n r : Int) : Int := if n < r then n else r
def spCapped : Sp := fun vs H Q _ => ∃ (n r : Int), vs = [.int n, .int r] ∧ Q (.int (cap n r)) H
theorem len_capped (K : PySem.W.Frag) {vs : List V} {H : Hp} {Q : VK} {E : XK} (h : spCapped vs H Q E) : vs.length = 2 := by
  obtain ⟨n, r, rfl, _⟩ := h
  rfl
theorem rd_capped (K : PySem.W.Frag) (vs : List V) (H : Hp) (Q : VK) (E : XK) (h : spCapped vs H Q E) : t_capped K { nx := fun _ H' => Q .non H', rt := Q } (start ["number", "reach"] vs) H := by
  obtain ⟨n, r, rfl, q⟩ := h
  unfold t_capped
  unfold cap at q
  repeat kaf_pre
  refine rd_ite (fun c => ?_) (fun c => ?_)
  · rw [if_pos c] at q
    repeat kaf_pre
    exact q
  · rw [if_neg c] at q
    repeat kaf_pre
    exact q
/- slots of Kin.__mod__: 0 self, 1 reach -/
def t_Kin__mod_ (K : PySem.W.Frag) (Z : Cs) (E : XK) : TS :=
  (tSeq (tIfS (tTest (tOp rLtI (tVar 1) (tC (.int 1)))) (tRsK Z.BadReach (ExL.errF ["number"] "bad reach") 1 (fun cls d (_ : L2.St) H => E cls d H) (tCons (tVar 1) tNil)) tNext)
  (tRet (tMakeT Z.Kin (spKin K Z) (WE (fun cls d (_ : L2.St) H => E cls d H)) (tCons (tCall (spCapped) [] E0 (tCons (tFld K (tVar 0) "up") (tCons (tVar 1) tNil))) (tCons (tCall (spCapped) [] E0 (tCons (tFld K (tVar 0) "down") (tCons (tVar 1) tNil))) (tCons (tFld K (tVar 0) "side") tNil))))))
/- slots of Kin.is_self: 0 self -/
def t_Kin_is_self (K : PySem.W.Frag) (Z : Cs) : TS :=
  (tRet (tOp (rEqA K) (tFld K (tVar 0) "far") (tC (.int 0))))
theorem cap_ok {u d r : Int} {s : Str} (h : kinOk u d s = true) (hr : 1 ≤ r) : kinOk (cap u r) (cap d r) s = true := by
  have zu : cap u r = 0 ↔ u = 0 ∨ (r = 0 ∧ ¬ u < r) := by unfold cap; split <;> omega
  unfold kinOk at h ⊢
  simp only [Bool.and_eq_true, decide_eq_true_eq] at h ⊢
  obtain ⟨h1, h2, h3, h4, h5⟩ := h
  refine ⟨by unfold cap; split <;> omega, by unfold cap; split <;> omega, by unfold cap; split <;> omega, by unfold cap; split <;> omega, ?_⟩
  have e : (cap u r = 0 ∨ cap d r = 0) ↔ (u = 0 ∨ d = 0) := by unfold cap; split <;> split <;> omega
  unfold fitsB at h5 ⊢
  by_cases c : u = 0 ∨ d = 0
  · rw [if_pos (e.mpr c)]; rw [if_pos c] at h5; exact h5
  · rw [if_neg (fun z => c (e.mp z))]; rw [if_neg c] at h5; exact h5
def spMod (K : PySem.W.Frag) (Z : Cs) : Sp := fun vs H Q E => ∃ (a : Addr) (u d : Int) (s : Str) (r : Int), vs = [.ref a, .int r] ∧ KinAt Z H a u d s ∧ (1 ≤ r → NewKin Z H Q (cap u r) (cap d r) s) ∧
  (r < 1 → ∀ e, H e = none → E (.ref Z.BadReach) (some e) (upd H e (.xd (ExL.errF ["number"] "bad reach" [.int r]))))
theorem len_Kin__mod_ (K : PySem.W.Frag) {Z : Cs} {vs : List V} {H : Hp} {Q : VK} {E : XK} (h : spMod K Z vs H Q E) : vs.length = 2 := by
  obtain ⟨a, u, d, s, r, rfl, _⟩ := h
  rfl
theorem rd_Kin__mod_ (K : PySem.W.Frag) (Z : Cs) (cf : Cf K Z) (vs : List V) (H : Hp) (Q : VK) (E : XK) (h : spMod K Z vs H Q E) : t_Kin__mod_ K Z E { nx := fun _ H' => Q .non H', rt := Q } (start ["self", "reach"] vs) H := by
  obtain ⟨a, u, d, s, r, rfl, ⟨ok, dx, ha⟩, q1, q2⟩ := h
  unfold t_Kin__mod_
  repeat kaf_pre
  refine rd_ite (fun c => ?_) (fun c => ?_)
  · repeat kaf_pre
    exact ⟨rfl, q2 c⟩
  have r1 : 1 ≤ r := by omega
  repeat kaf_pre
  refine ⟨u, r, rfl, ?_⟩
  repeat kaf_pre
  refine ⟨d, r, rfl, ?_⟩
  repeat kaf_pre
  exact make_kin (cap_ok ok r1) (q1 r1)
def spIsSelf (Z : Cs) : Sp := fun vs H Q _ => ∃ (a : Addr) (u d : Int) (s : Str), vs = [.ref a] ∧ KinAt Z H a u d s ∧ Q (.bl (decide (u + d = 0))) H
theorem len_Kin_is_self (K : PySem.W.Frag) {Z : Cs} {vs : List V} {H : Hp} {Q : VK} {E : XK} (h : spIsSelf Z vs H Q E) : vs.length = 1 := by
  obtain ⟨a, u, d, s, rfl, _⟩ := h
  rfl
theorem rd_Kin_is_self (K : PySem.W.Frag) (Z : Cs) (cf : Cf K Z) (vs : List V) (H : Hp) (Q : VK) (E : XK) (h : spIsSelf Z vs H Q E) : t_Kin_is_self K Z { nx := fun _ H' => Q .non H', rt := Q } (start ["self"] vs) H := by
  obtain ⟨a, u, d, s, rfl, ⟨ok, dx, ha⟩, q⟩ := h
  unfold t_Kin_is_self
  repeat kaf_pre
  exact q
/- slots of _law_sides: 0 up, 1 down -/
def t_law_sides (K : PySem.W.Frag) : TS :=
  (tSeqC (tIfS (tOr (tTest (tOp (rEqA K) (tVar 0) (tC (.int 0)))) (tTest (tOp (rEqA K) (tVar 1) (tC (.int 0))))) (tRet (tLst (tCons (tC (.str "line")) tNil))) tNext)
  (tRet (tLst (tCons (tC (.str "elder")) (tCons (tC (.str "younger")) tNil)))))
/-! ### the law's own look at kins -/
def sidesL (u d : Int) : List Str := if u = 0 ∨ d = 0 then ["line"] else ["elder", "younger"]
theorem sides_ok {u d : Int} {s : Str} (h0 : 0 ≤ u ∧ u ≤ 999) (h1 : 0 ≤ d ∧ d ≤ 999) (h : s ∈ sidesL u d) : kinOk u d s = true := by
  have f : fitsB u d s = true := by
    unfold sidesL at h
    unfold fitsB
    split at h
    · rename_i c
      rw [if_pos c]
      simpa using h
    · rename_i c
      rw [if_neg c]
      simpa using h
  unfold kinOk
  rw [f]
  simp [h0.1, h0.2, h1.1, h1.2]
def spSides : Sp := fun vs H Q _ => ∃ (u d : Int), vs = [.int u, .int d] ∧ ∀ p, H p = none → Q (.ref p) (upd H p (.lst ((sidesL u d).map V.str)))
theorem len_law_sides (K : PySem.W.Frag) {vs : List V} {H : Hp} {Q : VK} {E : XK} (h : spSides vs H Q E) : vs.length = 2 := by
  obtain ⟨u, d, rfl, _⟩ := h
  rfl
theorem rd_law_sides (K : PySem.W.Frag) (vs : List V) (H : Hp) (Q : VK) (E : XK) (h : spSides vs H Q E) : t_law_sides K { nx := fun _ H' => Q .non H', rt := Q } (start ["up", "down"] vs) H := by
  obtain ⟨u, d, rfl, q⟩ := h
  unfold t_law_sides
  unfold sidesL at q
  refine rd_cut (fun σ' H' => σ' = [some (.int u), some (.int d)] ∧ H' = H ∧ ¬ (u = 0 ∨ d = 0)) ?_ ?_
  · repeat kaf_pre
    refine rd_ite (fun c => ?_) (fun c => ?_)
    · repeat kaf_pre
      rw [if_pos (.inl c)] at q
      exact ⟨size_of (by simp), q⟩
    repeat kaf_pre
    refine rd_ite (fun c2 => ?_) (fun c2 => ?_)
    · repeat kaf_pre
      rw [if_pos (.inr c2)] at q
      exact ⟨size_of (by simp), q⟩
    · repeat kaf_pre
      exact ⟨rfl, rfl, fun z => z.elim c c2⟩
  rintro σ' H' ⟨rfl, rfl, c⟩
  rw [if_neg c] at q
  repeat kaf_pre
  exact ⟨size_of (by simp), q⟩
/- slots of demand_reach: 0 reach -/
def t_demand_reach (K : PySem.W.Frag) (Z : Cs) (E : XK) : TS :=
  (tIfS (tNot (tTest (tChain rLeI rLeI (tC (.int 1)) (tVar 0) (tC (.int 4))))) (tRsK Z.BadReach (ExL.errF ["number"] "bad reach") 1 (fun cls d (_ : L2.St) H => E cls d H) (tCons (tVar 0) tNil)) tNext)
theorem ok_parts {u d : Int} {s : Str} (h : kinOk u d s = true) : 0 ≤ u ∧ u ≤ 999 ∧ 0 ≤ d ∧ d ≤ 999 ∧ fitsB u d s = true := by
  unfold kinOk at h
  simpa using h
/-! ### the cells of a reach -/
theorem sidesC_sides (u d : Int) : sidesC u d = sidesL u d := rfl
abbrev badReachF (i : Int) : List (Str × V) := ExL.errF ["number"] "bad reach" [.int i]
def ErrTo (H : Hp) (E : XK) (C : Addr) (fs : List (Str × V)) : Prop := ∀ e, H e = none → E (.ref C) (some e) (upd H e (.xd fs))
def spDemR (Z : Cs) : Sp := fun vs H Q E => ∃ i : Int, vs = [.int i] ∧ (1 ≤ i → i ≤ 4 → Q .non H) ∧ (¬ (1 ≤ i ∧ i ≤ 4) → ErrTo H E Z.BadReach (badReachF i))
theorem len_demand_reach (K : PySem.W.Frag) {Z : Cs} {vs : List V} {H : Hp} {Q : VK} {E : XK} (h : spDemR Z vs H Q E) : vs.length = 1 := by
  obtain ⟨i, rfl, _⟩ := h
  rfl
theorem rd_demand_reach (K : PySem.W.Frag) (Z : Cs) (cf : Cf K Z) (vs : List V) (H : Hp) (Q : VK) (E : XK) (h : spDemR Z vs H Q E) : t_demand_reach K Z E { nx := fun _ H' => Q .non H', rt := Q } (start ["reach"] vs) H := by
  obtain ⟨i, rfl, q1, q2⟩ := h
  unfold t_demand_reach
  rcases Int.lt_or_le i 1 with c | c
  · repeat kaf_pre
    exact ⟨rfl, q2 (by omega)⟩
  · rcases Int.lt_or_le 4 i with c2 | c2
    · repeat kaf_pre
      exact ⟨rfl, q2 (by omega)⟩
    · repeat kaf_pre
      exact q1 c c2
/-- kins stand for these cells -/
def KinsAt (Z : Cs) (H : Hp) (ks : List V) (cs : List Cell) : Prop := ks.length = cs.length ∧ ∀ (i : Nat) v c, ks[i]? = some v → cs[i]? = some c → ∃ k, v = .ref k ∧ KinAt Z H k c.1 c.2.1 c.2.2
theorem KinAt.keep {Z : Cs} {H H' : Hp} {l : List Addr} {a : Addr} {u d : Int} {s : Str} (h : KinAt Z H a u d s) (b : But l H H') (hl : Lsts H l) : KinAt Z H' a u d s := ⟨h.1, let ⟨dx, x⟩ := h.2; ⟨dx, keepI b hl x⟩⟩
theorem KinAt.same {Z : Cs} {H H' : Hp} {a : Addr} {u d : Int} {s : Str} (h : KinAt Z H a u d s) (e : Same H H') : KinAt Z H' a u d s := ⟨h.1, let ⟨dx, x⟩ := h.2; ⟨dx, e _ _ x⟩⟩
theorem KinsAt.keep {Z : Cs} {H H' : Hp} {l : List Addr} {ts : List V} {cs : List Cell} (h : KinsAt Z H ts cs) (b : But l H H') (hl : Lsts H l) : KinsAt Z H' ts cs := ⟨h.1, fun i v c e1 e2 => by
  obtain ⟨t, e, ht⟩ := h.2 i v c e1 e2
  exact ⟨t, e, ht.keep b hl⟩⟩
theorem KinsAt.same {Z : Cs} {H H' : Hp} {ts : List V} {cs : List Cell} (h : KinsAt Z H ts cs) (s : Same H H') : KinsAt Z H' ts cs := h.keep (But.of s) Lsts.nil
theorem KinsAt.grow {Z : Cs} {H H1 : Hp} {l x dx : Addr} {ts : List V} {cs : List Cell} {u d : Int} {s : Str} (h : KinsAt Z H1 ts cs) (hl : H1 l = some (.lst ts)) (nx : H1 x = none) (ndx : H1 dx = none) (nex : dx ≠ x) (ok : kinOk u d s = true) :
    KinsAt Z (upd (upd (upd H1 dx (.own x)) x (.ins Z.Kin dx (kinF u d s))) l (.lst (ts ++ [.ref x]))) (ts ++ [.ref x]) (cs ++ [(u, d, s)]) ∧ (Same H H1 → H l = none → Same H (upd (upd (upd H1 dx (.own x)) x (.ins Z.Kin dx (kinF u d s))) l (.lst (ts ++ [.ref x])))) := by
  have B0 : But [l] H1 (upd (upd H1 dx (.own x)) x (.ins Z.Kin dx (kinF u d s))) := ((But.refl _ _).new ndx).new nx
  have B : But [l] H1 (upd (upd (upd H1 dx (.own x)) x (.ins Z.Kin dx (kinF u d s))) l (.lst (ts ++ [.ref x]))) := B0.set (.head _)
  refine ⟨⟨by rw [List.length_append, List.length_append, h.1]; rfl, rows_snoc h.1 (h.keep B (.cons hl .nil)).2 ⟨x, rfl, ok, dx, ?_⟩⟩, fun s h => same_mut (same_mut (same_mut s (s.free ndx)) (s.free nx)) h⟩
  rw [upd_ne (ne_of_none hl nx).symm]
  exact upd_same
def spAllCells (Z : Cs) : Sp := fun vs H Q E => ∃ i : Int, vs = [.int i] ∧ (∀ r : Nat, i = r → 1 ≤ r → r ≤ 4 → ∀ l ks H', H l = none → H' l = some (.lst ks) → KinsAt Z H' ks (cellsL r) → Same H H' → Q (.ref l) H') ∧ (¬ (1 ≤ i ∧ i ≤ 4) → ErrTo H E Z.BadReach (badReachF i))
theorem len_all_cells (K : PySem.W.Frag) {Z : Cs} {vs : List V} {H : Hp} {Q : VK} {E : XK} (h : spAllCells Z vs H Q E) : vs.length = 1 := by
  obtain ⟨i, rfl, _⟩ := h
  rfl
/- slots of all_cells: 0 reach, 1 cells, 2 far, 3 up, 4 down -/
def t_all_cells (K : PySem.W.Frag) (Z : Cs) (E : XK) : TS :=
  (tSeq (tDrop (tCallS (spDemR Z) (WE (fun cls d (_ : L2.St) H => E cls d H)) (tCons (tVar 0) tNil)))
  (tSeq (tAsg (tLst tNil) (gName 1))
  (tSeq (tFor (iRng2 (tCons (tC (.int 1)) (tCons (tOp (rAddA K) (tOp rMulA (tC (.int 2)) (tVar 0)) (tC (.int 1))) tNil))) (gName 2) (tFor (iRng1 (tCons (tOp (rAddA K) (tVar 0) (tC (.int 1))) tNil)) (gName 3) (tSeq (tAsg (tOp rSubI (tVar 2) (tVar 3)) (gName 4))
  (tSeqC (tIfS (tOr (tTest (tOp rLtI (tVar 4) (tC (.int 0)))) (tTest (tOp rGtI (tVar 4) (tVar 0)))) tCont tNext)
  (tIfS (tOr (tTest (tOp (rEqA K) (tVar 3) (tC (.int 0)))) (tTest (tOp (rEqA K) (tVar 4) (tC (.int 0))))) (tDrop (tBM K "list" rAppend (tVar 1) (tCons (tMakeT Z.Kin (spKin K Z) (WE (fun cls d (_ : L2.St) H => E cls d H)) (tCons (tVar 3) (tCons (tVar 4) (tCons (tC (.str "line")) tNil)))) tNil))) (tSeq (tDrop (tBM K "list" rAppend (tVar 1) (tCons (tMakeT Z.Kin (spKin K Z) (WE (fun cls d (_ : L2.St) H => E cls d H)) (tCons (tVar 3) (tCons (tVar 4) (tCons (tC (.str "elder")) tNil)))) tNil)))
  (tDrop (tBM K "list" rAppend (tVar 1) (tCons (tMakeT Z.Kin (spKin K Z) (WE (fun cls d (_ : L2.St) H => E cls d H)) (tCons (tVar 3) (tCons (tVar 4) (tCons (tC (.str "younger")) tNil)))) tNil)))))))))
  (tRet (tVar 1)))))
theorem cells_cap {r i j : Nat} (hr : r ≤ 4) (hi : i ≤ 8) (hj : j ≤ 5) : (cellsTo r i ++ rowTo r (1 + (i : Int)) j).length ≤ 200 := by
  rw [List.length_append]
  have h1 := cellsTo_len r i
  have h2 := rowTo_len r (1 + (i : Int)) j
  have h3 : i * (2 * (r + 1)) ≤ 8 * 10 := Nat.mul_le_mul hi (by omega)
  omega
theorem rd_all_cells (K : PySem.W.Frag) (Z : Cs) (cf : Cf K Z) (vs : List V) (H : Hp) (Q : VK) (E : XK) (h : spAllCells Z vs H Q E) : t_all_cells K Z E { nx := fun _ H' => Q .non H', rt := Q } (start ["reach", "cells", "far", "up", "down"] vs) H := by
  obtain ⟨i0, rfl, q1, q2⟩ := h
  unfold t_all_cells
  repeat kaf_pre
  refine ⟨i0, rfl, fun c1 c2 => ?_, q2⟩
  obtain ⟨r, rfl⟩ : ∃ r : Nat, i0 = r := ⟨i0.toNat, by omega⟩
  repeat kaf_pre
  refine ⟨size_of (by simp), fun l nl => ?_⟩
  repeat kaf_pre
  refine forR2 (n := 2 * r) (by omega) (by omega) (by omega) (by omega) (fun i σ' H' => ∃ (v2 v3 v4 : Option V) (ks : List V), σ' = [some (.int (r : Int)), some (.ref l), v2, v3, v4] ∧ H' l = some (.lst ks) ∧ KinsAt Z H' ks (cellsTo r i) ∧ Same H H')
    ⟨_, _, _, [], rfl, upd_same, ⟨rfl, fun i v c e => by simp at e⟩, same_new nl⟩ ?_ ?_
  · rintro i σ' H1 hi ⟨v2, v3, v4, ks, rfl, hl, hk, s1⟩
    repeat kaf_pre
    refine forR (n := r + 1) rfl (by omega) (fun j σ' H' => ∃ (v3 v4 : Option V) (ks : List V), σ' = [some (.int (r : Int)), some (.ref l), some (.int (1 + (i : Int))), v3, v4] ∧ H' l = some (.lst ks) ∧ KinsAt Z H' ks (cellsTo r i ++ rowTo r (1 + (i : Int)) j) ∧ Same H H')
      ⟨_, _, ks, rfl, hl, by simpa [rowTo] using hk, s1⟩ ?_ ?_
    · rintro j σ' H2 hj ⟨v3, v4, ks, rfl, hl, hk, s2⟩
      have cap := cells_cap (r := r) (i := i) (j := j) (by omega) (by omega) (by omega)
      have lks : ks.length ≤ 200 := by rw [hk.1]; exact cap
      have nx : ∀ {H' : Hp} {ks' : List V}, H' l = some (.lst ks') → KinsAt Z H' ks' (cellsTo r i ++ rowTo r (1 + (i : Int)) j ++ cellsAt r (1 + (i : Int)) j) → Same H H' → ∃ (v3 v4 : Option V) (ks : List V), [some (.int (r : Int)), some (.ref l), some (.int (1 + (i : Int))), some (.int (j : Int)), some (.int (1 + (i : Int) - j))] = [some (.int (r : Int)), some (.ref l), some (.int (1 + (i : Int))), v3, v4] ∧ H' l = some (.lst ks) ∧ KinsAt Z H' ks (cellsTo r i ++ rowTo r (1 + (i : Int)) (j + 1)) ∧ Same H H' := fun h1 h2 h3 =>
        ⟨_, _, _, rfl, h1, by rw [rowTo_succ, ← List.append_assoc]; exact h2, h3⟩
      repeat kaf_pre
      refine rd_cut (fun σ' H' => σ' = [some (.int (r : Int)), some (.ref l), some (.int (1 + (i : Int))), some (.int (j : Int)), some (.int (1 + (i : Int) - j))] ∧ H' = H2 ∧ 0 ≤ 1 + (i : Int) - j ∧ 1 + (i : Int) - j ≤ r) ?_ ?_
      · rcases Int.lt_or_le (1 + (i : Int) - j) 0 with c | c
        · repeat kaf_pre
          refine nx hl ?_ s2
          unfold cellsAt
          rw [if_neg (by omega), List.append_nil]
          exact hk
        rcases Int.lt_or_le (r : Int) (1 + (i : Int) - j) with c3 | c3
        · repeat kaf_pre
          refine nx hl ?_ s2
          unfold cellsAt
          rw [if_neg (by omega), List.append_nil]
          exact hk
        repeat kaf_pre
        exact ⟨rfl, rfl, c, c3⟩
      rintro σ' H' ⟨rfl, rfl, d0, d1⟩
      have ca : cellsAt r (1 + (i : Int)) j = (sidesC j (1 + (i : Int) - j)).map (fun s => ((j : Int), 1 + (i : Int) - j, s)) := by unfold cellsAt; rw [if_pos ⟨d0, d1⟩]
      generalize hdn : 1 + (i : Int) - (j : Int) = dn at *
      have okS : ∀ s ∈ sidesC j dn, kinOk (j : Int) dn s = true := fun s hs => sides_ok (by omega) (by omega) hs
      have one : ((j : Int) = 0 ∨ dn = 0) → sidesC j dn = (["line"] : List Str) := fun z => by unfold sidesC; rw [if_pos z]
      have two : ¬ ((j : Int) = 0 ∨ dn = 0) → sidesC j dn = (["elder", "younger"] : List Str) := fun z => by unfold sidesC; rw [if_neg z]
      by_cases z : (j : Int) = 0 ∨ dn = 0
      · have okl := okS "line" (by rw [one z]; exact .head _)
        by_cases z1 : (j : Int) = 0
        · repeat kaf_pre
          refine make_kinP okl fun x dx n1 n2 n3 => ?_
          repeat kaf_pre
          refine rd_append (by kcf_m) (size_lt (by omega)) ?_
          repeat kaf_pre
          obtain ⟨g1, g2⟩ := hk.grow (H := H) hl n1 n2 n3 okl
          exact nx upd_same (by rw [ca, one z]; exact g1) (g2 s2 nl)
        · have z2 : dn = 0 := z.resolve_left z1
          repeat kaf_pre
          refine make_kinP okl fun x dx n1 n2 n3 => ?_
          repeat kaf_pre
          refine rd_append (by kcf_m) (size_lt (by omega)) ?_
          repeat kaf_pre
          obtain ⟨g1, g2⟩ := hk.grow (H := H) hl n1 n2 n3 okl
          exact nx upd_same (by rw [ca, one z]; exact g1) (g2 s2 nl)
      · have z1 : ¬ (j : Int) = 0 := fun q => z (.inl q)
        have z2 : ¬ dn = 0 := fun q => z (.inr q)
        have oke := okS "elder" (by rw [two z]; exact .head _)
        have oky := okS "younger" (by rw [two z]; exact .tail _ (.head _))
        repeat kaf_pre
        refine make_kinP oke fun x dx n1 n2 n3 => ?_
        obtain ⟨g1, g2⟩ := hk.grow (H := H) hl n1 n2 n3 oke
        repeat kaf_pre
        refine rd_append (by kcf_m) (size_lt (by omega)) ?_
        repeat kaf_pre
        refine make_kinP oky fun y dy m1 m2 m3 => ?_
        obtain ⟨g3, g4⟩ := g1.grow (H := H) upd_same m1 m2 m3 oky
        repeat kaf_pre
        refine rd_append (by kcf_m) (size_lt (by simp; omega)) ?_
        repeat kaf_pre
        refine nx upd_same ?_ (g4 (g2 s2 nl) nl)
        rw [ca, two z]
        rw [show ∀ (L : List Cell), L ++ ((["elder", "younger"] : List Str).map fun s => (((j : Int), dn, s) : Cell)) = L ++ [(((j : Int), dn, ("elder" : Str)) : Cell)] ++ [(((j : Int), dn, ("younger" : Str)) : Cell)] from fun L => by simp]
        exact g3
    · rintro σ' H2 ⟨v3, v4, ks, rfl, hl, hk, s2⟩
      exact ⟨_, _, _, ks, rfl, hl, by rw [cellsTo_succ]; exact hk, s2⟩
  · rintro σ' H1 ⟨v2, v3, v4, ks, rfl, hl, hk, s1⟩
    repeat kaf_pre
    exact q1 r rfl (by omega) (by omega) l ks H1 nl hl hk s1
/- slots of Kin.measure: 0 self -/
def t_Kin_measure (K : PySem.W.Frag) (Z : Cs) : TS :=
  (tRet (tTup (tCons (tFld K (tVar 0) "far") (tCons (tFld K (tVar 0) "up") (tCons (tFld K (tVar 0) "rank") tNil)))))
/-! ### kins compared by < -/
def spMeasure (Z : Cs) : Sp := fun vs H Q _ => ∃ (a : Addr) (u d : Int) (s : Str), vs = [.ref a] ∧ KinAt Z H a u d s ∧ ∀ r, H r = none → Q (.ref r) (upd H r (.tup [.int (u + d), .int u, .int (rankI s)]))
theorem len_Kin_measure (K : PySem.W.Frag) {Z : Cs} {vs : List V} {H : Hp} {Q : VK} {E : XK} (h : spMeasure Z vs H Q E) : vs.length = 1 := by
  obtain ⟨a, u, d, s, rfl, _⟩ := h
  rfl
theorem rd_Kin_measure (K : PySem.W.Frag) (Z : Cs) (cf : Cf K Z) (vs : List V) (H : Hp) (Q : VK) (E : XK) (h : spMeasure Z vs H Q E) : t_Kin_measure K Z { nx := fun _ H' => Q .non H', rt := Q } (start ["self"] vs) H := by
  obtain ⟨a, u, d, s, rfl, ⟨ok, dx, ha⟩, q⟩ := h
  unfold t_Kin_measure
  repeat kaf_pre
  exact ⟨size_of (by simp), q⟩
/- slots of Kin.__lt__: 0 self, 1 other -/
def t_Kin__lt_ (K : PySem.W.Frag) (Z : Cs) : TS :=
  (tSeq (tIfS (tNot (tTru K (tCB (rIsi K) (tCons (tVar 1) (tCons (tC (.ref Z.Kin)) tNil))))) (tRet tNever) tNext)
  (tRet (tOp (rLt3 K) (tMethT Z.Kin "measure" (spMeasure Z) (fun _ => E0) (tVar 0) tNil) (tMethT Z.Kin "measure" (spMeasure Z) (fun _ => E0) (tVar 1) tNil))))
/-! ### kins compared -/
def spKinLt (Z : Cs) : Sp := fun vs H Q _ => ∃ (a b : Addr) (u d : Int) (s : Str) (u' d' : Int) (s' : Str), vs = [.ref a, .ref b] ∧ KinAt Z H a u d s ∧ KinAt Z H b u' d' s' ∧ ∀ H', Same H H' → Q (.bl (cellLt (u, d, s) (u', d', s'))) H'
theorem len_Kin__lt_ (K : PySem.W.Frag) {Z : Cs} {vs : List V} {H : Hp} {Q : VK} {E : XK} (h : spKinLt Z vs H Q E) : vs.length = 2 := by
  obtain ⟨a, b, u, d, s, u', d', s', rfl, _⟩ := h
  rfl
theorem rd_Kin__lt_ (K : PySem.W.Frag) (Z : Cs) (cf : Cf K Z) (vs : List V) (H : Hp) (Q : VK) (E : XK) (h : spKinLt Z vs H Q E) : t_Kin__lt_ K Z { nx := fun _ H' => Q .non H', rt := Q } (start ["self", "other"] vs) H := by
  obtain ⟨a, b, u, d, s, u', d', s', rfl, ka, kb, q⟩ := h
  obtain ⟨dx, ha⟩ := ka.2
  obtain ⟨dy, hb⟩ := kb.2
  unfold t_Kin__lt_
  repeat kaf_pre
  refine ⟨a, u, d, s, rfl, ka, fun r nr => ?_⟩
  have s1 := same_new (o := HO.tup [.int (u + d), .int u, .int (rankI s)]) nr
  repeat kaf_pre
  refine ⟨b, u', d', s', rfl, kb.same s1, fun r2 nr2 => ?_⟩
  have s2 := same_new (o := HO.tup [.int (u' + d'), .int u', .int (rankI s')]) nr2
  refine rd_lt3 (SqT.of (s2 _ _ upd_same)) (SqT.of upd_same) ?_
  exact q _ (s1.trans s2)
/- slots of let_parts: 0 reach, 1 kins, 2 let, 3 kin, 4 cell -/
def t_let_parts (K : PySem.W.Frag) (Z : Cs) (E : XK) : TS :=
  (tSeq (tAsg tDNewT (gName 2))
  (tSeq (tFor (iAny K (tVar 1)) (gName 3) (tSeq (tIfS (tTru K (tProp Z.Kin (spIsSelf Z) [] E0 (tVar 3))) (tRsK Z.BadCell (ExL.errF ["kin"] "bad cell") 1 (fun cls d (_ : L2.St) H => E cls d H) (tCons (tVar 3) tNil)) tNext)
  (tSeq (tAsg (tOpS (rOpI Z.Kin (spMod K Z) (WE (fun cls d (_ : L2.St) H => E cls d H))) (tVar 3) (tVar 0)) (gName 4))
  (sDPut (tVar 2) (tTup (tCons (tFld K (tVar 4) "up") (tCons (tFld K (tVar 4) "down") (tCons (tFld K (tVar 4) "side") tNil)))) (tC (.bl true))))))
  (tRet (tVar 2))))
/-! ### rules -/
theorem ne_rk {K : PySem.W.Frag} {Z : Cs} (cf : Cf K Z) : Z.Rule ≠ Z.Kin := fun e => by
  have h := cf.kk_Rule_Kin
  rw [e] at h
  unfold PySem.W.kitOne at h
  rw [if_pos (by simp)] at h
  cases h
theorem kinC_of {u d : Int} {s : Str} (h : kinOk u d s = true) : KinC (u, d, s) := by
  unfold kinOk at h
  simp only [Bool.and_eq_true, decide_eq_true_eq] at h
  obtain ⟨h1, h2, h3, h4, h5⟩ := h
  unfold fitsB at h5
  refine ⟨h1, h3, fun z => ?_, fun z => ?_⟩
  · rw [if_pos z] at h5; simpa using h5
  · rw [if_neg z] at h5; simpa using h5
theorem kin_ok {c : Cell} (k : KinC c) (hu : c.1 ≤ 999) (hd : c.2.1 ≤ 999) : kinOk c.1 c.2.1 c.2.2 = true := by
  obtain ⟨u, d, s⟩ := c
  obtain ⟨k1, k2, k3, k4⟩ := k
  simp only at k1 k2 k3 k4 hu hd
  unfold kinOk fitsB
  by_cases z : u = 0 ∨ d = 0
  · rw [if_pos z, k3 z]; simp [k1, k2, hu, hd]
  · rw [if_neg z]
    rcases k4 z with rfl | rfl <;> simp [k1, k2, hu, hd]
abbrev badCellF (k : Addr) : List (Str × V) := ExL.errF ["kin"] "bad cell" [.ref k]
def ErrS (H : Hp) (E : XK) (C : Addr) (fs : List (Str × V)) : Prop := ∀ H1 e, Same H H1 → H1 e = none → E (.ref C) (some e) (upd H1 e (.xd fs))
theorem ErrS.of_to {H : Hp} {E : XK} {C : Addr} {fs : List (Str × V)} (h : ErrS H E C fs) : ErrTo H E C fs := fun e n => h H e (Same.refl _) n
theorem ErrS.same {H H' : Hp} {E : XK} {C : Addr} {fs : List (Str × V)} (h : ErrS H E C fs) (s : Same H H') : ErrS H' E C fs := fun H1 e s1 n => h H1 e (s.trans s1) n
/-- what changes: rules, their dicts, lists -/
def Mut (Z : Cs) (H : Hp) (M : List Addr) : Prop := ∀ x ∈ M, (∃ xs, H x = some (.lst xs)) ∨ (∃ kvs, H x = some (.dT kvs)) ∨ ∃ dx fs, H x = some (.ins Z.Rule dx fs)
theorem Mut.nil {Z : Cs} {H : Hp} : Mut Z H [] := fun _ m => by cases m
theorem Mut.kin {K : PySem.W.Frag} {Z : Cs} {H H' : Hp} {M : List Addr} {k : Addr} {u d : Int} {s : Str} (o : Mut Z H M) (cf : Cf K Z) (h : KinAt Z H k u d s) (b : But M H H') : KinAt Z H' k u d s := by
  obtain ⟨ok, dx, hk⟩ := h
  refine ⟨ok, dx, b k _ (fun m => ?_) hk⟩
  rcases o k m with ⟨xs, e⟩ | ⟨kvs, e⟩ | ⟨dy, fs, e⟩ <;> rw [hk] at e <;> injection e with e
  · cases e
  · cases e
  · injection e with e1; exact ne_rk cf e1.symm
theorem Mut.kins {K : PySem.W.Frag} {Z : Cs} {H H' : Hp} {M : List Addr} {ks : List V} {cs : List Cell} (o : Mut Z H M) (cf : Cf K Z) (h : KinsAt Z H ks cs) (b : But M H H') : KinsAt Z H' ks cs := ⟨h.1, fun i v c e1 e2 => by
  obtain ⟨k, e, hk⟩ := h.2 i v c e1 e2
  exact ⟨k, e, o.kin cf hk b⟩⟩
theorem Mut.tup {Z : Cs} {H H' : Hp} {M : List Addr} {t : Addr} {xs : List V} (o : Mut Z H M) (h : H t = some (.tup xs)) (b : But M H H') : H' t = some (.tup xs) := by
  refine b t _ (fun m => ?_) h
  rcases o t m with ⟨xs, e⟩ | ⟨kvs, e⟩ | ⟨dy, fs, e⟩ <;> rw [h] at e <;> injection e with e <;> cases e
theorem Mut.tups {Z : Cs} {H H' : Hp} {M : List Addr} {ts : List V} {cs : List Cell} (o : Mut Z H M) (h : TupsAt H ts cs) (b : But M H H') : TupsAt H' ts cs := ⟨h.1, fun i v c e1 e2 => by
  obtain ⟨k, e, hk⟩ := h.2 i v c e1 e2
  exact ⟨k, e, o.tup hk b⟩⟩
abbrev ruleF (r : Nat) (d l : Addr) : List (Str × V) := [("_reach", .int (r : Int)), ("_let", .ref d), ("_rows", .ref l)]
structure RuleW (Z : Cs) (H : Hp) (a : Addr) (r : Nat) (CS : List Cell) (dx d l : Addr) (ks : List V) (kvs : List (List Key × V)) : Prop where
  obj : H a = some (.ins Z.Rule dx (ruleF r d l))
  hd : H d = some (.dT kvs)
  hl : H l = some (.lst ks)
  kn : KinsAt Z H ks (rowsL r CS)
  dof : DOf kvs (rowsL r CS)
  r1 : 1 ≤ r
  r4 : r ≤ 4
def Rul (Z : Cs) (H : Hp) (a : Addr) (r : Nat) (CS : List Cell) (A : List Addr) : Prop := ∃ dx d l ks kvs, RuleW Z H a r CS dx d l ks kvs ∧ A = [a, d, l]
theorem Rul.mut {Z : Cs} {H : Hp} {a : Addr} {r : Nat} {CS : List Cell} {A : List Addr} (h : Rul Z H a r CS A) : Mut Z H A := by
  obtain ⟨dx, d, l, ks, kvs, W, rfl⟩ := h
  intro x m
  rcases List.mem_cons.mp m with rfl | m
  · exact .inr (.inr ⟨_, _, W.obj⟩)
  rcases List.mem_cons.mp m with rfl | m
  · exact .inr (.inl ⟨_, W.hd⟩)
  · rw [List.mem_singleton.mp m]; exact .inl ⟨_, W.hl⟩
theorem Rul.keep {K : PySem.W.Frag} {Z : Cs} {H H' : Hp} {a : Addr} {r : Nat} {CS : List Cell} {A M : List Addr} (h : Rul Z H a r CS A) (cf : Cf K Z) (o : Mut Z H M) (b : But M H H') (n : ∀ x ∈ A, x ∉ M) : Rul Z H' a r CS A := by
  obtain ⟨dx, d, l, ks, kvs, W, rfl⟩ := h
  exact ⟨dx, d, l, ks, kvs, ⟨b _ _ (n _ (.head _)) W.obj, b _ _ (n _ (.tail _ (.head _))) W.hd, b _ _ (n _ (.tail _ (.tail _ (.head _)))) W.hl, o.kins cf W.kn b, W.dof, W.r1, W.r4⟩, rfl⟩
theorem Rul.same {Z : Cs} {H H' : Hp} {a : Addr} {r : Nat} {CS : List Cell} {A : List Addr} (h : Rul Z H a r CS A) (s : Same H H') : Rul Z H' a r CS A := by
  obtain ⟨dx, d, l, ks, kvs, W, rfl⟩ := h
  exact ⟨dx, d, l, ks, kvs, ⟨s _ _ W.obj, s _ _ W.hd, s _ _ W.hl, W.kn.same s, W.dof, W.r1, W.r4⟩, rfl⟩
theorem Rul.congr {Z : Cs} {H : Hp} {a : Addr} {r : Nat} {CS DS : List Cell} {A : List Addr} (h : Rul Z H a r CS A) (e : ∀ c ∈ cellsL r, c ∈ CS ↔ c ∈ DS) : Rul Z H a r DS A := by
  obtain ⟨dx, d, l, ks, kvs, W, rfl⟩ := h
  have e := rows_congr e
  exact ⟨dx, d, l, ks, kvs, ⟨W.obj, W.hd, W.hl, e ▸ W.kn, e ▸ W.dof, W.r1, W.r4⟩, rfl⟩
theorem Rul.bounds {Z : Cs} {H : Hp} {a : Addr} {r : Nat} {CS : List Cell} {A : List Addr} (h : Rul Z H a r CS A) : 1 ≤ r ∧ r ≤ 4 := by
  obtain ⟨dx, d, l, ks, kvs, W, rfl⟩ := h
  exact ⟨W.r1, W.r4⟩
theorem Rul.obj {Z : Cs} {H : Hp} {a : Addr} {r : Nat} {CS : List Cell} {A : List Addr} (h : Rul Z H a r CS A) : ∃ dx d l, H a = some (.ins Z.Rule dx (ruleF r d l)) := by
  obtain ⟨dx, d, l, ks, kvs, W, rfl⟩ := h
  exact ⟨_, _, _, W.obj⟩
theorem Rul.head {Z : Cs} {H : Hp} {a : Addr} {r : Nat} {CS : List Cell} {A : List Addr} (h : Rul Z H a r CS A) : a ∈ A := by
  obtain ⟨dx, d, l, ks, kvs, W, rfl⟩ := h
  exact .head _
/-- kins in a tuple or a list -/
theorem KinsAt.at {Z : Cs} {H : Hp} {ks : List V} {cs : List Cell} (h : KinsAt Z H ks cs) {i : Nat} {x : V} (e : ks[i]? = some x) : ∃ k c, x = .ref k ∧ cs[i]? = some c ∧ KinAt Z H k c.1 c.2.1 c.2.2 := by
  have hi := (List.getElem?_eq_some_iff.mp e).1
  have e2 := List.getElem?_eq_getElem (l := cs) (i := i) (by rw [← h.1]; exact hi)
  obtain ⟨k, ek, hk⟩ := h.2 i x _ e e2
  exact ⟨k, _, ek, e2, hk⟩
theorem kin_tup {Z : Cs} {c : Cell} : ([.int c.1, .int c.2.1, .str c.2.2] : List V) = (keyC c).map kV := rfl
theorem cap_cpz (u : Int) (r : Int) : cap u r = cpz u r := rfl
def spLetParts (Z : Cs) : Sp := fun vs H Q E => ∃ (t : Addr) (r : Nat) (ks : List V) (cs : List Cell), vs = [.int (r : Int), .ref t] ∧ 1 ≤ r ∧ r ≤ 4 ∧ H t = some (.tup ks) ∧ KinsAt Z H ks cs ∧ cs.length ≤ 1000 ∧
  ((∀ c ∈ cs, c.1 + c.2.1 ≠ 0) → ∀ d kvs H', H d = none → H' d = some (.dT kvs) → Same H H' → DOf kvs (cs.map (capC r)) → Q (.ref d) H') ∧
  (∀ (i : Nat) k c, ks[i]? = some (.ref k) → cs[i]? = some c → c.1 + c.2.1 = 0 → (∀ c ∈ cs.take i, c.1 + c.2.1 ≠ 0) → ErrS H E Z.BadCell (badCellF k))
theorem len_let_parts (K : PySem.W.Frag) {Z : Cs} {vs : List V} {H : Hp} {Q : VK} {E : XK} (h : spLetParts Z vs H Q E) : vs.length = 2 := by
  obtain ⟨t, r, ks, cs, rfl, _⟩ := h
  rfl
theorem rd_let_parts (K : PySem.W.Frag) (Z : Cs) (cf : Cf K Z) (vs : List V) (H : Hp) (Q : VK) (E : XK) (h : spLetParts Z vs H Q E) : t_let_parts K Z E { nx := fun _ H' => Q .non H', rt := Q } (start ["reach", "kins", "let", "kin", "cell"] vs) H := by
  obtain ⟨t, r, ks, cs, rfl, r1, r4, ht, hk, lc, q, qe⟩ := h
  unfold t_let_parts
  repeat kaf_pre
  intro d nd
  repeat kaf_pre
  refine forT (xs := ks) (SqT.of (same_new nd _ _ ht)) (fun i σ' H' => ∃ (v3 v4 : Option V) (kvs : List (List Key × V)), σ' = [some (.int (r : Int)), some (.ref t), some (.ref d), v3, v4] ∧ H' d = some (.dT kvs) ∧ Same H H' ∧ DOf kvs ((cs.take i).map (capC r)) ∧ ∀ c ∈ cs.take i, c.1 + c.2.1 ≠ 0)
    ⟨_, _, [], rfl, upd_same, same_new nd, DOf.nil, fun c m => by cases m⟩ (fun i σ' H' _ ⟨_, _, _, _, _, s, _⟩ => SqT.of (s _ _ ht)) ?_ ?_
  · rintro i x σ' H1 hi ⟨v3, v4, kvs, rfl, hd, s, dof, no⟩
    obtain ⟨k, c, rfl, ec, kk⟩ := hk.at hi
    have kk1 := kk.same s
    obtain ⟨dk, hk1⟩ := kk1.2
    repeat kaf_pre
    refine ⟨k, _, _, _, rfl, kk1, ?_⟩
    by_cases z : c.1 + c.2.1 = 0
    · repeat kaf_pre
      exact ⟨rfl, fun e ne => qe i k c hi ec z no H1 e s ne⟩
    repeat kaf_pre
    refine ⟨k, dk, _, _, rfl, rfl, hk1, k, _, _, _, _, rfl, kk1, fun _ y dy ny ndy nyy => ?_, fun z => absurd z (by omega)⟩
    have s2 : Same H1 (upd (upd H1 dy (.own y)) y (.ins Z.Kin dy (kinF (cap c.1 r) (cap c.2.1 r) c.2.2))) := by kd_all
    have hy := upd_same (H := upd H1 dy (.own y)) (a := y) (o := .ins Z.Kin dy (kinF (cap c.1 r) (cap c.2.1 r) c.2.2))
    have hd2 := s2 _ _ hd
    generalize upd (upd H1 dy (.own y)) y (.ins Z.Kin dy (kinF (cap c.1 r) (cap c.2.1 r) c.2.2)) = H2 at *
    repeat kaf_pre
    refine ⟨size_of (by simp), fun p np => ?_⟩
    have hp : upd H2 p (.tup [.int (cap c.1 r), .int (cap c.2.1 r), .str c.2.2]) p = some (.tup ((keyC (capC r c)).map kV)) := upd_same
    have s3 := same_new (o := HO.tup [.int (cap c.1 r), .int (cap c.2.1 r), .str c.2.2]) np
    have hd3 := s3 _ _ hd2
    have dle := dof.le
    have cl := (List.getElem?_eq_some_iff.mp ec).1
    rw [List.length_map, List.length_take] at dle
    refine ⟨d, _, rfl, DPut.t hd3 hp (size_lt (by omega)), ?_⟩
    refine ⟨_, _, _, rfl, upd_same, same_mut (s.trans (s2.trans s3)) nd, dof.put (c := capC r c) fun x => ?_, fun c' m => ?_⟩
    · rw [take_end ec, List.map_append, List.mem_append]
      simp
    · rw [take_end ec] at m
      rcases List.mem_append.mp m with m | m
      · exact no _ m
      · rw [List.mem_singleton.mp m]; exact z
  · rintro σ' H1 ⟨v3, v4, kvs, rfl, hd, s, dof, no⟩
    rw [hk.1, List.take_length] at dof no
    repeat kaf_pre
    exact q no d kvs H1 nd hd s dof
/- slots of Rule.lets: 0 self, 1 up, 2 down, 3 side -/
def t_Rule_lets (K : PySem.W.Frag) (Z : Cs) : TS :=
  (tRet (tOp rInT (tTup (tCons (tCall (spCapped) [] E0 (tCons (tVar 1) (tCons (tFld K (tVar 0) "_reach") tNil))) (tCons (tCall (spCapped) [] E0 (tCons (tVar 2) (tCons (tFld K (tVar 0) "_reach") tNil))) (tCons (tVar 3) tNil)))) (tFld K (tVar 0) "_let")))
/-! ### rules: lets, __init__ -/
theorem lcKins {K : PySem.W.Frag} {Z : Cs} {σ : L2.St} {H : Hp} {Q : VK} {j : Nat} {tt : TT} {te : TE} {a : Addr} {ks : List V} {cs : List Cell} (hx : SqL K H a ks) (hk : KinsAt Z H ks cs) (p : Cell → Bool) (hz : cs.length ≤ 1000)
    (ht : ∀ (i : Nat) (k : Addr) (c : Cell) (H1 : Hp), cs[i]? = some c → KinAt Z H1 k c.1 c.2.1 c.2.2 → Same H H1 → ∀ R : Bool → Hp → Prop, (∀ H2, Same H1 H2 → R (p c) H2) → tt ((wipe σ [j]).set j (some (.ref k))) H1 R)
    (he : ∀ (k : Addr) (H1 : Hp) (R : VK), R (.ref k) H1 → te ((wipe σ [j]).set j (some (.ref k))) H1 R)
    (q : ∀ (Dd : Addr) (ks' : List V) (H' : Hp), H Dd = none → Same H H' → H' Dd = some (.lst ks') → KinsAt Z H' ks' (cs.filter p) → Q (.ref Dd) H') : LcA K (.ref a) (gName j) tt te [j] σ H Q := by
  have hx' : SqL K H a ((ks.zip cs).map (·.1)) := by rw [zip_fst hk.1]; exact hx
  refine lcGs hx' (fun q => p q.2) (·.1) (by have := List.length_zip (l₁ := ks) (l₂ := cs); omega) (fun i y H1 hy s R r => ?_) (fun i y H1 hy hp s R r => ?_) fun Dd H' hD s hd => ?_
  · obtain ⟨e1, e2⟩ := mem_zip_at hy
    obtain ⟨k, ek, kk⟩ := hk.2 i _ _ e1 e2
    rw [ek]
    exact ht i k y.2 H1 e2 (kk.same s) s R r
  · obtain ⟨e1, e2⟩ := mem_zip_at hy
    obtain ⟨k, ek, kk⟩ := hk.2 i _ _ e1 e2
    simp only [ek] at r ⊢
    exact he k H1 R (r H1 (Same.refl _))
  · have hk' := hk.same s
    exact q Dd _ H' hD s hd (rows_filt hk'.1 hk'.2 p)
def spLets (Z : Cs) : Sp := fun vs H Q _ => ∃ (a dx : Addr) (fs : List (Str × V)) (r : Nat) (dd : Addr) (kvs : List (List Key × V)) (u d : Int) (s : Str), vs = [.ref a, .int u, .int d, .str s] ∧ H a = some (.ins Z.Rule dx fs) ∧ fs.lookup ("_reach" : Str) = some (.int (r : Int)) ∧ fs.lookup ("_let" : Str) = some (.ref dd) ∧ H dd = some (.dT kvs) ∧
  ∀ H', Same H H' → Q (.bl (valV kvs (keyC (capC r (u, d, s)))).isSome) H'
theorem len_Rule_lets (K : PySem.W.Frag) {Z : Cs} {vs : List V} {H : Hp} {Q : VK} {E : XK} (h : spLets Z vs H Q E) : vs.length = 4 := by
  obtain ⟨a, dx, fs, r, dd, kvs, u, d, s, rfl, _⟩ := h
  rfl
theorem rd_Rule_lets (K : PySem.W.Frag) (Z : Cs) (cf : Cf K Z) (vs : List V) (H : Hp) (Q : VK) (E : XK) (h : spLets Z vs H Q E) : t_Rule_lets K Z { nx := fun _ H' => Q .non H', rt := Q } (start ["self", "up", "down", "side"] vs) H := by
  obtain ⟨a, dx, fs, r, dd, kvs, u, d, s, rfl, ha, l1, l2, hd, q⟩ := h
  unfold t_Rule_lets
  repeat kaf_pre
  refine rd_fldI ha inferInstance l1 ?_
  repeat kaf_pre
  refine ⟨u, _, rfl, ?_⟩
  repeat kaf_pre
  refine rd_fldI ha inferInstance l1 ?_
  repeat kaf_pre
  refine ⟨d, _, rfl, ?_⟩
  repeat kaf_pre
  refine ⟨size_of (by simp), fun p np => ?_⟩
  have s1 := same_new (o := HO.tup [.int (cap u r), .int (cap d r), .str s]) np
  have hp : upd H p (HO.tup [.int (cap u r), .int (cap d r), .str s]) p = some (.tup ((keyC (capC r (u, d, s))).map kV)) := upd_same
  repeat kaf_pre
  refine rd_fldI (s1 _ _ ha) inferInstance l2 ?_
  exact rd_inT (s1 _ _ hd) hp (q _ s1)
theorem lets_of {Z : Cs} {H : Hp} {Q : VK} {E : XK} {a : Addr} {r : Nat} {CS : List Cell} {A : List Addr} {u d : Int} {s : Str} (h : Rul Z H a r CS A) (q : ∀ H', Same H H' → Q (.bl (letC r CS (u, d, s))) H') : spLets Z [.ref a, .int u, .int d, .str s] H Q E := by
  obtain ⟨dx, dd, l, ks, kvs, W, rfl⟩ := h
  exact ⟨a, dx, _, r, dd, kvs, u, d, s, rfl, W.obj, rfl, rfl, W.hd, fun H' s1 => by rw [W.dof.1]; exact q H' s1⟩
/- slots of Rule.__init__: 0 self, 1 reach, 2 kins, 3 cell -/
def t_Rule__init_ (K : PySem.W.Frag) (Z : Cs) (E : XK) : TS :=
  (tSeq (tDrop (tCallS (spDemR Z) (WE (fun cls d (_ : L2.St) H => E cls d H)) (tCons (tVar 1) tNil)))
  (tSeq (sFld K (tVar 0) (tVar 1) "_reach")
  (tSeq (sFld K (tVar 0) (tCallS (spLetParts Z) (WE (fun cls d (_ : L2.St) H => E cls d H)) (tCons (tVar 1) (tCons (tVar 2) tNil))) "_let")
  (sFld K (tVar 0) (tLc (iAny K (tCallS (spAllCells Z) (WE (fun cls d (_ : L2.St) H => E cls d H)) (tCons (tVar 1) tNil))) (gName 3) (tTru K (tMethT Z.Rule "lets" (spLets Z) (fun _ => E0) (tVar 0) (tCons (tFld K (tVar 3) "up") (tCons (tFld K (tVar 3) "down") (tCons (tFld K (tVar 3) "side") tNil))))) (tVar 3) [3]) "_rows"))))
/-! ### a rule is made -/
def spRule (Z : Cs) : Sp := fun vs H Q E => ∃ (x dx t : Addr) (i : Int) (ks : List V) (cs : List Cell), vs = [.ref x, .int i, .ref t] ∧ H x = some (.ins Z.Rule dx []) ∧ H t = some (.tup ks) ∧ KinsAt Z H ks cs ∧ cs.length ≤ 1000 ∧
  (¬ (1 ≤ i ∧ i ≤ 4) → ErrTo H E Z.BadReach (badReachF i)) ∧
  (∀ r : Nat, i = r → 1 ≤ r → r ≤ 4 → (∀ c ∈ cs, c.1 + c.2.1 ≠ 0) → ∀ A H', (∀ y ∈ A, y = x ∨ H y = none) → But [x] H H' → Rul Z H' x r (cs.map (capC r)) A → Q .non H') ∧
  (∀ r : Nat, i = r → 1 ≤ r → r ≤ 4 → ∀ (j : Nat) k c, ks[j]? = some (.ref k) → cs[j]? = some c → c.1 + c.2.1 = 0 → (∀ c ∈ cs.take j, c.1 + c.2.1 ≠ 0) → ∀ H1 e, But [x] H H1 → H1 e = none → E (.ref Z.BadCell) (some e) (upd H1 e (.xd (badCellF k))))
theorem len_Rule__init_ (K : PySem.W.Frag) {Z : Cs} {vs : List V} {H : Hp} {Q : VK} {E : XK} (h : spRule Z vs H Q E) : vs.length = 3 := by
  obtain ⟨x, dx, t, i, ks, cs, rfl, _⟩ := h
  rfl
theorem ne_of_objs {H : Hp} {a b : Addr} {o o' : HO} (h : H a = some o) (h' : H b = some o') (n : o ≠ o') : a ≠ b := fun e => n (by rw [e, h'] at h; exact (Option.some.inj h).symm)
theorem rd_Rule__init_ (K : PySem.W.Frag) (Z : Cs) (cf : Cf K Z) (vs : List V) (H : Hp) (Q : VK) (E : XK) (h : spRule Z vs H Q E) : t_Rule__init_ K Z E { nx := fun _ H' => Q .non H', rt := Q } (start ["self", "reach", "kins", "cell"] vs) H := by
  obtain ⟨x, dx, t, i, ks, cs, rfl, hx, ht, hk, lc, qr, q, qe⟩ := h
  unfold t_Rule__init_
  repeat kaf_pre
  refine ⟨i, rfl, fun i1 i4 => ?_, qr⟩
  obtain ⟨r, rfl⟩ : ∃ r : Nat, i = r := ⟨i.toNat, by omega⟩
  have r1 : 1 ≤ r := by omega
  have r4 : r ≤ 4 := by omega
  have q := q r rfl r1 r4
  have qe := qe r rfl r1 r4
  clear qr i1 i4
  have tx : t ≠ x := ne_of_objs ht hx (fun e => by cases e)
  have mu : Mut Z H [x] := fun y m => by rw [List.mem_singleton.mp m]; exact .inr (.inr ⟨_, _, hx⟩)
  repeat kaf_pre
  have B1 : But [x] H (upd H x (.ins Z.Rule dx [("_reach", .int (r : Int))])) := (But.refl _ _).set (.head _)
  have hx1 : upd H x (.ins Z.Rule dx [("_reach", .int (r : Int))]) x = some (.ins Z.Rule dx [("_reach", .int (r : Int))]) := upd_same
  show spLetParts Z _ (upd H x (.ins Z.Rule dx [("_reach", .int (r : Int))])) _ _
  generalize upd H x (.ins Z.Rule dx [("_reach", .int (r : Int))]) = H1 at *
  refine ⟨t, r, ks, cs, rfl, r1, r4, mu.tup ht B1, mu.kins cf hk B1, lc, fun no d kvs H2 nd hd s2 dof => ?_, fun j k c e1 e2 z no => fun H2 e s2 ne => qe j k c e1 e2 z no H2 e (B1.trans (But.of s2)) ne⟩
  have q := q no
  have B2 := B1.trans (But.of s2 : But [x] H1 H2)
  have hx2 := s2 _ _ hx1
  have dx2 : d ≠ x := fun e => by rw [e, hx1] at nd; cases nd
  have fd : d = x ∨ H d = none := .inr (by
    cases e : H d with
    | none => rfl
    | some o => rw [B1 d o (by simpa using dx2) e] at nd; cases nd)
  repeat kaf_pre
  refine rd_putI hx2 inferInstance (by simp) ?_
  repeat kaf_pre
  have B3 : But [x] H (upd H2 x (.ins Z.Rule dx [("_reach", .int (r : Int)), ("_let", .ref d)])) := B2.set (.head _)
  have hx3 : upd H2 x (.ins Z.Rule dx [("_reach", .int (r : Int)), ("_let", .ref d)]) x = some (.ins Z.Rule dx [("_reach", .int (r : Int)), ("_let", .ref d)]) := upd_same
  have hd3 : upd H2 x (.ins Z.Rule dx [("_reach", .int (r : Int)), ("_let", .ref d)]) d = some (.dT kvs) := by rw [upd_ne dx2]; exact hd
  show spAllCells Z _ (upd H2 x (.ins Z.Rule dx [("_reach", .int (r : Int)), ("_let", .ref d)])) _ _
  generalize upd H2 x (.ins Z.Rule dx [("_reach", .int (r : Int)), ("_let", .ref d)]) = H3 at *
  refine ⟨(r : Int), rfl, fun r' er _ _ l0 ks0 H4 nl0 hl0 hk0 s4 => ?_, fun z => absurd ⟨by omega, by omega⟩ z⟩
  obtain rfl : r = r' := by omega
  have hx4 := s4 _ _ hx3
  have hd4 := s4 _ _ hd3
  have cl := cells_len r1 r4
  refine lcKins (SqL.of hl0) hk0 (fun c => decide (c ∈ cs.map (capC r))) (by omega) (fun j k c H5 ec kk s5 R rr => ?_) (fun k H5 R rr => ?_) fun l ks5 H5 nl s5 hl5 hk5 => ?_
  · obtain ⟨dk, hk5⟩ := kk.2
    repeat kaf_pre
    refine ⟨x, dx, _, r, d, kvs, _, _, _, rfl, s5 _ _ hx4, rfl, rfl, s5 _ _ hd4, fun H6 s6 => ?_⟩
    rw [dof.1, cap_cells (List.mem_of_getElem? ec)]
    repeat kaf_pre
    exact rr _ s6
  · repeat kaf_pre
    exact rr
  · have B5 := B3.trans (But.of (s4.trans s5) : But [x] H3 H5)
    have hx5 := s5 _ _ hx4
    have hd5 := s5 _ _ hd4
    have lx : l ≠ x := fun e => by rw [e, hx4] at nl; cases nl
    have fl : l = x ∨ H l = none := .inr (by
      cases e : H l with
      | none => rfl
      | some o => have := (B3.trans (But.of s4 : But [x] H3 H4)) l o (by simpa using lx) e; rw [nl] at this; cases this)
    repeat kaf_pre
    refine rd_putI hx5 inferInstance (by simp) ?_
    repeat kaf_pre
    refine q [x, d, l] _ (fun y m => ?_) (B5.set (.head _)) ⟨dx, d, l, ks5, kvs, ⟨upd_same, by rw [upd_ne dx2]; exact hd5, by rw [upd_ne lx]; exact hl5, ?_, ?_, r1, r4⟩, rfl⟩
    · rcases List.mem_cons.mp m with e | m
      · exact .inl e
      rcases List.mem_cons.mp m with e | m
      · rw [e]; exact fd
      · rw [List.mem_singleton.mp m]; exact fl
    · have mu5 : Mut Z H5 [x] := fun y m => by rw [List.mem_singleton.mp m]; exact .inr (.inr ⟨_, _, hx5⟩)
      exact mu5.kins cf hk5 ((But.refl _ _).set (.head _))
    · refine dof.congr fun c => ?_
      rw [rows_mem]
      refine ⟨fun z => z.2, fun z => ⟨?_, z⟩⟩
      obtain ⟨c0, m0, rfl⟩ := List.mem_map.mp z
      obtain ⟨j, hj⟩ := List.mem_iff_getElem?.mp m0
      obtain ⟨k, _, kk⟩ := hk.2 j _ _ (List.getElem?_eq_getElem (by rw [hk.1]; exact (List.getElem?_eq_some_iff.mp hj).1)) hj
      exact cap_mem r1 (kinC_of kk.1) (no _ m0)
/-- C(reach, k, ..): a new rule -/
theorem make_ruleP {Z : Cs} {H : Hp} {P : Addr → Hp → Prop} {E : XK} {r : Nat} {ks : List V} {cs : List Cell} (r1 : 1 ≤ r) (r4 : r ≤ 4) (hk : KinsAt Z H ks cs) (lc : cs.length ≤ 1000) (no : ∀ c ∈ cs, c.1 + c.2.1 ≠ 0)
    (q : ∀ x A H', (∀ y ∈ A, H y = none) → Same H H' → Rul Z H' x r (cs.map (capC r)) A → P x H') :
    ∀ x dx, H x = none → H dx = none → dx ≠ x → starSp 2 (spRule Z) (.ref x :: .int (r : Int) :: ks) (upd (upd H dx (.own x)) x (.ins Z.Rule dx [])) (fun v H2 => v = .non ∧ P x H2) E := fun x dx nx nd ne => by
  have s0 : Same H (upd (upd H dx (.own x)) x (.ins Z.Rule dx [])) := by kd_all
  refine ⟨[.ref x, .int (r : Int)], ks, rfl, rfl, size_of (by rw [hk.1]; omega), fun t nt => ?_⟩
  have s1 := s0.trans (same_new (o := HO.tup ks) nt)
  have tx : x ≠ t := fun e => by rw [← e, upd_same] at nt; cases nt
  have hx : upd (upd (upd H dx (.own x)) x (.ins Z.Rule dx [])) t (.tup ks) x = some (.ins Z.Rule dx []) := by rw [upd_ne tx]; exact upd_same
  refine ⟨x, dx, t, _, ks, cs, rfl, hx, upd_same, hk.same s1, lc, fun z => absurd ⟨by omega, by omega⟩ z, fun r' er _ _ _ A H' f b ru => ⟨rfl, ?_⟩, fun r' er _ _ j k c _ ec z _ => absurd z (no c (List.mem_of_getElem? ec))⟩
  obtain rfl : r = r' := by omega
  refine q x A H' (fun y m => ?_) (same_drop s1 b fun y m => by rw [List.mem_singleton.mp m]; exact nx) ru
  rcases f y m with e | e
  · rw [e]; exact nx
  · exact s1.free e
/-- .. the reach, or a kin, is bad -/
theorem make_rule_bad {Z : Cs} {H : Hp} {P : Addr → V → Hp → Prop} {E : XK} {i : Int} {ks : List V} {cs : List Cell} (hi : ¬ (1 ≤ i ∧ i ≤ 4)) (hk : KinsAt Z H ks cs) (lc : cs.length ≤ 1000) (q : ErrS H E Z.BadReach (badReachF i)) :
    ∀ x dx, H x = none → H dx = none → dx ≠ x → starSp 2 (spRule Z) (.ref x :: .int i :: ks) (upd (upd H dx (.own x)) x (.ins Z.Rule dx [])) (P x) E := fun x dx nx nd ne => by
  have s0 : Same H (upd (upd H dx (.own x)) x (.ins Z.Rule dx [])) := by kd_all
  refine ⟨[.ref x, .int i], ks, rfl, rfl, size_of (by rw [hk.1]; omega), fun t nt => ?_⟩
  have s1 := s0.trans (same_new (o := HO.tup ks) nt)
  have tx : x ≠ t := fun e => by rw [← e, upd_same] at nt; cases nt
  have hx : upd (upd (upd H dx (.own x)) x (.ins Z.Rule dx [])) t (.tup ks) x = some (.ins Z.Rule dx []) := by rw [upd_ne tx]; exact upd_same
  exact ⟨x, dx, t, _, ks, cs, rfl, hx, upd_same, hk.same s1, lc, fun _ => (q.same s1).of_to, fun r' er _ _ => absurd ⟨by omega, by omega⟩ hi, fun r' er _ _ => absurd ⟨by omega, by omega⟩ hi⟩
theorem make_rule_self {Z : Cs} {H : Hp} {P : Addr → V → Hp → Prop} {E : XK} {r : Nat} {ks : List V} {cs : List Cell} {j : Nat} {k : Addr} {c : Cell} (r1 : 1 ≤ r) (r4 : r ≤ 4) (hk : KinsAt Z H ks cs) (lc : cs.length ≤ 1000) (e1 : ks[j]? = some (.ref k)) (e2 : cs[j]? = some c) (z : c.1 + c.2.1 = 0) (no : ∀ c ∈ cs.take j, c.1 + c.2.1 ≠ 0)
    (q : ErrS H E Z.BadCell (badCellF k)) : ∀ x dx, H x = none → H dx = none → dx ≠ x → starSp 2 (spRule Z) (.ref x :: .int (r : Int) :: ks) (upd (upd H dx (.own x)) x (.ins Z.Rule dx [])) (P x) E := fun x dx nx nd ne => by
  have s0 : Same H (upd (upd H dx (.own x)) x (.ins Z.Rule dx [])) := by kd_all
  refine ⟨[.ref x, .int (r : Int)], ks, rfl, rfl, size_of (by rw [hk.1]; omega), fun t nt => ?_⟩
  have s1 := s0.trans (same_new (o := HO.tup ks) nt)
  have tx : x ≠ t := fun e => by rw [← e, upd_same] at nt; cases nt
  have hx : upd (upd (upd H dx (.own x)) x (.ins Z.Rule dx [])) t (.tup ks) x = some (.ins Z.Rule dx []) := by rw [upd_ne tx]; exact upd_same
  refine ⟨x, dx, t, _, ks, cs, rfl, hx, upd_same, hk.same s1, lc, fun z => absurd ⟨by omega, by omega⟩ z, fun r' er _ _ no' => absurd z (no' c (List.mem_of_getElem? e2)), fun r' er _ _ j' k' c' f1 f2 z' no' H1 e b ne => ?_⟩
  have ej : j = j' := by
    rcases Nat.lt_trichotomy j j' with h | h | h
    · exact absurd z (no' c (List.mem_take_iff_getElem.mpr ⟨j, by have := (List.getElem?_eq_some_iff.mp e2).1; omega, (List.getElem?_eq_some_iff.mp e2).2⟩))
    · exact h
    · exact absurd z' (no c' (List.mem_take_iff_getElem.mpr ⟨j', by have := (List.getElem?_eq_some_iff.mp f2).1; omega, (List.getElem?_eq_some_iff.mp f2).2⟩))
  subst ej
  rw [e1] at f1
  cases f1
  exact q H1 e (same_drop s1 b fun y m => by rw [List.mem_singleton.mp m]; exact nx) ne
/- slots of Rule.reach: 0 self -/
def t_Rule_reach (K : PySem.W.Frag) (Z : Cs) : TS :=
  (tRet (tFld K (tVar 0) "_reach"))
/- slots of Rule.__getitem__: 0 self, 1 kin -/
def t_Rule__getitem_ (K : PySem.W.Frag) (Z : Cs) : TS :=
  (tRet (tMethT Z.Rule "lets" (spLets Z) (fun _ => E0) (tVar 0) (tCons (tFld K (tVar 1) "up") (tCons (tFld K (tVar 1) "down") (tCons (tFld K (tVar 1) "side") tNil)))))
/-! ### rules: reach, items, length, truth, cells -/
def spReach (Z : Cs) : Sp := fun vs H Q _ => ∃ (a : Addr) (r : Nat) (CS : List Cell) (A : List Addr), vs = [.ref a] ∧ Rul Z H a r CS A ∧ Q (.int (r : Int)) H
theorem len_Rule_reach (K : PySem.W.Frag) {Z : Cs} {vs : List V} {H : Hp} {Q : VK} {E : XK} (h : spReach Z vs H Q E) : vs.length = 1 := by
  obtain ⟨a, r, CS, A, rfl, _⟩ := h
  rfl
theorem rd_Rule_reach (K : PySem.W.Frag) (Z : Cs) (cf : Cf K Z) (vs : List V) (H : Hp) (Q : VK) (E : XK) (h : spReach Z vs H Q E) : t_Rule_reach K Z { nx := fun _ H' => Q .non H', rt := Q } (start ["self"] vs) H := by
  obtain ⟨a, r, CS, A, rfl, R, q⟩ := h
  obtain ⟨dx, d, l, ho⟩ := R.obj
  unfold t_Rule_reach
  repeat kaf_pre
  exact q
def spRGet (Z : Cs) : Sp := fun vs H Q _ => ∃ (a k : Addr) (r : Nat) (CS : List Cell) (A : List Addr) (u d : Int) (s : Str), vs = [.ref a, .ref k] ∧ Rul Z H a r CS A ∧ KinAt Z H k u d s ∧ ∀ H', Same H H' → Q (.bl (letC r CS (u, d, s))) H'
abbrev spRIn := spRGet
theorem len_Rule__getitem_ (K : PySem.W.Frag) {Z : Cs} {vs : List V} {H : Hp} {Q : VK} {E : XK} (h : spRGet Z vs H Q E) : vs.length = 2 := by
  obtain ⟨a, k, r, CS, A, u, d, s, rfl, _⟩ := h
  rfl
theorem rd_Rule__getitem_ (K : PySem.W.Frag) (Z : Cs) (cf : Cf K Z) (vs : List V) (H : Hp) (Q : VK) (E : XK) (h : spRGet Z vs H Q E) : t_Rule__getitem_ K Z { nx := fun _ H' => Q .non H', rt := Q } (start ["self", "kin"] vs) H := by
  obtain ⟨a, k, r, CS, A, u, d, s, rfl, R, kk, q⟩ := h
  obtain ⟨dx, dd, l, ho⟩ := R.obj
  obtain ⟨dk, hk⟩ := kk.2
  unfold t_Rule__getitem_
  repeat kaf_pre
  exact lets_of R q
/- slots of Rule.__len__: 0 self -/
def t_Rule__len_ (K : PySem.W.Frag) (Z : Cs) : TS :=
  (tRet (tCB (rLenK K) (tCons (tFld K (tVar 0) "_rows") tNil)))
def spRLen (Z : Cs) : Sp := fun vs H Q _ => ∃ (a : Addr) (r : Nat) (CS : List Cell) (A : List Addr), vs = [.ref a] ∧ Rul Z H a r CS A ∧ Q (.int ((rowsL r CS).length : Int)) H
theorem len_Rule__len_ (K : PySem.W.Frag) {Z : Cs} {vs : List V} {H : Hp} {Q : VK} {E : XK} (h : spRLen Z vs H Q E) : vs.length = 1 := by
  obtain ⟨a, r, CS, A, rfl, _⟩ := h
  rfl
theorem rd_Rule__len_ (K : PySem.W.Frag) (Z : Cs) (cf : Cf K Z) (vs : List V) (H : Hp) (Q : VK) (E : XK) (h : spRLen Z vs H Q E) : t_Rule__len_ K Z { nx := fun _ H' => Q .non H', rt := Q } (start ["self"] vs) H := by
  obtain ⟨a, r, CS, A, rfl, ⟨dx, d, l, ks, kvs, W, rfl⟩, q⟩ := h
  have ho := W.obj; have hl := W.hl
  rw [← W.kn.1] at q
  unfold t_Rule__len_
  repeat kaf_pre
  exact q
/- slots of Rule.none: 0 cls, 1 reach -/
def t_Rule_none (K : PySem.W.Frag) (Z : Cs) (E : XK) : TS :=
  (tRet (tMakeV Z.Rule (starSp 2 (spRule Z)) (WE (fun cls d (_ : L2.St) H => E cls d H)) (tVar 0) (tCons (tVar 1) tNil)))
def spNoneR (Z : Cs) : Sp := fun vs H Q E => ∃ i : Int, vs = [.ref Z.Rule, .int i] ∧ (∀ r : Nat, i = r → 1 ≤ r → r ≤ 4 → ∀ x A H', (∀ y ∈ A, H y = none) → Same H H' → Rul Z H' x r [] A → Q (.ref x) H') ∧ (¬ (1 ≤ i ∧ i ≤ 4) → ErrS H E Z.BadReach (badReachF i))
theorem len_Rule_none (K : PySem.W.Frag) {Z : Cs} {vs : List V} {H : Hp} {Q : VK} {E : XK} (h : spNoneR Z vs H Q E) : vs.length = 2 := by
  obtain ⟨i, rfl, _⟩ := h
  rfl
theorem kins_nil {Z : Cs} {H : Hp} : KinsAt Z H [] [] := ⟨rfl, fun i v c e => by simp at e⟩
theorem rd_Rule_none (K : PySem.W.Frag) (Z : Cs) (cf : Cf K Z) (vs : List V) (H : Hp) (Q : VK) (E : XK) (h : spNoneR Z vs H Q E) : t_Rule_none K Z E { nx := fun _ H' => Q .non H', rt := Q } (start ["cls", "reach"] vs) H := by
  obtain ⟨i, rfl, q, qe⟩ := h
  unfold t_Rule_none
  repeat kaf_pre
  by_cases c : 1 ≤ i ∧ i ≤ 4
  · obtain ⟨r, rfl⟩ : ∃ r : Nat, i = r := ⟨i.toNat, by omega⟩
    exact make_ruleP (P := fun x H2 => _) (by omega) (by omega) kins_nil (by simp) (fun c m => by cases m) fun x A H' f s R => q r rfl (by omega) (by omega) x A H' f s R
  · exact make_rule_bad c kins_nil (by simp) (qe c)
/- slots of Rule.full: 0 cls, 1 reach, 2 cells -/
def t_Rule_full (K : PySem.W.Frag) (Z : Cs) (E : XK) : TS :=
  (tSeq (tAsg (tCallS (spAllCells Z) (WE (fun cls d (_ : L2.St) H => E cls d H)) (tCons (tVar 1) tNil)) (gName 2))
  (tRet (tMakeV Z.Rule (starSp 2 (spRule Z)) (WE (fun cls d (_ : L2.St) H => E cls d H)) (tVar 0) (tCons (tVar 1) (StX.tStar K (tVar 2) tNil)))))
def spFullR (Z : Cs) : Sp := fun vs H Q E => ∃ i : Int, vs = [.ref Z.Rule, .int i] ∧ (∀ r : Nat, i = r → 1 ≤ r → r ≤ 4 → ∀ x A H', (∀ y ∈ A, H y = none) → Same H H' → Rul Z H' x r (cellsL r) A → Q (.ref x) H') ∧ (¬ (1 ≤ i ∧ i ≤ 4) → ErrS H E Z.BadReach (badReachF i))
theorem len_Rule_full (K : PySem.W.Frag) {Z : Cs} {vs : List V} {H : Hp} {Q : VK} {E : XK} (h : spFullR Z vs H Q E) : vs.length = 2 := by
  obtain ⟨i, rfl, _⟩ := h
  rfl
theorem cap_map {r : Nat} {cs : List Cell} (h : ∀ c ∈ cs, c ∈ cellsL r) : cs.map (capC r) = cs := by
  have : cs.map (capC r) = cs.map id := List.map_congr_left fun c m => cap_cells (h c m)
  rw [this, List.map_id]
theorem rd_Rule_full (K : PySem.W.Frag) (Z : Cs) (cf : Cf K Z) (vs : List V) (H : Hp) (Q : VK) (E : XK) (h : spFullR Z vs H Q E) : t_Rule_full K Z E { nx := fun _ H' => Q .non H', rt := Q } (start ["cls", "reach", "cells"] vs) H := by
  obtain ⟨i, rfl, q, qe⟩ := h
  unfold t_Rule_full
  repeat kaf_pre
  refine ⟨i, rfl, fun r er r1 r4 l ks H1 nl hl hk s1 => ?_, fun z => (qe z).of_to⟩
  subst er
  have cl := cells_len r1 r4
  repeat kaf_pre
  refine ⟨l, ks, rfl, .inr (SqL.of hl), ?_⟩
  repeat kaf_pre
  rw [List.append_nil]
  refine make_ruleP (P := fun x H2 => _) r1 r4 hk (by omega) (fun c m => by have := cells_pos r1 r4 c m; omega) fun x A H' f s R => ?_
  rw [cap_map fun c m => m] at R
  exact q r rfl r1 r4 x A H' (fun y m => s1.free (f y m)) (s1.trans s) R
/- slots of Rule.put: 0 self, 1 cell, 2 place -/
def t_Rule_put (K : PySem.W.Frag) (Z : Cs) : TS :=
  (tSeq (tIfS (tTru K (tIxO Z.Rule (spRGet Z) (fun _ => E0) (tVar 0) (tVar 1))) tRetN tNext)
  (tSeq (sDPut (tFld K (tVar 0) "_let") (tTup (tCons (tFld K (tVar 1) "up") (tCons (tFld K (tVar 1) "down") (tCons (tFld K (tVar 1) "side") tNil)))) (tC (.bl true)))
  (tSeq (tAsg (tC (.int 0)) (gName 2))
  (tSeqC (tWhile (tAnd (tTest (tOp rLtI (tVar 2) (tCB (rLenK K) (tCons (tFld K (tVar 0) "_rows") tNil)))) (tTest (tOp (rCmpO Z.Kin (spKinLt Z) E0) (tOp (rIx K) (tFld K (tVar 0) "_rows") (tVar 2)) (tVar 1)))) (tAug 2 (tC (.int 1)) (rIAddA K)))
  (tDrop (tBM K "list" rInsert (tFld K (tVar 0) "_rows") (tCons (tVar 2) (tCons (tVar 1) tNil))))))))
/-! ### rules: put, take -/
theorem kins_take {Z : Cs} {H : Hp} {ks : List V} {cs : List Cell} (h : KinsAt Z H ks cs) (n : Nat) : KinsAt Z H (ks.take n) (cs.take n) := ⟨by rw [List.length_take, List.length_take, h.1], fun i v c e1 e2 => by
  rw [List.getElem?_take] at e1 e2
  split at e1
  · next hi => rw [if_pos hi] at e2; exact h.2 i v c e1 e2
  · cases e1⟩
theorem kins_drop {Z : Cs} {H : Hp} {ks : List V} {cs : List Cell} (h : KinsAt Z H ks cs) (n : Nat) : KinsAt Z H (ks.drop n) (cs.drop n) := ⟨by rw [List.length_drop, List.length_drop, h.1], fun i v c e1 e2 => by
  rw [List.getElem?_drop] at e1 e2
  exact h.2 _ v c e1 e2⟩
theorem kins_app {Z : Cs} {H : Hp} {ks js : List V} {cs ds : List Cell} (h : KinsAt Z H ks cs) (g : KinsAt Z H js ds) : KinsAt Z H (ks ++ js) (cs ++ ds) := ⟨by rw [List.length_append, List.length_append, h.1, g.1], fun i v c e1 e2 => by
  by_cases hi : i < ks.length
  · rw [List.getElem?_append_left hi] at e1
    rw [List.getElem?_append_left (by rw [← h.1]; exact hi)] at e2
    exact h.2 i v c e1 e2
  · rw [List.getElem?_append_right (by omega)] at e1
    rw [List.getElem?_append_right (by have := h.1; omega), ← h.1] at e2
    exact g.2 _ v c e1 e2⟩
theorem kins_one {Z : Cs} {H : Hp} {k : Addr} {c : Cell} (h : KinAt Z H k c.1 c.2.1 c.2.2) : KinsAt Z H [.ref k] [c] := ⟨rfl, fun i v d e1 e2 => by
  match i, e1, e2 with
  | 0, e1, e2 => cases e1; cases e2; exact ⟨k, rfl, h⟩
  | i + 1, e1, e2 => simp at e1⟩
def spPut (Z : Cs) : Sp := fun vs H Q _ => ∃ (a k : Addr) (r : Nat) (CS : List Cell) (A : List Addr) (c : Cell), vs = [.ref a, .ref k] ∧ Rul Z H a r CS A ∧ KinAt Z H k c.1 c.2.1 c.2.2 ∧ c ∈ cellsL r ∧ ∀ H', But A H H' → Rul Z H' a r (CS ++ [c]) A → Q .non H'
theorem len_Rule_put (K : PySem.W.Frag) {Z : Cs} {vs : List V} {H : Hp} {Q : VK} {E : XK} (h : spPut Z vs H Q E) : vs.length = 2 := by
  obtain ⟨a, k, r, CS, A, c, rfl, _⟩ := h
  rfl
theorem rd_Rule_put (K : PySem.W.Frag) (Z : Cs) (cf : Cf K Z) (vs : List V) (H : Hp) (Q : VK) (E : XK) (h : spPut Z vs H Q E) : t_Rule_put K Z { nx := fun _ H' => Q .non H', rt := Q } (start ["self", "cell", "place"] vs) H := by
  obtain ⟨a, k, r, CS, A, c, rfl, R, kk, hc, q⟩ := h
  obtain ⟨dx, d, l, ks, kvs, W, rfl⟩ := id R
  have r1 := W.r1; have r4 := W.r4
  have ho := W.obj
  have ho' := W.obj
  unfold t_Rule_put
  repeat kaf_pre
  refine ⟨a, _, _, rfl, ho, a, k, r, CS, _, _, _, _, rfl, R, kk, fun H1 s1 => ?_⟩
  rw [show letC r CS (c.1, c.2.1, c.2.2) = decide (c ∈ CS) from let_cell hc]
  by_cases inC : c ∈ CS
  · rw [decide_eq_true inC]
    repeat kaf_pre
    exact q H1 (But.of s1) ((R.same s1).congr fun x hx => ⟨fun m => List.mem_append_left _ m, fun m => (List.mem_append.mp m).elim id fun m => by rw [List.mem_singleton.mp m]; exact inC⟩)
  rw [decide_eq_false inC]
  have nr : c ∉ rowsL r CS := fun m => inC (rows_mem.mp m).2
  obtain ⟨P1, P2, e1, e2, lt1, lt2⟩ := put_rows r1 r4 hc nr
  have ho1 := s1 _ _ ho; have hd1 := s1 _ _ W.hd; have hl1 := s1 _ _ W.hl
  have kk1 := kk.same s1
  have kn1 := W.kn.same s1
  obtain ⟨dk, hk1⟩ := kk1.2
  have lks : ks.length ≤ 40 := by rw [W.kn.1]; exact rows_len r1 r4
  have lP : P1.length ≤ 40 := by have := rows_len r1 r4 (CS := CS); rw [e1, List.length_append] at this; omega
  have dle : kvs.length ≤ 40 := Nat.le_trans W.dof.le (rows_len r1 r4)
  have ad : a ≠ d := ne_of_objs ho W.hd fun e => by cases e
  have al : a ≠ l := ne_of_objs ho W.hl fun e => by cases e
  have dl : d ≠ l := ne_of_objs W.hd W.hl fun e => by cases e
  repeat kaf_pre
  refine ⟨size_of (by simp), fun p np => ?_⟩
  have s2 := same_new (o := HO.tup [.int c.1, .int c.2.1, .str c.2.2]) np
  have hp : upd H1 p (.tup [.int c.1, .int c.2.1, .str c.2.2]) p = some (.tup ((keyC c).map kV)) := upd_same
  refine ⟨d, _, rfl, DPut.t (s2 _ _ hd1) hp (size_lt (by omega)), ?_⟩
  have B2 : But [a, d, l] H (upd (upd H1 p (.tup [.int c.1, .int c.2.1, .str c.2.2])) d (.dT (putK kvs (keyC c) (.bl true)))) := (But.of (s1.trans s2)).set (.tail _ (.head _))
  have hd2 : upd (upd H1 p (.tup [.int c.1, .int c.2.1, .str c.2.2])) d (.dT (putK kvs (keyC c) (.bl true))) d = some (.dT (putK kvs (keyC c) (.bl true))) := upd_same
  have ho2 : upd (upd H1 p (.tup [.int c.1, .int c.2.1, .str c.2.2])) d (.dT (putK kvs (keyC c) (.bl true))) a = some (.ins Z.Rule dx (ruleF r d l)) := by rw [upd_ne ad]; exact s2 _ _ ho1
  have hl2 : upd (upd H1 p (.tup [.int c.1, .int c.2.1, .str c.2.2])) d (.dT (putK kvs (keyC c) (.bl true))) l = some (.lst ks) := by rw [upd_ne dl.symm]; exact s2 _ _ hl1
  generalize upd (upd H1 p (.tup [.int c.1, .int c.2.1, .str c.2.2])) d (.dT (putK kvs (keyC c) (.bl true))) = H2 at *
  have kk2 := R.mut.kin cf kk B2
  have kn2 := R.mut.kins cf W.kn B2
  clear hd1 hl1 ho1 s2 hp np kk1 kn1 hk1
  obtain ⟨dk, hk2⟩ := kk2.2
  repeat kaf_pre
  refine rd_cut (fun σ' H' => σ' = [some (.ref a), some (.ref k), some (.int (P1.length : Int))] ∧ Same H2 H') ?_ ?_
  · refine rd_while (m0 := P1.length) (fun m σ' H' => ∃ n : Nat, n ≤ P1.length ∧ m = P1.length - n ∧ σ' = [some (.ref a), some (.ref k), some (.int (n : Int))] ∧ Same H2 H') ⟨0, by omega, by omega, rfl, Same.refl _⟩ ?_
    rintro m σ' H3 ⟨n, hn, rfl, rfl, s3⟩
    have ho3 := s3 _ _ ho2; have hl3 := s3 _ _ hl2
    have kk3 := kk2.same s3
    have kl : ks.length = P1.length + P2.length := by rw [W.kn.1, e1, List.length_append]
    repeat kaf_pre
    refine rd_ite (fun c1 => ?_) (fun c1 => ?_)
    · have hlt : n < ks.length := by omega
      have g1 := List.getElem?_eq_getElem (l := ks) (i := n) hlt
      obtain ⟨k', c', ek, ec', kk'⟩ := (kn2.same s3).at g1
      rw [ek] at g1
      repeat kaf_pre
      obtain ⟨dk', hk'⟩ := kk'.2
      obtain ⟨dk3, hk3⟩ := kk3.2
      refine ⟨k', dk', _, k, dk3, _, rfl, rfl, hk', hk3, k', k, _, _, _, _, _, _, rfl, kk', kk3, fun H4 s4 => ?_⟩
      rw [e1] at ec'
      by_cases hp : n < P1.length
      · rw [List.getElem?_append_left hp] at ec'
        rw [lt1 c' (List.mem_of_getElem? ec')]
        repeat kaf_pre
        refine rd_turn ?_
        repeat kaf_pre
        refine ⟨P1.length - (n + 1), by omega, n + 1, by omega, rfl, rfl, s3.trans s4⟩
      · rw [List.getElem?_append_right (by omega)] at ec'
        rw [lt2 c' (List.mem_of_getElem? ec')]
        repeat kaf_pre
        obtain rfl : n = P1.length := by omega
        exact ⟨rfl, s3.trans s4⟩
    · repeat kaf_pre
      obtain rfl : n = P1.length := by omega
      exact ⟨rfl, s3⟩
  rintro σ' H3 ⟨rfl, s3⟩
  have ho3 := s3 _ _ ho2; have hl3 := s3 _ _ hl2
  repeat kaf_pre
  refine rd_insert hl3 (size_lt (by omega)) (by omega) (by omega) ?_
  repeat kaf_pre
  have B3 := B2.trans (But.of s3 : But [a, d, l] H2 H3)
  have B4 : But [a, d, l] H (upd H3 l (.lst (ks.take (P1.length : Int).toNat ++ [.ref k] ++ ks.drop (P1.length : Int).toNat))) := B3.set (.tail _ (.tail _ (.head _)))
  have mu3 : Mut Z H3 [l] := fun y m => by rw [List.mem_singleton.mp m]; exact .inl ⟨_, hl3⟩
  have B34 : But [l] H3 (upd H3 l (.lst (ks.take (P1.length : Int).toNat ++ [.ref k] ++ ks.drop (P1.length : Int).toNat))) := (But.refl _ _).set (.head _)
  refine q _ B4 ⟨dx, d, l, _, _, ⟨by rw [upd_ne al]; exact ho3, by rw [upd_ne dl]; exact s3 _ _ hd2, upd_same, ?_, ?_, r1, r4⟩, rfl⟩
  · rw [Int.toNat_natCast, e2]
    rw [Int.toNat_natCast] at B34
    have kn3 := mu3.kins cf (kn2.same s3) B34
    have t := kins_take kn3 P1.length
    have dr := kins_drop kn3 P1.length
    rw [e1, List.take_left] at t
    rw [e1, List.drop_left] at dr
    exact kins_app (kins_app t (kins_one (mu3.kin cf (kk2.same s3) B34))) dr
  · refine W.dof.put fun x => ?_
    rw [rows_mem, rows_mem, List.mem_append, List.mem_singleton]
    constructor
    · rintro ⟨h1, h2 | h2⟩
      · exact .inl ⟨h1, h2⟩
      · exact .inr h2
    · rintro (⟨h1, h2⟩ | rfl)
      · exact ⟨h1, .inl h2⟩
      · exact ⟨hc, .inr rfl⟩
/- slots of Rule.take: 0 self, 1 other, 2 cell -/
def t_Rule_take (K : PySem.W.Frag) (Z : Cs) : TS :=
  (tSeq (sFld K (tVar 0) (tFld K (tVar 1) "_reach") "_reach")
  (tSeq (sFld K (tVar 0) (tDcT (iAny K (tFld K (tVar 1) "_rows")) (gName 2) tYes (tTup (tCons (tFld K (tVar 2) "up") (tCons (tFld K (tVar 2) "down") (tCons (tFld K (tVar 2) "side") tNil)))) (tC (.bl true)) [2]) "_let")
  (sFld K (tVar 0) (tCB (rListOf K) (tCons (tFld K (tVar 1) "_rows") tNil)) "_rows")))
def spTake (Z : Cs) : Sp := fun vs H Q _ => ∃ (a b : Addr) (r1 r : Nat) (CS1 CS : List Cell) (A B : List Addr), vs = [.ref a, .ref b] ∧ a ≠ b ∧ Rul Z H a r1 CS1 A ∧ Rul Z H b r CS B ∧ ∀ A' H', But [a] H H' → Rul Z H' a r CS A' → (∀ y ∈ A', y = a ∨ H y = none) → Q .non H'
theorem len_Rule_take (K : PySem.W.Frag) {Z : Cs} {vs : List V} {H : Hp} {Q : VK} {E : XK} (h : spTake Z vs H Q E) : vs.length = 2 := by
  obtain ⟨a, b, r1, r, CS1, CS, A, B, rfl, _⟩ := h
  rfl
theorem rd_Rule_take (K : PySem.W.Frag) (Z : Cs) (cf : Cf K Z) (vs : List V) (H : Hp) (Q : VK) (E : XK) (h : spTake Z vs H Q E) : t_Rule_take K Z { nx := fun _ H' => Q .non H', rt := Q } (start ["self", "other", "cell"] vs) H := by
  obtain ⟨a, b, r1, r, CS1, CS, A, B, rfl, ab, RA, RB, q⟩ := h
  obtain ⟨dx, d, l, ha⟩ := RA.obj
  obtain ⟨dy, d2, l2, ks, kvs, W, rfl⟩ := RB
  have hb := W.obj
  have mu : Mut Z H [a] := fun y m => by rw [List.mem_singleton.mp m]; exact .inr (.inr ⟨_, _, ha⟩)
  have al : l2 ≠ a := ne_of_objs W.hl ha fun e => by cases e
  have lks : ks.length ≤ 40 := by rw [W.kn.1]; exact rows_len W.r1 W.r4
  unfold t_Rule_take
  repeat kaf_pre
  refine rd_putI ha inferInstance (by simp) ?_
  have B1 : But [a] H (upd H a (.ins Z.Rule dx (ruleF r d l))) := (But.refl _ _).set (.head _)
  have ha1 : upd H a (.ins Z.Rule dx (ruleF r d l)) a = some (.ins Z.Rule dx (ruleF r d l)) := upd_same
  have hb1 : upd H a (.ins Z.Rule dx (ruleF r d l)) b = some (.ins Z.Rule dy (ruleF r d2 l2)) := by rw [upd_ne ab.symm]; exact hb
  have hl1 : upd H a (.ins Z.Rule dx (ruleF r d l)) l2 = some (.lst ks) := by rw [upd_ne al]; exact W.hl
  rw [show putF ("_reach" : Str) (.int (r : Int)) (ruleF r1 d l) = ruleF r d l from rfl]
  generalize upd H a (.ins Z.Rule dx (ruleF r d l)) = H1 at *
  have kn1 := mu.kins cf W.kn B1
  repeat kaf_pre
  refine dcTL (SqL.of hl1) fun D nD => ⟨fun i H' => ∃ kv, H' D = some (.dT kv) ∧ Same H1 H' ∧ DOf kv ((rowsL r CS).take i), ⟨[], upd_same, same_new nD, DOf.nil⟩, fun i H' _ ⟨kv, _, s, _⟩ => SqL.of (s _ _ hl1), ?_, ?_⟩
  · rintro i x H2 hi ⟨kv, hD, s, dof⟩
    obtain ⟨k, c, rfl, ec, kk⟩ := kn1.at hi
    obtain ⟨dk, hk⟩ := (kk.same s).2
    refine ⟨wipe1 _ _ _, ?_⟩
    repeat kaf_pre
    refine ⟨size_of (by simp), fun p np => ?_⟩
    have s2 := same_new (o := HO.tup [.int c.1, .int c.2.1, .str c.2.2]) np
    have dle := dof.le
    have := (List.getElem?_eq_some_iff.mp hi).1
    rw [List.length_take] at dle
    repeat kaf_pre
    refine ⟨kv, keyC c, p, rfl, upd_same, s2 _ _ hD, size_lt (by omega), _, upd_same, same_mut (s.trans s2) nD, dof.put fun x => ?_⟩
    rw [take_end ec, List.mem_append, List.mem_singleton]
  · rintro H2 ⟨kv, hD, s, dof⟩
    rw [W.kn.1, List.take_length] at dof
    have ha2 := s _ _ ha1
    have hb2 := s _ _ hb1
    have hl2 := s _ _ hl1
    have Da : D ≠ a := fun e => by rw [e, ha1] at nD; cases nD
    have Db : D ≠ b := fun e => by rw [e, hb1] at nD; cases nD
    have fD : D = a ∨ H D = none := .inr (by
      cases e : H D with
      | none => rfl
      | some o => have := B1 D o (by simpa using Da) e; rw [nD] at this; cases this)
    have B2 : But [a] H H2 := B1.trans (But.of s)
    repeat kaf_pre
    refine rd_putI ha2 inferInstance (by simp) ?_
    have B3 : But [a] H (upd H2 a (.ins Z.Rule dx (ruleF r D l))) := B2.set (.head _)
    have ha3 : upd H2 a (.ins Z.Rule dx (ruleF r D l)) a = some (.ins Z.Rule dx (ruleF r D l)) := upd_same
    have hb3 : upd H2 a (.ins Z.Rule dx (ruleF r D l)) b = some (.ins Z.Rule dy (ruleF r d2 l2)) := by rw [upd_ne ab.symm]; exact hb2
    have hl3 : upd H2 a (.ins Z.Rule dx (ruleF r D l)) l2 = some (.lst ks) := by rw [upd_ne al]; exact hl2
    have hD3 : upd H2 a (.ins Z.Rule dx (ruleF r D l)) D = some (.dT kv) := by rw [upd_ne Da]; exact hD
    rw [show putF ("_let" : Str) (.ref D) (ruleF r d l) = ruleF r D l from rfl]
    generalize upd H2 a (.ins Z.Rule dx (ruleF r D l)) = H3 at *
    have kn3 := mu.kins cf W.kn B3
    repeat kaf_pre
    intro L nL
    have s4 := same_new (o := HO.lst ks) nL
    have La : L ≠ a := fun e => by rw [e, ha3] at nL; cases nL
    have fL : L = a ∨ H L = none := .inr (by
      cases e : H L with
      | none => rfl
      | some o => have := B3 L o (by simpa using La) e; rw [nL] at this; cases this)
    repeat kaf_pre
    refine rd_putI (s4 _ _ ha3) inferInstance (by simp) ?_
    repeat kaf_pre
    have B4 : But [a] H (upd H3 L (.lst ks)) := B3.trans (But.of s4)
    refine q [a, D, L] _ (B4.set (.head _)) ⟨dx, D, L, ks, kv, ⟨upd_same, by rw [upd_ne Da]; exact s4 _ _ hD3, by rw [upd_ne La]; exact upd_same, mu.kins cf W.kn (B4.set (.head _)), dof, W.r1, W.r4⟩, rfl⟩ fun y m => ?_
    rcases List.mem_cons.mp m with e | m
    · exact .inl e
    rcases List.mem_cons.mp m with e | m
    · rw [e]; exact fD
    · rw [List.mem_singleton.mp m]; exact fL
/- slots of joined: 0 left, 1 right, 2 word -/
def t_joined (K : PySem.W.Frag) : TS :=
  (tSeq (tIfS (tTest (tOp (rEqA K) (tVar 2) (tC (.str "or")))) (tRet (tOrV (tVar 0) (tVar 1))) tNext)
  (tSeq (tIfS (tTest (tOp (rEqA K) (tVar 2) (tC (.str "and")))) (tRet (tAndV (tVar 0) (tVar 1))) tNext)
  (tSeq (tIfS (tTest (tOp (rEqA K) (tVar 2) (tC (.str "less")))) (tRet (tAndV (tVar 0) (tNotV (tVar 1)))) tNext)
  (tRet (tOp (rNeA K) (tVar 0) (tVar 1))))))
/-! ### rules joined -/
def jnB (w : Str) (a b : Bool) : Bool := if w = "or" then a || b else if w = "and" then a && b else if w = "less" then a && !b else a != b
def spJoined : Sp := fun vs H Q _ => ∃ (a b : Bool) (w : Str), vs = [.bl a, .bl b, .str w] ∧ Q (.bl (jnB w a b)) H
theorem len_joined (K : PySem.W.Frag) {vs : List V} {H : Hp} {Q : VK} {E : XK} (h : spJoined vs H Q E) : vs.length = 3 := by
  obtain ⟨a, b, w, rfl, _⟩ := h
  rfl
theorem rd_joined (K : PySem.W.Frag) (vs : List V) (H : Hp) (Q : VK) (E : XK) (h : spJoined vs H Q E) : t_joined K { nx := fun _ H' => Q .non H', rt := Q } (start ["left", "right", "word"] vs) H := by
  obtain ⟨a, b, w, rfl, q⟩ := h
  unfold t_joined
  unfold jnB at q
  repeat kaf_pre
  refine rd_ite (fun c => ?_) (fun c => ?_)
  · rw [if_pos c] at q
    repeat kaf_pre
    cases a
    · repeat kaf_pre
      exact q
    · repeat kaf_pre
      exact q
  rw [if_neg c] at q
  repeat kaf_pre
  refine rd_ite (fun c => ?_) (fun c => ?_)
  · rw [if_pos c] at q
    repeat kaf_pre
    cases a
    · repeat kaf_pre
      exact q
    · repeat kaf_pre
      exact q
  rw [if_neg c] at q
  repeat kaf_pre
  refine rd_ite (fun c => ?_) (fun c => ?_)
  · rw [if_pos c] at q
    repeat kaf_pre
    cases a
    · repeat kaf_pre
      exact q
    · repeat kaf_pre
      exact q
  rw [if_neg c] at q
  repeat kaf_pre
  have e : (a != b) = !decide (a = b) := by cases a <;> cases b <;> rfl
  rw [e] at q
  exact q
/- slots of combined: 0 rule, 1 other, 2 word, 3 reach, 4 kins, 5 cell -/
def t_combined (K : PySem.W.Frag) (Z : Cs) (E : XK) : TS :=
  (tSeqC (tIfS (tTru K (tCB (rIsi K) (tCons (tVar 1) (tCons (tC (.ref Z.Kin)) tNil)))) (tAsg (tMakeT Z.Rule (starSp 2 (spRule Z)) (WE (fun cls d (_ : L2.St) H => E cls d H)) (tCons (tProp Z.Rule (spReach Z) [] E0 (tVar 0)) (tCons (tVar 1) tNil))) (gName 1)) tNext)
  (tSeq (tAsg (tProp Z.Rule (spReach Z) [] E0 (tVar 0)) (gName 3))
  (tSeqC (tIfS (tTest (tOp rGtI (tProp Z.Rule (spReach Z) [] E0 (tVar 1)) (tVar 3))) (tAsg (tProp Z.Rule (spReach Z) [] E0 (tVar 1)) (gName 3)) tNext)
  (tSeq (tAsg (tLc (iAny K (tCallS (spAllCells Z) (WE (fun cls d (_ : L2.St) H => E cls d H)) (tCons (tVar 3) tNil))) (gName 5) (tTru K (tCall (spJoined) [] E0 (tCons (tIxO Z.Rule (spRGet Z) (fun _ => E0) (tVar 0) (tVar 5)) (tCons (tIxO Z.Rule (spRGet Z) (fun _ => E0) (tVar 1) (tVar 5)) (tCons (tVar 2) tNil))))) (tVar 5) [5]) (gName 4))
  (tRet (tMakeT Z.Rule (starSp 2 (spRule Z)) (WE (fun cls d (_ : L2.St) H => E cls d H)) (tCons (tVar 3) (StX.tStar K (tVar 4) tNil))))))))
/-- the right one of two: a rule, or a kin that is not the self kin -/
def Opd (Z : Cs) (H : Hp) (o : Addr) (r r2 : Nat) (CS2 : List Cell) : Prop := (∃ B, Rul Z H o r2 CS2 B) ∨ ∃ u d s, KinAt Z H o u d s ∧ r2 = r ∧ CS2 = [capC r (u, d, s)] ∧ u + d ≠ 0
def maxR (r r2 : Nat) : Nat := if r < r2 then r2 else r
def jnL (w : Str) (r : Nat) (CS : List Cell) (r2 : Nat) (CS2 : List Cell) : List Cell := (cellsL (maxR r r2)).filter fun c => jnB w (letC r CS c) (letC r2 CS2 c)
def spCombined (Z : Cs) : Sp := fun vs H Q E => ∃ (a o : Addr) (w : Str) (r : Nat) (CS : List Cell) (A : List Addr), vs = [.ref a, .ref o, .str w] ∧ Rul Z H a r CS A ∧
  ((∃ r2 CS2, Opd Z H o r r2 CS2 ∧ ∀ x X H', (∀ y ∈ X, H y = none) → Same H H' → Rul Z H' x (maxR r r2) (jnL w r CS r2 CS2) X → Q (.ref x) H') ∨
   (∃ u d s, KinAt Z H o u d s ∧ u + d = 0 ∧ ErrS H E Z.BadCell (badCellF o)))
theorem len_combined (K : PySem.W.Frag) {Z : Cs} {vs : List V} {H : Hp} {Q : VK} {E : XK} (h : spCombined Z vs H Q E) : vs.length = 3 := by
  obtain ⟨a, o, w, r, CS, A, rfl, _⟩ := h
  rfl
theorem rd_combined (K : PySem.W.Frag) (Z : Cs) (cf : Cf K Z) (vs : List V) (H : Hp) (Q : VK) (E : XK) (h : spCombined Z vs H Q E) : t_combined K Z E { nx := fun _ H' => Q .non H', rt := Q } (start ["rule", "other", "word", "reach", "kins", "cell"] vs) H := by
  obtain ⟨a, o, w, r, CS, A, rfl, R, h⟩ := h
  obtain ⟨dx, d, l, ha⟩ := R.obj
  obtain ⟨r1, r4⟩ := R.bounds
  unfold t_combined
  repeat kaf_pre
  rcases h with ⟨r2, CS2, op, q⟩ | ⟨u, dn, s, ko, z, qe⟩
  rotate_left
  · obtain ⟨dk, hk⟩ := ko.2
    repeat (first | kaf_pre | refine rd_go ?_)
    refine ⟨a, r, CS, A, rfl, R, ?_⟩
    repeat kaf_pre
    exact make_rule_self (j := 0) r1 r4 (kins_one (c := (u, dn, s)) ko) (by simp) rfl rfl z (fun c m => by cases m) qe
  refine rd_cut (fun σ' H' => ∃ (o2 : Addr) (B : List Addr), σ' = [some (.ref a), some (.ref o2), some (.str w), none, none, none] ∧ Same H H' ∧ Rul Z H' o2 r2 CS2 B) ?_ ?_
  · rcases op with ⟨B, RB⟩ | ⟨u, dn, s, ko, e1, e2, nz⟩
    · obtain ⟨dy, d2, l2, ho⟩ := RB.obj
      repeat kaf_pre
      refine rd_isiN ho inferInstance cf.kk_Rule_Kin ?_
      repeat kaf_pre
      exact ⟨o, B, rfl, Same.refl _, RB⟩
    · subst e1 e2
      obtain ⟨dk, hk⟩ := ko.2
      repeat kaf_pre
      refine ⟨a, r2, CS, A, rfl, R, ?_⟩
      repeat kaf_pre
      refine make_ruleP (P := fun x H2 => _) r1 r4 (kins_one (c := (u, dn, s)) ko) (by simp) (fun c m => by rw [List.mem_singleton.mp m]; exact nz) fun x X H' f s1 RX => ?_
      repeat kaf_pre
      exact ⟨x, X, rfl, s1, RX⟩
  rintro σ' H1 ⟨o2, B, rfl, s1, RB⟩
  have R1 := R.same s1
  have ha1 := s1 _ _ ha
  obtain ⟨dy, d2, l2, ho⟩ := RB.obj
  obtain ⟨q1, q4⟩ := RB.bounds
  repeat kaf_pre
  refine ⟨a, r, CS, A, rfl, R1, ?_⟩
  refine rd_cut (fun σ' H' => σ' = [some (.ref a), some (.ref o2), some (.str w), some (.int ((maxR r r2 : Nat) : Int)), none, none] ∧ H' = H1) ?_ ?_
  · repeat kaf_pre
    refine ⟨o2, r2, CS2, B, rfl, RB, ?_⟩
    repeat kaf_pre
    refine rd_ite (fun c => ?_) (fun c => ?_)
    · repeat kaf_pre
      refine ⟨o2, r2, CS2, B, rfl, RB, ?_⟩
      have e : maxR r r2 = r2 := by unfold maxR; rw [if_pos (by omega)]
      rw [e]
      exact ⟨rfl, rfl⟩
    · repeat kaf_pre
      have e : maxR r r2 = r := by unfold maxR; rw [if_neg (by omega)]
      rw [e]
      exact ⟨rfl, rfl⟩
  rintro σ' H' ⟨rfl, rfl⟩
  have m1 : 1 ≤ maxR r r2 := by unfold maxR; split <;> omega
  have m4 : maxR r r2 ≤ 4 := by unfold maxR; split <;> omega
  repeat kaf_pre
  refine ⟨_, rfl, fun r' er _ _ l0 ks0 H2 nl0 hl0 hk0 s2 => ?_, fun z => absurd ⟨by omega, by omega⟩ z⟩
  obtain rfl : maxR r r2 = r' := by omega
  have R2 := R1.same s2
  have RB2 := RB.same s2
  have ha2 := s2 _ _ ha1
  have ho2 := s2 _ _ ho
  have cl := cells_len m1 m4
  refine lcKins (SqL.of hl0) hk0 (fun c => jnB w (letC r CS c) (letC r2 CS2 c)) (by omega) (fun j k c H3 ec kk s3 P pp => ?_) (fun k H5 R rr => ?_) fun l3 ks3 H3 nl s3 hl3 hk3 => ?_
  · repeat kaf_pre
    refine ⟨a, dx, _, rfl, s3 _ _ ha2, a, k, r, CS, A, _, _, _, rfl, R2.same s3, kk, fun H4 s4 => ?_⟩
    repeat kaf_pre
    refine ⟨o2, dy, _, rfl, s4 _ _ (s3 _ _ ho2), o2, k, r2, CS2, B, _, _, _, rfl, RB2.same (s3.trans s4), kk.same s4, fun H5 s5 => ?_⟩
    repeat kaf_pre
    refine ⟨_, _, w, rfl, ?_⟩
    repeat kaf_pre
    exact pp _ (s4.trans s5)
  · repeat kaf_pre
    exact rr
  · repeat kaf_pre
    refine ⟨l3, ks3, rfl, .inr (SqL.of hl3), ?_⟩
    repeat kaf_pre
    rw [List.append_nil]
    have lj : (jnL w r CS r2 CS2).length ≤ 40 := Nat.le_trans (List.length_filter_le _ _) cl
    refine make_ruleP (P := fun x H2 => _) m1 m4 hk3 (by show (jnL w r CS r2 CS2).length ≤ 1000; omega) (fun c m => by have := cells_pos m1 m4 c (List.mem_filter.mp m).1; omega) fun x X H4 f s4 RX => ?_
    rw [cap_map fun c m => (List.mem_filter.mp m).1] at RX
    have s13 := s1.trans (s2.trans s3)
    exact q x X H4 (fun y m => s13.free (f y m)) (s13.trans s4) RX
/- slots of Rule.__sub__: 0 self, 1 other -/
def t_Rule__sub_ (K : PySem.W.Frag) (Z : Cs) (E : XK) : TS :=
  (tSeq (tIfS (tNot (tTru K (tCB (rIsiT K) (tCons (tVar 1) (tCons (tTup (tCons (tC (.ref Z.Rule)) (tCons (tC (.ref Z.Kin)) tNil))) tNil))))) (tRet tNever) tNext)
  (tRet (tCallS (spCombined Z) (WE (fun cls d (_ : L2.St) H => E cls d H)) (tCons (tVar 0) (tCons (tVar 1) (tCons (tC (.str "less")) tNil))))))
def spRSub (Z : Cs) : Sp := fun vs H Q E => ∃ a o, vs = [.ref a, .ref o] ∧ spCombined Z [.ref a, .ref o, .str "less"] H Q E
theorem len_Rule__sub_ (K : PySem.W.Frag) {Z : Cs} {vs : List V} {H : Hp} {Q : VK} {E : XK} (h : spRSub Z vs H Q E) : vs.length = 2 := by
  obtain ⟨a, o, rfl, _⟩ := h
  rfl
/-- what combined asks stands when new things are made -/
theorem comb_same {Z : Cs} {a o : Addr} {w : Str} {H H1 : Hp} {Q : VK} {E : XK} (h : spCombined Z [.ref a, .ref o, .str w] H Q E) (s : Same H H1) : spCombined Z [.ref a, .ref o, .str w] H1 Q E := by
  obtain ⟨a, o, w, r, CS, A, e, R, h⟩ := h
  cases e
  refine ⟨a, o, w, r, CS, A, rfl, R.same s, h.imp ?_ ?_⟩
  · rintro ⟨r2, CS2, op, q⟩
    exact ⟨r2, CS2, op.imp (fun ⟨B, RB⟩ => ⟨B, RB.same s⟩) (fun ⟨u, d, t, k, e1, e2, z⟩ => ⟨u, d, t, k.same s, e1, e2, z⟩), fun x X H' f s1 RX => q x X H' (fun y m => s.free (f y m)) (s.trans s1) RX⟩
  · rintro ⟨u, d, t, k, z, qe⟩
    exact ⟨u, d, t, k.same s, z, qe.same s⟩
/-- the right one is a rule or a kin -/
theorem comb_kind {Z : Cs} {a o : Addr} {w : Str} {H : Hp} {Q : VK} {E : XK} (h : spCombined Z [.ref a, .ref o, .str w] H Q E) : (∃ dx fs, H o = some (.ins Z.Rule dx fs)) ∨ ∃ dx fs, H o = some (.ins Z.Kin dx fs) := by
  obtain ⟨a, o, w, r, CS, A, e, R, h⟩ := h
  cases e
  rcases h with ⟨r2, CS2, op, q⟩ | ⟨u, d, t, k, z, qe⟩
  · rcases op with ⟨B, RB⟩ | ⟨u, d, t, k, e1, e2, z⟩
    · obtain ⟨dx, d, l, ho⟩ := RB.obj
      exact .inl ⟨_, _, ho⟩
    · obtain ⟨dx, hk⟩ := k.2
      exact .inr ⟨_, _, hk⟩
  · obtain ⟨dx, hk⟩ := k.2
    exact .inr ⟨_, _, hk⟩
theorem rd_Rule__sub_ (K : PySem.W.Frag) (Z : Cs) (cf : Cf K Z) (vs : List V) (H : Hp) (Q : VK) (E : XK) (h : spRSub Z vs H Q E) : t_Rule__sub_ K Z E { nx := fun _ H' => Q .non H', rt := Q } (start ["self", "other"] vs) H := by
  obtain ⟨a, o, rfl, h⟩ := h
  unfold t_Rule__sub_
  repeat kaf_pre
  refine ⟨size_of (by simp), fun p np => ?_⟩
  have s := same_new (o := HO.tup [.ref Z.Rule, .ref Z.Kin]) np
  have hc := comb_same h s
  have hp := upd_same (H := H) (a := p) (o := HO.tup [.ref Z.Rule, .ref Z.Kin])
  repeat kaf_pre
  rcases comb_kind h with ⟨dx, fs, ho⟩ | ⟨dx, fs, ho⟩
  · refine rd_isiT1 (s _ _ ho) hp inferInstance ?_
    repeat kaf_pre
    exact hc
  · refine rd_isiT2 (s _ _ ho) hp inferInstance cf.kk_Kin_Rule ?_
    repeat kaf_pre
    exact hc
/- slots of Rule.__setitem__: 0 self, 1 kin, 2 worth -/
def t_Rule__setitem_ (K : PySem.W.Frag) (Z : Cs) (E : XK) : TS :=
  (tSeq (tIfS (tTru K (tProp Z.Kin (spIsSelf Z) [] E0 (tVar 1))) (tRsK Z.BadCell (ExL.errF ["kin"] "bad cell") 1 (fun cls d (_ : L2.St) H => E cls d H) (tCons (tVar 1) tNil)) tNext)
  (tIfS (tTru K (tVar 2)) (tDrop (tMethT Z.Rule "put" (spPut Z) (fun _ => E0) (tVar 0) (tCons (tOpS (rOpI Z.Kin (spMod K Z) (WE (fun cls d (_ : L2.St) H => E cls d H))) (tVar 1) (tFld K (tVar 0) "_reach")) tNil))) (tDrop (tMethT Z.Rule "take" (spTake Z) (fun _ => E0) (tVar 0) (tCons (tOpS (rOpX Z.Rule Z.Kin (spRSub Z) (WE (fun cls d (_ : L2.St) H => E cls d H))) (tVar 0) (tVar 1)) tNil)))))
/-! ### a rule's item is set -/
def setC (CS : List Cell) (c : Cell) (w : Bool) : List Cell := if w = true then CS ++ [c] else CS.filter fun x => !decide (x = c)
def spRSet (Z : Cs) : Sp := fun vs H Q E => ∃ (a k : Addr) (w : Bool) (r : Nat) (CS : List Cell) (A : List Addr) (c : Cell), vs = [.ref a, .ref k, .bl w] ∧ Rul Z H a r CS A ∧ KinAt Z H k c.1 c.2.1 c.2.2 ∧ (c.1 + c.2.1 = 0 → ErrTo H E Z.BadCell (badCellF k)) ∧
  (c.1 + c.2.1 ≠ 0 → ∀ A' H', But A H H' → Rul Z H' a r (setC CS (capC r c) w) A' → (∀ y ∈ A', y ∈ A ∨ H y = none) → Q .non H')
theorem len_Rule__setitem_ (K : PySem.W.Frag) {Z : Cs} {vs : List V} {H : Hp} {Q : VK} {E : XK} (h : spRSet Z vs H Q E) : vs.length = 3 := by
  obtain ⟨a, k, w, r, CS, A, c, rfl, _⟩ := h
  rfl
theorem rd_Rule__setitem_ (K : PySem.W.Frag) (Z : Cs) (cf : Cf K Z) (vs : List V) (H : Hp) (Q : VK) (E : XK) (h : spRSet Z vs H Q E) : t_Rule__setitem_ K Z E { nx := fun _ H' => Q .non H', rt := Q } (start ["self", "kin", "worth"] vs) H := by
  obtain ⟨a, k, w, r, CS, A, c, rfl, R, kk, qe, q⟩ := h
  obtain ⟨dx, d, l, ha⟩ := R.obj
  obtain ⟨dk, hk⟩ := kk.2
  obtain ⟨r1, r4⟩ := R.bounds
  unfold t_Rule__setitem_
  repeat kaf_pre
  refine ⟨k, _, _, _, rfl, kk, ?_⟩
  by_cases z : c.1 + c.2.1 = 0
  · repeat kaf_pre
    exact ⟨rfl, qe z⟩
  have q := q z
  have cm := cap_mem r1 (kinC_of kk.1) z
  repeat kaf_pre
  cases w with
  | true =>
    repeat kaf_pre
    refine ⟨k, dk, _, _, rfl, rfl, hk, k, _, _, _, _, rfl, kk, fun _ y dy ny ndy nyy => ?_, fun z => absurd z (by omega)⟩
    have s2 : Same H (upd (upd H dy (.own y)) y (.ins Z.Kin dy (kinF (cap c.1 r) (cap c.2.1 r) c.2.2))) := by kd_all
    have ky : KinAt Z (upd (upd H dy (.own y)) y (.ins Z.Kin dy (kinF (cap c.1 r) (cap c.2.1 r) c.2.2))) y (capC r c).1 (capC r c).2.1 (capC r c).2.2 := ⟨cap_ok kk.1 (by omega), dy, upd_same⟩
    have ha2 := s2 _ _ ha
    generalize upd (upd H dy (.own y)) y (.ins Z.Kin dy (kinF (cap c.1 r) (cap c.2.1 r) c.2.2)) = H2 at *
    repeat kaf_pre
    refine ⟨a, y, r, CS, A, capC r c, rfl, R.same s2, ky, cm, fun H3 B3 R3 => ?_⟩
    exact q A H3 ((But.of s2).trans B3) R3 fun y m => .inl m
  | false =>
    repeat kaf_pre
    refine ⟨a, dx, _, k, dk, _, rfl, rfl, ha, hk, a, k, rfl, a, k, "less", r, CS, A, rfl, R, .inl ⟨r, [capC r c], .inr ⟨_, _, _, kk, rfl, rfl, z⟩, fun x X H2 f s2 RX => ?_⟩⟩
    have ha2 := s2 _ _ ha
    have ax : a ≠ x := fun e => by have := f x RX.head; rw [← e, ha] at this; cases this
    have mr : maxR r r = r := by unfold maxR; split <;> rfl
    rw [mr] at RX
    have RX' : Rul Z H2 x r (CS.filter fun y => !decide (y = capC r c)) X := RX.congr fun y hy => by
      unfold jnL jnB
      rw [mr, List.mem_filter, List.mem_filter, let_cell hy, let_cell hy]
      have e1 : ("less" : Str) ≠ "or" := by decide +kernel
      have e2 : ("less" : Str) ≠ "and" := by decide +kernel
      simp [e1, e2, hy]
    repeat kaf_pre
    refine ⟨a, x, r, r, CS, _, A, X, rfl, ax, R.same s2, RX', fun A' H3 B3 R3 f3 => ?_⟩
    refine q A' H3 ((But.of s2).trans (fun y o n e => B3 y o (fun m => n (by rw [List.mem_singleton.mp m]; exact R.head)) e)) R3 fun y m => ?_
    rcases f3 y m with e | e
    · rw [e]; exact .inl R.head
    · exact .inr (s2.free e)
/- slots of Rule.__ior__: 0 self, 1 other -/
def t_Rule__ior_ (K : PySem.W.Frag) (Z : Cs) (E : XK) : TS :=
  (tSeq (tIfS (tNot (tTru K (tCB (rIsiT K) (tCons (tVar 1) (tCons (tTup (tCons (tC (.ref Z.Rule)) (tCons (tC (.ref Z.Kin)) tNil))) tNil))))) (tRet tNever) tNext)
  (tSeq (tDrop (tMethT Z.Rule "take" (spTake Z) (fun _ => E0) (tVar 0) (tCons (tCallS (spCombined Z) (WE (fun cls d (_ : L2.St) H => E cls d H)) (tCons (tVar 0) (tCons (tVar 1) (tCons (tC (.str "or")) tNil)))) tNil)))
  (tRet (tVar 0))))
/- slots of Rule.__iand__: 0 self, 1 other -/
def t_Rule__iand_ (K : PySem.W.Frag) (Z : Cs) (E : XK) : TS :=
  (tSeq (tIfS (tNot (tTru K (tCB (rIsiT K) (tCons (tVar 1) (tCons (tTup (tCons (tC (.ref Z.Rule)) (tCons (tC (.ref Z.Kin)) tNil))) tNil))))) (tRet tNever) tNext)
  (tSeq (tDrop (tMethT Z.Rule "take" (spTake Z) (fun _ => E0) (tVar 0) (tCons (tCallS (spCombined Z) (WE (fun cls d (_ : L2.St) H => E cls d H)) (tCons (tVar 0) (tCons (tVar 1) (tCons (tC (.str "and")) tNil)))) tNil)))
  (tRet (tVar 0))))
/-! ### rules changed in place -/
def spRIop (Z : Cs) (w : Str) : Sp := fun vs H Q E => ∃ (a o : Addr) (r : Nat) (CS : List Cell) (A : List Addr), vs = [.ref a, .ref o] ∧ Rul Z H a r CS A ∧
  ((∃ r2 CS2, Opd Z H o r r2 CS2 ∧ ∀ A' H', But [a] H H' → Rul Z H' a (maxR r r2) (jnL w r CS r2 CS2) A' → (∀ y ∈ A', y = a ∨ H y = none) → Q (.ref a) H') ∨
   (∃ u d s, KinAt Z H o u d s ∧ u + d = 0 ∧ ErrS H E Z.BadCell (badCellF o)))
abbrev spRIor (Z : Cs) : Sp := spRIop Z "or"
abbrev spRIand (Z : Cs) : Sp := spRIop Z "and"
abbrev spRIsub (Z : Cs) : Sp := spRIop Z "less"
abbrev spRIxor (Z : Cs) : Sp := spRIop Z "either"
theorem Opd.same {Z : Cs} {H H1 : Hp} {o : Addr} {r r2 : Nat} {CS2 : List Cell} (h : Opd Z H o r r2 CS2) (s : Same H H1) : Opd Z H1 o r r2 CS2 := h.imp (fun ⟨B, RB⟩ => ⟨B, RB.same s⟩) fun ⟨u, d, t, k, e1, e2, z⟩ => ⟨u, d, t, k.same s, e1, e2, z⟩
theorem iop_kind {Z : Cs} {a o : Addr} {w : Str} {H : Hp} {Q : VK} {E : XK} (h : spRIop Z w [.ref a, .ref o] H Q E) : (∃ dx fs, H o = some (.ins Z.Rule dx fs)) ∨ ∃ dx fs, H o = some (.ins Z.Kin dx fs) := by
  obtain ⟨a, o, r, CS, A, e, R, h⟩ := h
  cases e
  rcases h with ⟨r2, CS2, op, q⟩ | ⟨u, d, t, k, z, qe⟩
  · rcases op with ⟨B, RB⟩ | ⟨u, d, t, k, e1, e2, z⟩
    · obtain ⟨dx, d, l, ho⟩ := RB.obj
      exact .inl ⟨_, _, ho⟩
    · obtain ⟨dx, hk⟩ := k.2
      exact .inr ⟨_, _, hk⟩
  · obtain ⟨dx, hk⟩ := k.2
    exact .inr ⟨_, _, hk⟩
/-- what comes of the two, then taken -/
theorem iop_comb {Z : Cs} {a o : Addr} {w : Str} {H H1 : Hp} {Q Q' : VK} {E : XK} (h : spRIop Z w [.ref a, .ref o] H Q E) (s : Same H H1)
    (hq : ∀ x r1 r CS1 CS A X H2, a ≠ x → Same H H2 → Rul Z H2 a r1 CS1 A → Rul Z H2 x r CS X → (∀ A' H3, But [a] H2 H3 → Rul Z H3 a r CS A' → (∀ y ∈ A', y = a ∨ H2 y = none) → Q (.ref a) H3) → Q' (.ref x) H2) : spCombined Z [.ref a, .ref o, .str w] H1 Q' E := by
  obtain ⟨a, o, r, CS, A, e, R, h⟩ := h
  cases e
  refine ⟨a, o, w, r, CS, A, rfl, R.same s, h.imp ?_ ?_⟩
  · rintro ⟨r2, CS2, op, q⟩
    refine ⟨r2, CS2, op.same s, fun x X H' f s1 RX => ?_⟩
    obtain ⟨dx, d, l, ha⟩ := R.obj
    have ax : a ≠ x := fun e => by have := f x RX.head; rw [← e, s _ _ ha] at this; cases this
    have ss := s.trans s1
    refine hq x _ _ _ _ A X H' ax ss (R.same ss) RX fun A' H3 B3 R3 f3 => q A' H3 (fun y o n e => B3 y o n (ss _ _ e)) R3 fun y m => (f3 y m).imp id fun e => ss.free e
  · rintro ⟨u, d, t, k, z, qe⟩
    exact ⟨u, d, t, k.same s, z, qe.same s⟩
theorem len_Rule__ior_ (K : PySem.W.Frag) {Z : Cs} {vs : List V} {H : Hp} {Q : VK} {E : XK} (h : spRIor Z vs H Q E) : vs.length = 2 := by
  obtain ⟨a, o, _, _, _, rfl, _⟩ := h
  rfl
theorem rd_Rule__ior_ (K : PySem.W.Frag) (Z : Cs) (cf : Cf K Z) (vs : List V) (H : Hp) (Q : VK) (E : XK) (h : spRIor Z vs H Q E) : t_Rule__ior_ K Z E { nx := fun _ H' => Q .non H', rt := Q } (start ["self", "other"] vs) H := by
  obtain ⟨a, o, rfl⟩ : ∃ a o, vs = [.ref a, .ref o] := by
    obtain ⟨a, o, r, CS, A, e, _⟩ := h
    exact ⟨a, o, e⟩
  have ha : ∃ dx r d l, H a = some (.ins Z.Rule dx (ruleF r d l)) := by
    obtain ⟨a, o, r, CS, A, e, R, _⟩ := h
    cases e
    obtain ⟨dx, d, l, ha⟩ := R.obj
    exact ⟨_, _, _, _, ha⟩
  obtain ⟨da, fr, fd, fl, ha⟩ := ha
  unfold t_Rule__ior_
  repeat kaf_pre
  refine ⟨size_of (by simp), fun p np => ?_⟩
  have s := same_new (o := HO.tup [.ref Z.Rule, .ref Z.Kin]) np
  have hp := upd_same (H := H) (a := p) (o := HO.tup [.ref Z.Rule, .ref Z.Kin])
  have ha1 := s _ _ ha
  repeat kaf_pre
  rcases iop_kind h with ⟨dx, fs, ho⟩ | ⟨dx, fs, ho⟩
  · refine rd_isiT1 (s _ _ ho) hp inferInstance ?_
    repeat kaf_pre
    refine iop_comb h s fun x r1 r CS1 CS A X H2 ax s2 RA RX q => ?_
    repeat kaf_pre
    refine ⟨a, x, r1, r, CS1, CS, A, X, rfl, ax, RA, RX, fun A' H3 B3 R3 f3 => ?_⟩
    repeat kaf_pre
    exact q A' H3 B3 R3 f3
  · refine rd_isiT2 (s _ _ ho) hp inferInstance cf.kk_Kin_Rule ?_
    repeat kaf_pre
    refine iop_comb h s fun x r1 r CS1 CS A X H2 ax s2 RA RX q => ?_
    repeat kaf_pre
    refine ⟨a, x, r1, r, CS1, CS, A, X, rfl, ax, RA, RX, fun A' H3 B3 R3 f3 => ?_⟩
    repeat kaf_pre
    exact q A' H3 B3 R3 f3
theorem len_Rule__iand_ (K : PySem.W.Frag) {Z : Cs} {vs : List V} {H : Hp} {Q : VK} {E : XK} (h : spRIand Z vs H Q E) : vs.length = 2 := by
  obtain ⟨a, o, _, _, _, rfl, _⟩ := h
  rfl
theorem rd_Rule__iand_ (K : PySem.W.Frag) (Z : Cs) (cf : Cf K Z) (vs : List V) (H : Hp) (Q : VK) (E : XK) (h : spRIand Z vs H Q E) : t_Rule__iand_ K Z E { nx := fun _ H' => Q .non H', rt := Q } (start ["self", "other"] vs) H := by
  obtain ⟨a, o, rfl⟩ : ∃ a o, vs = [.ref a, .ref o] := by
    obtain ⟨a, o, r, CS, A, e, _⟩ := h
    exact ⟨a, o, e⟩
  have ha : ∃ dx r d l, H a = some (.ins Z.Rule dx (ruleF r d l)) := by
    obtain ⟨a, o, r, CS, A, e, R, _⟩ := h
    cases e
    obtain ⟨dx, d, l, ha⟩ := R.obj
    exact ⟨_, _, _, _, ha⟩
  obtain ⟨da, fr, fd, fl, ha⟩ := ha
  unfold t_Rule__iand_
  repeat kaf_pre
  refine ⟨size_of (by simp), fun p np => ?_⟩
  have s := same_new (o := HO.tup [.ref Z.Rule, .ref Z.Kin]) np
  have hp := upd_same (H := H) (a := p) (o := HO.tup [.ref Z.Rule, .ref Z.Kin])
  have ha1 := s _ _ ha
  repeat kaf_pre
  rcases iop_kind h with ⟨dx, fs, ho⟩ | ⟨dx, fs, ho⟩
  · refine rd_isiT1 (s _ _ ho) hp inferInstance ?_
    repeat kaf_pre
    refine iop_comb h s fun x r1 r CS1 CS A X H2 ax s2 RA RX q => ?_
    repeat kaf_pre
    refine ⟨a, x, r1, r, CS1, CS, A, X, rfl, ax, RA, RX, fun A' H3 B3 R3 f3 => ?_⟩
    repeat kaf_pre
    exact q A' H3 B3 R3 f3
  · refine rd_isiT2 (s _ _ ho) hp inferInstance cf.kk_Kin_Rule ?_
    repeat kaf_pre
    refine iop_comb h s fun x r1 r CS1 CS A X H2 ax s2 RA RX q => ?_
    repeat kaf_pre
    refine ⟨a, x, r1, r, CS1, CS, A, X, rfl, ax, RA, RX, fun A' H3 B3 R3 f3 => ?_⟩
    repeat kaf_pre
    exact q A' H3 B3 R3 f3
/- slots of Rule.__eq__: 0 self, 1 other -/
def t_Rule__eq_ (K : PySem.W.Frag) (Z : Cs) : TS :=
  (tSeq (tIfS (tNot (tTru K (tCB (rIsi K) (tCons (tVar 1) (tCons (tC (.ref Z.Rule)) tNil))))) (tRet tNever) tNext)
  (tRet (tOp (rEqA K) (tCB (rLenO Z.Rule (spRLen Z) E0) (tCons (tCallS (spCombined Z) (WE (fun _ _ _ _ => False)) (tCons (tVar 0) (tCons (tVar 1) (tCons (tC (.str "either")) tNil)))) tNil)) (tC (.int 0)))))
/- slots of Rule.__le__: 0 self, 1 other -/
def t_Rule__le_ (K : PySem.W.Frag) (Z : Cs) : TS :=
  (tSeq (tIfS (tNot (tTru K (tCB (rIsi K) (tCons (tVar 1) (tCons (tC (.ref Z.Rule)) tNil))))) (tRet tNever) tNext)
  (tRet (tOp (rEqA K) (tCB (rLenO Z.Rule (spRLen Z) E0) (tCons (tCallS (spCombined Z) (WE (fun _ _ _ _ => False)) (tCons (tVar 0) (tCons (tVar 1) (tCons (tC (.str "less")) tNil)))) tNil)) (tC (.int 0)))))
/- slots of Rule.__lt__: 0 self, 1 other -/
def t_Rule__lt_ (K : PySem.W.Frag) (Z : Cs) : TS :=
  (tSeq (tIfS (tNot (tTru K (tCB (rIsi K) (tCons (tVar 1) (tCons (tC (.ref Z.Rule)) tNil))))) (tRet tNever) tNext)
  (tRet (tAndV (tOp (rEqA K) (tCB (rLenO Z.Rule (spRLen Z) E0) (tCons (tCallS (spCombined Z) (WE (fun _ _ _ _ => False)) (tCons (tVar 0) (tCons (tVar 1) (tCons (tC (.str "less")) tNil)))) tNil)) (tC (.int 0))) (tOp rGtI (tCB (rLenO Z.Rule (spRLen Z) E0) (tCons (tCallS (spCombined Z) (WE (fun _ _ _ _ => False)) (tCons (tVar 1) (tCons (tVar 0) (tCons (tC (.str "less")) tNil)))) tNil)) (tC (.int 0))))))
/-! ### rules compared -/
def emJ (w : Str) (r : Nat) (CS : List Cell) (r2 : Nat) (CS2 : List Cell) : Bool := (jnL w r CS r2 CS2).isEmpty
theorem rows_jn {m : Nat} {p : Cell → Bool} : rowsL m ((cellsL m).filter p) = (cellsL m).filter p := by
  unfold rowsL
  refine List.filter_congr fun c hc => ?_
  rw [Bool.eq_iff_iff, decide_eq_true_eq, List.mem_filter]
  exact ⟨fun h => h.2, fun h => ⟨hc, h⟩⟩
theorem len_jn (w : Str) (r : Nat) (CS : List Cell) (r2 : Nat) (CS2 : List Cell) : decide (((rowsL (maxR r r2) (jnL w r CS r2 CS2)).length : Int) = 0) = emJ w r CS r2 CS2 := by
  unfold jnL
  rw [rows_jn]
  show _ = ((cellsL (maxR r r2)).filter _).isEmpty
  cases (cellsL (maxR r r2)).filter fun c => jnB w (letC r CS c) (letC r2 CS2 c) with
  | nil => rfl
  | cons x y => rw [decide_eq_false]; rfl; rw [List.length_cons]; omega
theorem pos_jn (w : Str) (r : Nat) (CS : List Cell) (r2 : Nat) (CS2 : List Cell) : decide (((rowsL (maxR r r2) (jnL w r CS r2 CS2)).length : Int) > 0) = !emJ w r CS r2 CS2 := by
  rw [← len_jn]
  generalize (rowsL (maxR r r2) (jnL w r CS r2 CS2)).length = n
  cases n with
  | zero => rfl
  | succ n => rw [decide_eq_true (by omega), decide_eq_false (by omega)]; rfl
theorem jn_len {r r2 : Nat} (r1 : 1 ≤ r) (r4 : r ≤ 4) (q1 : 1 ≤ r2) (q4 : r2 ≤ 4) (CS : List Cell) : (rowsL (maxR r r2) CS).length ≤ 40 := rows_len (by unfold maxR; split <;> omega) (by unfold maxR; split <;> omega)
def spREq (Z : Cs) : Sp := fun vs H Q _ => ∃ (a o : Addr) (r r2 : Nat) (CS CS2 : List Cell) (A B : List Addr), vs = [.ref a, .ref o] ∧ Rul Z H a r CS A ∧ Rul Z H o r2 CS2 B ∧ ∀ H', Same H H' → Q (.bl (emJ "either" r CS r2 CS2)) H'
def spRLe (Z : Cs) : Sp := fun vs H Q _ => ∃ (a o : Addr) (r r2 : Nat) (CS CS2 : List Cell) (A B : List Addr), vs = [.ref a, .ref o] ∧ Rul Z H a r CS A ∧ Rul Z H o r2 CS2 B ∧ ∀ H', Same H H' → Q (.bl (emJ "less" r CS r2 CS2)) H'
def spRLt (Z : Cs) : Sp := fun vs H Q _ => ∃ (a o : Addr) (r r2 : Nat) (CS CS2 : List Cell) (A B : List Addr), vs = [.ref a, .ref o] ∧ Rul Z H a r CS A ∧ Rul Z H o r2 CS2 B ∧ ∀ H', Same H H' → Q (.bl (emJ "less" r CS r2 CS2 && !emJ "less" r2 CS2 r CS)) H'
theorem len_Rule__eq_ (K : PySem.W.Frag) {Z : Cs} {vs : List V} {H : Hp} {Q : VK} {E : XK} (h : spREq Z vs H Q E) : vs.length = 2 := by
  obtain ⟨a, o, r, r2, CS, CS2, A, B, rfl, _⟩ := h
  rfl
theorem rd_Rule__eq_ (K : PySem.W.Frag) (Z : Cs) (cf : Cf K Z) (vs : List V) (H : Hp) (Q : VK) (E : XK) (h : spREq Z vs H Q E) : t_Rule__eq_ K Z { nx := fun _ H' => Q .non H', rt := Q } (start ["self", "other"] vs) H := by
  obtain ⟨a, o, r, r2, CS, CS2, A, B, rfl, R, O, q⟩ := h
  obtain ⟨dx, d, l, ho⟩ := O.obj
  obtain ⟨r1, r4⟩ := R.bounds
  obtain ⟨q1, q4⟩ := O.bounds
  unfold t_Rule__eq_
  repeat kaf_pre
  refine ⟨a, o, _, r, CS, A, rfl, R, .inl ⟨r2, CS2, .inl ⟨B, O⟩, fun x X H1 fX s1 RX => ?_⟩⟩
  obtain ⟨dX, d2, l2, hx⟩ := RX.obj
  have nl := jn_len r1 r4 q1 q4 (jnL "either" r CS r2 CS2)
  repeat kaf_pre
  refine rd_lenO hx ⟨x, _, _, X, rfl, RX, _, rfl, by omega, by omega, ?_⟩
  repeat kaf_pre
  rw [len_jn]
  exact q H1 s1
theorem len_Rule__le_ (K : PySem.W.Frag) {Z : Cs} {vs : List V} {H : Hp} {Q : VK} {E : XK} (h : spRLe Z vs H Q E) : vs.length = 2 := by
  obtain ⟨a, o, r, r2, CS, CS2, A, B, rfl, _⟩ := h
  rfl
theorem rd_Rule__le_ (K : PySem.W.Frag) (Z : Cs) (cf : Cf K Z) (vs : List V) (H : Hp) (Q : VK) (E : XK) (h : spRLe Z vs H Q E) : t_Rule__le_ K Z { nx := fun _ H' => Q .non H', rt := Q } (start ["self", "other"] vs) H := by
  obtain ⟨a, o, r, r2, CS, CS2, A, B, rfl, R, O, q⟩ := h
  obtain ⟨dx, d, l, ho⟩ := O.obj
  obtain ⟨r1, r4⟩ := R.bounds
  obtain ⟨q1, q4⟩ := O.bounds
  unfold t_Rule__le_
  repeat kaf_pre
  refine ⟨a, o, _, r, CS, A, rfl, R, .inl ⟨r2, CS2, .inl ⟨B, O⟩, fun x X H1 fX s1 RX => ?_⟩⟩
  obtain ⟨dX, d2, l2, hx⟩ := RX.obj
  have nl := jn_len r1 r4 q1 q4 (jnL "less" r CS r2 CS2)
  repeat kaf_pre
  refine rd_lenO hx ⟨x, _, _, X, rfl, RX, _, rfl, by omega, by omega, ?_⟩
  repeat kaf_pre
  rw [len_jn]
  exact q H1 s1
theorem len_Rule__lt_ (K : PySem.W.Frag) {Z : Cs} {vs : List V} {H : Hp} {Q : VK} {E : XK} (h : spRLt Z vs H Q E) : vs.length = 2 := by
  obtain ⟨a, o, r, r2, CS, CS2, A, B, rfl, _⟩ := h
  rfl
theorem rd_Rule__lt_ (K : PySem.W.Frag) (Z : Cs) (cf : Cf K Z) (vs : List V) (H : Hp) (Q : VK) (E : XK) (h : spRLt Z vs H Q E) : t_Rule__lt_ K Z { nx := fun _ H' => Q .non H', rt := Q } (start ["self", "other"] vs) H := by
  obtain ⟨a, o, r, r2, CS, CS2, A, B, rfl, R, O, q⟩ := h
  obtain ⟨dx, d, l, ho⟩ := O.obj
  obtain ⟨r1, r4⟩ := R.bounds
  obtain ⟨q1, q4⟩ := O.bounds
  unfold t_Rule__lt_
  repeat kaf_pre
  refine ⟨a, o, _, r, CS, A, rfl, R, .inl ⟨r2, CS2, .inl ⟨B, O⟩, fun x X H1 fX s1 RX => ?_⟩⟩
  obtain ⟨dX, d2, l2, hx⟩ := RX.obj
  have nl := jn_len r1 r4 q1 q4 (jnL "less" r CS r2 CS2)
  repeat kaf_pre
  refine rd_lenO hx ⟨x, _, _, X, rfl, RX, _, rfl, by omega, by omega, ?_⟩
  repeat kaf_pre
  rw [len_jn]
  cases h1 : emJ "less" r CS r2 CS2 with
  | false =>
    rw [h1] at q
    repeat kaf_pre
    exact q H1 s1
  | true =>
    rw [h1] at q
    repeat kaf_pre
    refine ⟨o, a, _, r2, CS2, B, rfl, O.same s1, .inl ⟨r, CS, .inl ⟨A, R.same s1⟩, fun y Y H2 fY s2 RY => ?_⟩⟩
    obtain ⟨dY, d3, l3, hy⟩ := RY.obj
    have nl := jn_len q1 q4 r1 r4 (jnL "less" r2 CS2 r CS)
    repeat kaf_pre
    refine rd_lenO hy ⟨y, _, _, Y, rfl, RY, _, rfl, by omega, by omega, ?_⟩
    repeat kaf_pre
    rw [pos_jn]
    exact q H2 (s1.trans s2)
/- slots of union: 0 rules, 1 result, 2 rule -/
def t_union (K : PySem.W.Frag) (Z : Cs) : TS :=
  (tSeq (tAsg (tClsM Z.Rule (spNoneR Z) (WE (fun _ _ _ _ => False)) (tC (.ref Z.Rule)) (tCons (tC (.int 1)) tNil)) (gName 1))
  (tSeq (tFor (iAny K (tVar 0)) (gName 2) (tAugO Z.Rule (spRIor Z) (WE (fun _ _ _ _ => False)) 1 (tVar 2)))
  (tRet (tVar 1))))
/- slots of cut: 0 rules, 1 result, 2 rule -/
def t_cutR (K : PySem.W.Frag) (Z : Cs) : TS :=
  (tSeq (tAsg (tClsM Z.Rule (spFullR Z) (WE (fun _ _ _ _ => False)) (tC (.ref Z.Rule)) (tCons (tC (.int 1)) tNil)) (gName 1))
  (tSeq (tFor (iAny K (tVar 0)) (gName 2) (tAugO Z.Rule (spRIand Z) (WE (fun _ _ _ _ => False)) 1 (tVar 2)))
  (tRet (tVar 1))))
/-! ### the union and the cut of rules -/
structure RR where
  a : Addr
  r : Nat
  CS : List Cell
  A : List Addr
def stepJ (w : Str) (x : Nat × List Cell) (y : RR) : Nat × List Cell := (maxR x.1 y.r, jnL w x.1 x.2 y.r y.CS)
def foldJ (w : Str) (x : Nat × List Cell) (ys : List RR) : Nat × List Cell := ys.foldl (stepJ w) x
def RulsAt (Z : Cs) (H : Hp) (ys : List RR) : Prop := ∀ y ∈ ys, Rul Z H y.a y.r y.CS y.A
theorem RulsAt.same {Z : Cs} {H H' : Hp} {ys : List RR} (h : RulsAt Z H ys) (s : Same H H') : RulsAt Z H' ys := fun y m => (h y m).same s
def spUnion (Z : Cs) : Sp := fun vs H Q _ => ∃ (t : Addr) (ys : List RR), vs = [.ref t] ∧ H t = some (.tup (ys.map fun y => .ref y.a)) ∧ RulsAt Z H ys ∧ ys.length ≤ 1000 ∧ ∀ x X H', (∀ y ∈ X, H y = none) → Same H H' → Rul Z H' x (foldJ "or" (1, []) ys).1 (foldJ "or" (1, []) ys).2 X → Q (.ref x) H'
def spCut (Z : Cs) : Sp := fun vs H Q _ => ∃ (t : Addr) (ys : List RR), vs = [.ref t] ∧ H t = some (.tup (ys.map fun y => .ref y.a)) ∧ RulsAt Z H ys ∧ ys.length ≤ 1000 ∧ ∀ x X H', (∀ y ∈ X, H y = none) → Same H H' → Rul Z H' x (foldJ "and" (1, cellsL 1) ys).1 (foldJ "and" (1, cellsL 1) ys).2 X → Q (.ref x) H'
theorem len_union (K : PySem.W.Frag) {Z : Cs} {vs : List V} {H : Hp} {Q : VK} {E : XK} (h : spUnion Z vs H Q E) : vs.length = 1 := by
  obtain ⟨t, ys, rfl, _⟩ := h
  rfl
theorem rd_union (K : PySem.W.Frag) (Z : Cs) (cf : Cf K Z) (vs : List V) (H : Hp) (Q : VK) (E : XK) (h : spUnion Z vs H Q E) : t_union K Z { nx := fun _ H' => Q .non H', rt := Q } (start ["rules", "result", "rule"] vs) H := by
  obtain ⟨t, ys, rfl, ht, hy, ly, q⟩ := h
  unfold t_union
  repeat kaf_pre
  refine ⟨1, rfl, fun r' er _ _ x X H1 fX s1 RX => ?_, fun z => absurd ⟨by omega, by omega⟩ z⟩
  obtain rfl : r' = 1 := by omega
  repeat kaf_pre
  refine forT (xs := ys.map fun y => V.ref y.a) (SqT.of (s1 _ _ ht)) (fun i σ' H' => ∃ (v2 : Option V) (X : List Addr), σ' = [some (.ref t), some (.ref x), v2] ∧ Same H H' ∧ (∀ y ∈ X, H y = none) ∧ Rul Z H' x (foldJ "or" (1, []) (ys.take i)).1 (foldJ "or" (1, []) (ys.take i)).2 X)
    ⟨_, X, rfl, s1, fX, RX⟩ (fun i σ' H' _ ⟨_, _, _, s, _⟩ => SqT.of (s _ _ ht)) ?_ ?_
  · rintro i v σ' H2 hi ⟨v2, X, rfl, s2, fX, RX⟩
    obtain ⟨y, ey, rfl⟩ := at_map hi
    have my := List.mem_of_getElem? ey
    obtain ⟨dx, d, l, hx⟩ := RX.obj
    repeat kaf_pre
    refine ⟨x, dx, _, rfl, hx, x, y.a, _, _, X, rfl, RX, .inl ⟨y.r, y.CS, .inl ⟨y.A, (hy y my).same s2⟩, fun X' H3 B3 R3 f3 => ?_⟩⟩
    repeat kaf_pre
    have nx := fX x RX.head
    refine ⟨_, X', rfl, same_drop s2 B3 (fun z m => by rw [List.mem_singleton.mp m]; exact nx), fun z m => ?_, ?_⟩
    · rcases f3 z m with e | e
      · rw [e]; exact nx
      · exact s2.free e
    · rw [take_end ey]
      unfold foldJ
      rw [List.foldl_append]
      exact R3
  · rintro σ' H2 ⟨v2, X, rfl, s2, fX, RX⟩
    rw [List.length_map, List.take_length] at RX
    repeat kaf_pre
    exact q x X H2 fX s2 RX
theorem len_cutR (K : PySem.W.Frag) {Z : Cs} {vs : List V} {H : Hp} {Q : VK} {E : XK} (h : spCut Z vs H Q E) : vs.length = 1 := by
  obtain ⟨t, ys, rfl, _⟩ := h
  rfl
theorem rd_cutR (K : PySem.W.Frag) (Z : Cs) (cf : Cf K Z) (vs : List V) (H : Hp) (Q : VK) (E : XK) (h : spCut Z vs H Q E) : t_cutR K Z { nx := fun _ H' => Q .non H', rt := Q } (start ["rules", "result", "rule"] vs) H := by
  obtain ⟨t, ys, rfl, ht, hy, ly, q⟩ := h
  unfold t_cutR
  repeat kaf_pre
  refine ⟨1, rfl, fun r' er _ _ x X H1 fX s1 RX => ?_, fun z => absurd ⟨by omega, by omega⟩ z⟩
  obtain rfl : r' = 1 := by omega
  repeat kaf_pre
  refine forT (xs := ys.map fun y => V.ref y.a) (SqT.of (s1 _ _ ht)) (fun i σ' H' => ∃ (v2 : Option V) (X : List Addr), σ' = [some (.ref t), some (.ref x), v2] ∧ Same H H' ∧ (∀ y ∈ X, H y = none) ∧ Rul Z H' x (foldJ "and" (1, cellsL 1) (ys.take i)).1 (foldJ "and" (1, cellsL 1) (ys.take i)).2 X)
    ⟨_, X, rfl, s1, fX, RX⟩ (fun i σ' H' _ ⟨_, _, _, s, _⟩ => SqT.of (s _ _ ht)) ?_ ?_
  · rintro i v σ' H2 hi ⟨v2, X, rfl, s2, fX, RX⟩
    obtain ⟨y, ey, rfl⟩ := at_map hi
    have my := List.mem_of_getElem? ey
    obtain ⟨dx, d, l, hx⟩ := RX.obj
    repeat kaf_pre
    refine ⟨x, dx, _, rfl, hx, x, y.a, _, _, X, rfl, RX, .inl ⟨y.r, y.CS, .inl ⟨y.A, (hy y my).same s2⟩, fun X' H3 B3 R3 f3 => ?_⟩⟩
    repeat kaf_pre
    have nx := fX x RX.head
    refine ⟨_, X', rfl, same_drop s2 B3 (fun z m => by rw [List.mem_singleton.mp m]; exact nx), fun z m => ?_, ?_⟩
    · rcases f3 z m with e | e
      · rw [e]; exact nx
      · exact s2.free e
    · rw [take_end ey]
      unfold foldJ
      rw [List.foldl_append]
      exact R3
  · rintro σ' H2 ⟨v2, X, rfl, s2, fX, RX⟩
    rw [List.length_map, List.take_length] at RX
    repeat kaf_pre
    exact q x X H2 fX s2 RX
/- slots of _law_kin: 0 parts -/
def t_law_kin (K : PySem.W.Frag) (Z : Cs) : TS :=
  (tRet (tMakeT Z.Kin (spKin K Z) (WE (fun _ _ _ _ => False)) (tCons (tOp (rIx K) (tVar 0) (tC (.int 0))) (tCons (tOp (rIx K) (tVar 0) (tC (.int 1))) (tCons (tOp (rIx K) (tVar 0) (tC (.int 2))) tNil)))))
def spMkKin (K : PySem.W.Frag) (Z : Cs) : Sp := fun vs H Q _ => ∃ (p : Addr) (u d : Int) (s : Str), vs = [.ref p] ∧ SqT K H p [.int u, .int d, .str s] ∧ kinOk u d s = true ∧ NewKin Z H Q u d s
theorem len_law_kin (K : PySem.W.Frag) {Z : Cs} {vs : List V} {H : Hp} {Q : VK} {E : XK} (h : spMkKin K Z vs H Q E) : vs.length = 1 := by
  obtain ⟨p, u, d, s, rfl, _⟩ := h
  rfl
theorem rd_law_kin (K : PySem.W.Frag) (Z : Cs) (cf : Cf K Z) (vs : List V) (H : Hp) (Q : VK) (E : XK) (h : spMkKin K Z vs H Q E) : t_law_kin K Z { nx := fun _ H' => Q .non H', rt := Q } (start ["parts"] vs) H := by
  obtain ⟨p, u, d, s, rfl, hp, ok, q⟩ := h
  unfold t_law_kin
  repeat kaf_pre
  exact make_kin ok q
/- slots of _law_cells: 0 reach, 1 cells, 2 far, 3 up, 4 side -/
def t_law_cells (K : PySem.W.Frag) (Z : Cs) : TS :=
  (tSeq (tAsg (tLst tNil) (gName 1))
  (tSeq (tFor (iRng2 (tCons (tC (.int 1)) (tCons (tOp (rAddA K) (tOp rMulA (tC (.int 2)) (tVar 0)) (tC (.int 1))) tNil))) (gName 2) (tFor (iRng1 (tCons (tOp (rAddA K) (tVar 0) (tC (.int 1))) tNil)) (gName 3) (tIfS (tTest (tChain rLeI rLeI (tC (.int 0)) (tOp rSubI (tVar 2) (tVar 3)) (tVar 0))) (tFor (iAny K (tCall (spSides) [] E0 (tCons (tVar 3) (tCons (tOp rSubI (tVar 2) (tVar 3)) tNil)))) (gName 4) (tDrop (tBM K "list" rAppend (tVar 1) (tCons (tTup (tCons (tVar 3) (tCons (tOp rSubI (tVar 2) (tVar 3)) (tCons (tVar 4) tNil)))) tNil)))) tNext)))
  (tRet (tVar 1))))
/-! ### the law's cells -/
def spCells : Sp := fun vs H Q _ => ∃ r : Nat, vs = [.int (r : Int)] ∧ r ≤ 4 ∧ ∀ l ts H', H l = none → H' l = some (.lst ts) → TupsAt H' ts (cellsL r) → Same H H' → Q (.ref l) H'
theorem len_law_cells (K : PySem.W.Frag) {vs : List V} {H : Hp} {Q : VK} {E : XK} (h : spCells vs H Q E) : vs.length = 1 := by
  obtain ⟨r, rfl, _⟩ := h
  rfl
theorem rd_law_cells (K : PySem.W.Frag) (Z : Cs) (cf : Cf K Z) (vs : List V) (H : Hp) (Q : VK) (E : XK) (h : spCells vs H Q E) : t_law_cells K Z { nx := fun _ H' => Q .non H', rt := Q } (start ["reach", "cells", "far", "up", "side"] vs) H := by
  obtain ⟨r, rfl, hr, q⟩ := h
  unfold t_law_cells
  repeat kaf_pre
  refine ⟨size_of (by simp), fun l nl => ?_⟩
  repeat kaf_pre
  refine forR2 (n := 2 * r) (by omega) (by omega) (by omega) (by omega) (fun i σ' H' => ∃ (v2 v3 v4 : Option V) (ts : List V), σ' = [some (.int (r : Int)), some (.ref l), v2, v3, v4] ∧ H' l = some (.lst ts) ∧ TupsAt H' ts (cellsTo r i) ∧ Same H H')
    ⟨_, _, _, [], rfl, upd_same, ⟨rfl, fun i v c e => by simp at e⟩, same_new nl⟩ ?_ ?_
  · rintro i σ' H1 hi ⟨v2, v3, v4, ts, rfl, hl, hk, s1⟩
    repeat kaf_pre
    refine forR (n := r + 1) rfl (by omega) (fun j σ' H' => ∃ (v3 v4 : Option V) (ts : List V), σ' = [some (.int (r : Int)), some (.ref l), some (.int (1 + (i : Int))), v3, v4] ∧ H' l = some (.lst ts) ∧ TupsAt H' ts (cellsTo r i ++ rowTo r (1 + (i : Int)) j) ∧ Same H H')
      ⟨_, _, ts, rfl, hl, by simpa [rowTo] using hk, s1⟩ ?_ ?_
    · rintro j σ' H2 hj ⟨v3, v4, ts, rfl, hl, hk, s2⟩
      have cap := cells_cap (r := r) (i := i) (j := j) hr (by omega) (by omega)
      have lks : ts.length ≤ 200 := by rw [hk.1]; exact cap
      by_cases c : 0 ≤ 1 + (i : Int) - (j : Int) ∧ 1 + (i : Int) - (j : Int) ≤ r
      · have c1 := c.1
        have c2 := c.2
        have ca : cellsAt r (1 + (i : Int)) j = (sidesL (j : Int) (1 + (i : Int) - j)).map (fun (s : Str) => (((j : Int), 1 + (i : Int) - j, s) : Cell)) := by unfold cellsAt; rw [if_pos c]; rfl
        repeat kaf_pre
        refine ⟨_, _, rfl, fun sl nsl => ?_⟩
        have sll : (sidesL (j : Int) (1 + (i : Int) - j)).length ≤ 2 := by unfold sidesL; split <;> simp
        have hl3 := same_new (o := HO.lst ((sidesL (j : Int) (1 + (i : Int) - j)).map V.str)) nsl _ _ hl
        have lsl : l ≠ sl := ne_of_none hl nsl
        have s3 := s2.trans (same_new (o := HO.lst ((sidesL (j : Int) (1 + (i : Int) - j)).map V.str)) nsl)
        have hk3 := hk.same (same_new (o := HO.lst ((sidesL (j : Int) (1 + (i : Int) - j)).map V.str)) nsl)
        have hsl := upd_same (H := H2) (a := sl) (o := .lst ((sidesL (j : Int) (1 + (i : Int) - j)).map V.str))
        generalize upd H2 sl (HO.lst ((sidesL (j : Int) (1 + (i : Int) - j)).map V.str)) = H3 at *
        repeat kaf_pre
        refine forL (xs := (sidesL (j : Int) (1 + (i : Int) - j)).map V.str) (SqL.of hsl) (fun n σ' H' => ∃ (v4 : Option V) (ts : List V), σ' = [some (.int (r : Int)), some (.ref l), some (.int (1 + (i : Int))), some (.int (j : Int)), v4] ∧ H' l = some (.lst ts) ∧ H' sl = some (.lst ((sidesL (j : Int) (1 + (i : Int) - j)).map V.str)) ∧ TupsAt H' ts (cellsTo r i ++ rowTo r (1 + (i : Int)) j ++ ((sidesL (j : Int) (1 + (i : Int) - j)).take n).map (fun (s : Str) => (((j : Int), 1 + (i : Int) - j, s) : Cell))) ∧ Same H H')
          ⟨_, ts, rfl, hl3, hsl, by simpa using hk3, s3⟩ (fun n σ' H' _ h => by obtain ⟨v4, ts, _, _, h, _⟩ := h; exact SqL.of h) ?_ ?_
        · rintro n x σ' H4 hn ⟨v4, ts', rfl, hl, hsl, hk, s4⟩
          obtain ⟨s, hs, rfl⟩ := at_map hn
          have ln : n < 2 := by have := (List.getElem?_eq_some_iff.mp hs).1; omega
          have lts : ts'.length ≤ 210 := by rw [hk.1, List.length_append, List.length_map, List.length_take]; omega
          repeat kaf_pre
          refine ⟨size_of (by simp), fun t nt => ?_⟩
          obtain ⟨g1, g2⟩ := hk.grow (H := H) (u := (j : Int)) (d := 1 + (i : Int) - j) (s := s) hl nt
          repeat kaf_pre
          refine rd_append (by kcf_m) (size_lt (by omega)) ?_
          repeat kaf_pre
          refine ⟨_, _, rfl, upd_same, ?_, ?_, g2 s4 nl⟩
          · rw [upd_ne lsl.symm, upd_ne (ne_of_none hsl nt)]; exact hsl
          · rw [take_end hs, List.map_append, ← List.append_assoc]
            exact g1
        · rintro σ' H4 ⟨v4, ts', rfl, hl, hsl, hk, s4⟩
          rw [List.length_map, List.take_length] at hk
          exact ⟨_, _, ts', rfl, hl, by rw [rowTo_succ, ← List.append_assoc, ca]; exact hk, s4⟩
      · have ca : cellsAt r (1 + (i : Int)) j = [] := by unfold cellsAt; rw [if_neg c]
        have fin : ∃ (v3 v4' : Option V) (ts : List V), [some (.int (r : Int)), some (.ref l), some (.int (1 + (i : Int))), some (.int (j : Int)), v4] = [some (.int (r : Int)), some (.ref l), some (.int (1 + (i : Int))), v3, v4'] ∧ H2 l = some (.lst ts) ∧ TupsAt H2 ts (cellsTo r i ++ rowTo r (1 + (i : Int)) (j + 1)) ∧ Same H H2 :=
          ⟨_, _, ts, rfl, hl, by rw [rowTo_succ, ca, List.append_nil]; exact hk, s2⟩
        by_cases c1 : 0 ≤ 1 + (i : Int) - (j : Int)
        · have c2 : ¬ 1 + (i : Int) - (j : Int) ≤ r := fun z => c ⟨c1, z⟩
          repeat kaf_pre
          exact fin
        · repeat kaf_pre
          exact fin
    · rintro σ' H2 ⟨v3, v4, ts, rfl, hl, hk, s2⟩
      exact ⟨_, _, _, ts, rfl, hl, by rw [cellsTo_succ]; exact hk, s2⟩
  · rintro σ' H1 ⟨v2, v3, v4, ts, rfl, hl, hk, s1⟩
    repeat kaf_pre
    exact q l ts H1 nl hl hk s1
/- slots of _law_parts: 0 state, 1 most, 2 up, 3 down, 4 sides -/
def t_law_parts (K : PySem.W.Frag) : TS :=
  (tSeq (tAsg (tCall (spDraw) [] E0 (tCons (tVar 0) (tCons (tOp (rAddA K) (tVar 1) (tC (.int 1))) tNil))) (gName 2))
  (tSeq (tAsg (tCall (spDraw) [] E0 (tCons (tVar 0) (tCons (tOp (rAddA K) (tVar 1) (tC (.int 1))) tNil))) (gName 3))
  (tSeq (tAsg (tCall (spSides) [] E0 (tCons (tVar 2) (tCons (tVar 3) tNil))) (gName 4))
  (tRet (tTup (tCons (tVar 2) (tCons (tVar 3) (tCons (tOp (rIx K) (tVar 4) (tCall (spDraw) [] E0 (tCons (tVar 0) (tCons (tCB (rLenK K) (tCons (tVar 4) tNil)) tNil)))) tNil))))))))
/-! ### k02: the law's helpers -/
def spParts : Sp := fun vs H Q _ => ∃ (st : Addr) (m : Int) (sc : Addr) (ns : List Int) (a : Nat) (b c d : Int), vs = [.ref st, .int m] ∧ 0 ≤ m ∧ m ≤ 999 ∧ H st = some (StO sc a b c d) ∧ H sc = some (.lst (ns.map V.int)) ∧
  ∀ (r : Addr) (u w : Int) (s : Str) (a : Nat) (b c d : Int) (H' : Hp), H r = none → H' r = some (.tup [.int u, .int w, .str s]) → kinOk u w s = true → H' st = some (StO sc a b c d) → But [st] H H' → Q (.ref r) H'
theorem len_law_parts (K : PySem.W.Frag) {vs : List V} {H : Hp} {Q : VK} {E : XK} (h : spParts vs H Q E) : vs.length = 2 := by
  obtain ⟨st, m, sc, ns, a, b, c, d, rfl, _⟩ := h
  rfl
theorem rd_law_parts (K : PySem.W.Frag) (vs : List V) (H : Hp) (Q : VK) (E : XK) (h : spParts vs H Q E) : t_law_parts K { nx := fun _ H' => Q .non H', rt := Q } (start ["state", "most", "up", "down", "sides"] vs) H := by
  obtain ⟨st, m, sc, ns, a, b, c, d, rfl, m0, m1, hst, hsc, q⟩ := h
  have ne := st_ne hst hsc
  unfold t_law_parts
  repeat kaf_pre
  refine ⟨st, _, sc, ns, a, b, c, d, rfl, by omega, by omega, hst, hsc, fun u a b c d H2 u0 u1 hst2 B2 => ?_⟩
  repeat kaf_pre
  refine ⟨st, _, sc, ns, a, b, c, d, rfl, by omega, by omega, hst2, But.off B2 _ _ ne hsc, fun w a b c d H3 w0 w1 hst3 B3 => ?_⟩
  repeat kaf_pre
  have B23 := B2.trans B3
  refine ⟨u, w, rfl, fun p np => ?_⟩
  have stp : st ≠ p := ne_of_none hst3 np
  have scp : sc ≠ p := ne_of_none (But.off B23 _ _ ne hsc) np
  have sl : 0 < (sidesL u w).length ∧ (sidesL u w).length ≤ 2 := by unfold sidesL; split <;> simp
  repeat kaf_pre
  refine ⟨st, _, sc, ns, a, b, c, d, rfl, by rw [List.length_map]; omega, by rw [List.length_map]; omega, by kcf_m, by rw [upd_ne scp]; exact But.off B23 _ _ ne hsc, fun k a b c d H4 k0 k1 hst4 B4 => ?_⟩
  rw [List.length_map] at k1
  obtain ⟨j, rfl⟩ := Int.eq_ofNat_of_zero_le k0
  have hj : j < (sidesL u w).length := by omega
  have hp4 : H4 p = some (.lst ((sidesL u w).map V.str)) := But.off B4 _ _ stp.symm upd_same
  refine rd_ixL (SqL.of hp4) (atI_nat (map_at (List.getElem?_eq_getElem hj))) ?_
  repeat kaf_pre
  have B24 : But [st] H H4 := (B23.new (st_none B23 hst3 np)).trans B4
  refine ⟨size_of (by simp), fun r nr => ?_⟩
  exact q r u w _ a b c d _ (st_none B24 hst4 nr) upd_same (sides_ok (by omega) (by omega) (List.getElem_mem hj)) (by kcf_m) (B24.new (st_none B24 hst4 nr))
/- slots of _law_capped: 0 parts, 1 reach -/
def t_law_capped (K : PySem.W.Frag) : TS :=
  (tRet (tTup (tCons (tCB rMin2 (tCons (tCB rInt1 (tCons (tOp (rIx K) (tVar 0) (tC (.int 0))) tNil)) (tCons (tVar 1) tNil))) (tCons (tCB rMin2 (tCons (tCB rInt1 (tCons (tOp (rIx K) (tVar 0) (tC (.int 1))) tNil)) (tCons (tVar 1) tNil))) (tCons (tOp (rIx K) (tVar 0) (tC (.int 2))) tNil)))))
theorem min_cap (u r : Int) : (if r < u then r else u) = cap u r := by unfold cap; split <;> split <;> omega
def spLCapped (K : PySem.W.Frag) : Sp := fun vs H Q _ => ∃ (p : Addr) (u d : Int) (s : Str) (r : Int), vs = [.ref p, .int r] ∧ SqT K H p [.int u, .int d, .str s] ∧ ∀ q, H q = none → Q (.ref q) (upd H q (.tup [.int (cap u r), .int (cap d r), .str s]))
theorem len_law_capped (K : PySem.W.Frag) {vs : List V} {H : Hp} {Q : VK} {E : XK} (h : spLCapped K vs H Q E) : vs.length = 2 := by
  obtain ⟨p, u, d, s, r, rfl, _⟩ := h
  rfl
theorem rd_law_capped (K : PySem.W.Frag) (vs : List V) (H : Hp) (Q : VK) (E : XK) (h : spLCapped K vs H Q E) : t_law_capped K { nx := fun _ H' => Q .non H', rt := Q } (start ["parts", "reach"] vs) H := by
  obtain ⟨p, u, d, s, r, rfl, hp, q⟩ := h
  unfold t_law_capped
  repeat kaf_pre
  rw [min_cap, min_cap]
  exact ⟨size_of (by simp), q⟩
/-! ### the law's look at rules -/
def cellD (c : Cell) : PyData := .tuple [.int c.1, .int c.2.1, .str c.2.2]
def sideOk (c : Cell) : Prop := c.2.2 = "line" ∨ c.2.2 = "elder" ∨ c.2.2 = "younger"
theorem side_kin {c : Cell} (k : KinC c) : sideOk c := by
  by_cases z : c.1 = 0 ∨ c.2.1 = 0
  · exact .inl (k.2.2.1 z)
  · exact .inr (k.2.2.2 z)
theorem dpa_cells {K : PySem.W.Frag} {H : Hp} : ∀ {ts : List V} {CS : List Cell}, TupsAt H ts CS → DpAll K H ts (CS.map cellD)
  | [], [], _ => .nil
  | [], _ :: _, h => by have := h.1; cases this
  | _ :: _, [], h => by have := h.1; cases this
  | v :: ts, c :: CS, h => by
    obtain ⟨t, e, ht⟩ := h.2 0 v c rfl rfl
    subst e
    refine .cons (.tup (SqT.of ht) (.cons (.int _) (.cons (.int _) (.cons (.str _) .nil)))) (dpa_cells ⟨by have := h.1; simpa using this, fun i v c e1 e2 => h.2 (i + 1) v c (by simpa using e1) (by simpa using e2)⟩)
theorem eqvC (a b : Cell) : PyData.eqv (cellD a) (cellD b) = decide (a = b) := by
  obtain ⟨u, d, s⟩ := a
  obtain ⟨u', d', s'⟩ := b
  unfold cellD
  simp only [PyData.eqv, PyData.eqvAll, Bool.and_true]
  rw [Bool.eq_iff_iff]
  simp
theorem any_cells (CS : List Cell) (c : Cell) : ((CS.map cellD).any fun z => PyData.eqv z (cellD c)) = decide (c ∈ CS) := by
  rw [List.any_map, Bool.eq_iff_iff, List.any_eq_true, decide_eq_true_eq]
  simp only [Function.comp, eqvC, decide_eq_true_eq]
  exact ⟨fun ⟨x, m, e⟩ => e ▸ m, fun m => ⟨c, m, rfl⟩⟩
theorem lay_cell {c : Cell} (h : sideOk c) : (cellD c).canLay0 = true := by
  unfold cellD
  simp only [PyData.canLay0, PyData.canLayAll0, Bool.and_true, Bool.true_and]
  rcases h with h | h | h <;> rw [h] <;> decide +kernel
theorem lay_cells : ∀ {CS : List Cell}, (∀ c ∈ CS, sideOk c) → PyData.canLayAll0 (CS.map cellD) = true
  | [], _ => rfl
  | c :: CS, h => by
    rw [List.map_cons]
    unfold PyData.canLayAll0
    rw [lay_cell (h c (.head _)), lay_cells fun c m => h c (.tail _ m)]
    rfl
theorem depth_cells : ∀ CS : List Cell, PyData.depthAll (CS.map cellD) ≤ 2
  | [] => by decide
  | c :: r => by
    have := depth_cells r
    have e : PyData.depth (cellD c) ≤ 2 := by unfold cellD; simp [PyData.depth, PyData.depthAll]
    rw [List.map_cons]
    exact Nat.max_le.mpr ⟨e, this⟩
theorem shaped_cell {c : Cell} (h : sideOk c) : SeqAt.shaped (cellD c) = true := by
  refine Bool.and_eq_true_iff.mpr ⟨lay_cell h, decide_eq_true ?_⟩
  unfold cellD
  simp [PyData.depth, PyData.depthAll]
theorem shaped_cells {CS : List Cell} (h : ∀ c ∈ CS, sideOk c) : SeqAt.shaped (.list (CS.map cellD)) = true := by
  refine Bool.and_eq_true_iff.mpr ⟨lay_cells h, decide_eq_true ?_⟩
  have := depth_cells CS
  show PyData.depthAll (CS.map cellD) + 1 ≤ 64
  omega
theorem dp_cell {K : PySem.W.Frag} {H : Hp} {p : Addr} {c : Cell} (h : H p = some (.tup [.int c.1, .int c.2.1, .str c.2.2])) : Dp K H (.ref p) (cellD c) := .tup (SqT.of h) (.cons (.int _) (.cons (.int _) (.cons (.str _) .nil)))
theorem rd_inC2 {K : PySem.W.Frag} {H : Hp} {Q : VK} {p l : Addr} {ts : List V} {CS : List Cell} {c : Cell} (hp : H p = some (.tup [.int c.1, .int c.2.1, .str c.2.2])) (hl : H l = some (.lst ts)) (ht : TupsAt H ts CS) (so : sideOk c) (sc : ∀ c ∈ CS, sideOk c) (q : Q (.bl (decide (c ∈ CS))) H) : rInD K (.ref p) (.ref l) H Q :=
  rd_inD (dp_cell hp) (.lst (SqL.of hl) (dpa_cells ht)) (shaped_cell so) (shaped_cells sc) (by rw [any_cells]; exact q)
theorem rd_notInC2 {K : PySem.W.Frag} {H : Hp} {Q : VK} {p l : Addr} {ts : List V} {CS : List Cell} {c : Cell} (hp : H p = some (.tup [.int c.1, .int c.2.1, .str c.2.2])) (hl : H l = some (.lst ts)) (ht : TupsAt H ts CS) (so : sideOk c) (sc : ∀ c ∈ CS, sideOk c) (q : Q (.bl (!decide (c ∈ CS))) H) : rNotInD K (.ref p) (.ref l) H Q :=
  rd_notInD (dp_cell hp) (.lst (SqL.of hl) (dpa_cells ht)) (shaped_cell so) (shaped_cells sc) (by rw [any_cells]; exact q)
theorem lcTups {K : PySem.W.Frag} {σ : L2.St} {H : Hp} {Q : VK} {j : Nat} {tt : TT} {te : TE} {a : Addr} {ts : List V} {cs : List Cell} (hx : SqL K H a ts) (hk : TupsAt H ts cs) (p : Cell → Bool) (hz : cs.length ≤ 100000)
    (ht : ∀ (i : Nat) (k : Addr) (c : Cell) (H1 : Hp), cs[i]? = some c → H1 k = some (.tup [.int c.1, .int c.2.1, .str c.2.2]) → Same H H1 → ∀ R : Bool → Hp → Prop, (∀ H2, Same H1 H2 → R (p c) H2) → tt ((wipe σ [j]).set j (some (.ref k))) H1 R)
    (he : ∀ (k : Addr) (H1 : Hp) (R : VK), R (.ref k) H1 → te ((wipe σ [j]).set j (some (.ref k))) H1 R)
    (q : ∀ (Dd : Addr) (ts' : List V) (H' : Hp), H Dd = none → Same H H' → H' Dd = some (.lst ts') → TupsAt H' ts' (cs.filter p) → Q (.ref Dd) H') : LcA K (.ref a) (gName j) tt te [j] σ H Q := by
  have hx' : SqL K H a ((ts.zip cs).map (·.1)) := by rw [zip_fst hk.1]; exact hx
  refine lcGs hx' (fun q => p q.2) (·.1) (by have := List.length_zip (l₁ := ts) (l₂ := cs); omega) (fun i y H1 hy s R r => ?_) (fun i y H1 hy hp s R r => ?_) fun Dd H' hD s hd => ?_
  · obtain ⟨e1, e2⟩ := mem_zip_at hy
    obtain ⟨k, ek, kk⟩ := hk.2 i _ _ e1 e2
    rw [ek]
    exact ht i k y.2 H1 e2 (s _ _ kk) s R r
  · obtain ⟨e1, e2⟩ := mem_zip_at hy
    obtain ⟨k, ek, kk⟩ := hk.2 i _ _ e1 e2
    simp only [ek] at r ⊢
    exact he k H1 R (r H1 (Same.refl _))
  · have hk' := hk.same s
    exact q Dd _ H' hD s hd (rows_filt hk'.1 hk'.2 p)
theorem tups_app {H : Hp} {ks js : List V} {cs ds : List Cell} (h : TupsAt H ks cs) (g : TupsAt H js ds) : TupsAt H (ks ++ js) (cs ++ ds) := ⟨by rw [List.length_append, List.length_append, h.1, g.1], fun i v c e1 e2 => by
  by_cases hi : i < ks.length
  · rw [List.getElem?_append_left hi] at e1
    rw [List.getElem?_append_left (by rw [← h.1]; exact hi)] at e2
    exact h.2 i v c e1 e2
  · rw [List.getElem?_append_right (by omega)] at e1
    rw [List.getElem?_append_right (by have := h.1; omega), ← h.1] at e2
    exact g.2 _ v c e1 e2⟩
theorem tups_one {H : Hp} {k : Addr} {c : Cell} (h : H k = some (.tup [.int c.1, .int c.2.1, .str c.2.2])) : TupsAt H [.ref k] [c] := ⟨rfl, fun i v d e1 e2 => by
  match i, e1, e2 with
  | 0, e1, e2 => cases e1; cases e2; exact ⟨k, rfl, h⟩
  | i + 1, e1, e2 => simp at e1⟩
theorem tups_nil {H : Hp} : TupsAt H [] [] := ⟨rfl, fun i v c e => by simp at e⟩
theorem tups_cons {H : Hp} {k : Addr} {c : Cell} {ks : List V} {cs : List Cell} (h : H k = some (.tup [.int c.1, .int c.2.1, .str c.2.2])) (g : TupsAt H ks cs) : TupsAt H (.ref k :: ks) (c :: cs) := tups_app (tups_one h) g
theorem TupsAt.at {H : Hp} {ks : List V} {cs : List Cell} (h : TupsAt H ks cs) {i : Nat} {x : V} (e : ks[i]? = some x) : ∃ k c, x = .ref k ∧ cs[i]? = some c ∧ H k = some (.tup [.int c.1, .int c.2.1, .str c.2.2]) := by
  have hi := (List.getElem?_eq_some_iff.mp e).1
  have e2 := List.getElem?_eq_getElem (l := cs) (i := i) (by rw [← h.1]; exact hi)
  obtain ⟨k, ek, hk⟩ := h.2 i x _ e e2
  exact ⟨k, _, ek, e2, hk⟩
theorem TupsAt.of {H : Hp} {ks : List V} {cs : List Cell} (h : TupsAt H ks cs) {i : Nat} {c : Cell} (e : cs[i]? = some c) : ∃ k, ks[i]? = some (.ref k) ∧ H k = some (.tup [.int c.1, .int c.2.1, .str c.2.2]) := by
  have hi := (List.getElem?_eq_some_iff.mp e).1
  have e2 := List.getElem?_eq_getElem (l := ks) (i := i) (by rw [h.1]; exact hi)
  obtain ⟨k, ek, hk⟩ := h.2 i _ c e2 e
  exact ⟨k, by rw [e2, ek], hk⟩
/- slots of _law_lets: 0 reach, 1 cells, 2 parts -/
def t_law_lets (K : PySem.W.Frag) : TS :=
  (tRet (tOp (rInD K) (tCall (spLCapped K) [] E0 (tCons (tVar 2) (tCons (tVar 0) tNil))) (tVar 1)))
def spLLets (K : PySem.W.Frag) : Sp := fun vs H Q _ => ∃ (r : Nat) (cl p : Addr) (ts : List V) (CS : List Cell) (c : Cell), vs = [.int (r : Int), .ref cl, .ref p] ∧ H cl = some (.lst ts) ∧ TupsAt H ts CS ∧ H p = some (.tup [.int c.1, .int c.2.1, .str c.2.2]) ∧ sideOk c ∧ (∀ c ∈ CS, sideOk c) ∧
  ∀ H', Same H H' → Q (.bl (decide (capC r c ∈ CS))) H'
theorem len_law_lets (K : PySem.W.Frag) {vs : List V} {H : Hp} {Q : VK} {E : XK} (h : spLLets K vs H Q E) : vs.length = 3 := by
  obtain ⟨r, cl, p, ts, CS, c, rfl, _⟩ := h
  rfl
theorem rd_law_lets (K : PySem.W.Frag) (vs : List V) (H : Hp) (Q : VK) (E : XK) (h : spLLets K vs H Q E) : t_law_lets K { nx := fun _ H' => Q .non H', rt := Q } (start ["reach", "cells", "parts"] vs) H := by
  obtain ⟨r, cl, p, ts, CS, c, rfl, hcl, hts, hp, so, sc, q⟩ := h
  unfold t_law_lets
  repeat kaf_pre
  refine ⟨p, _, _, _, _, rfl, SqT.of hp, fun t nt => ?_⟩
  have s1 := same_new (o := HO.tup [.int (cap c.1 r), .int (cap c.2.1 r), .str c.2.2]) nt
  repeat kaf_pre
  exact rd_inC2 (c := capC r c) upd_same (s1 _ _ hcl) (hts.same s1) so sc (q _ s1)
/- slots of _law_reach: 0 state -/
def t_law_reach (K : PySem.W.Frag) : TS :=
  (tRet (tOp (rIx K) (tLst (tCons (tC (.int 2)) (tCons (tC (.int 1)) (tCons (tC (.int 3)) (tCons (tC (.int 2)) (tCons (tC (.int 1)) (tCons (tC (.int 2)) (tCons (tC (.int 1)) (tCons (tC (.int 3)) (tCons (tC (.int 2)) (tCons (tC (.int 1)) (tCons (tC (.int 2)) (tCons (tC (.int 3)) (tCons (tC (.int 2)) (tCons (tC (.int 1)) (tCons (tC (.int 2)) (tCons (tC (.int 4)) tNil))))))))))))))))) (tCall (spDraw) [] E0 (tCons (tVar 0) (tCons (tC (.int 16)) tNil)))))
/-! ### drawn reaches, cells, rules of them -/
def spLReach : Sp := fun vs H Q _ => ∃ (st sc : Addr) (ns : List Int) (a : Nat) (b c d : Int), vs = [.ref st] ∧ H st = some (StO sc a b c d) ∧ H sc = some (.lst (ns.map V.int)) ∧
  ∀ (r a : Nat) (b c d : Int) (H' : Hp), 1 ≤ r → r ≤ 4 → H' st = some (StO sc a b c d) → But [st] H H' → Q (.int (r : Int)) H'
theorem len_law_reach (K : PySem.W.Frag) {vs : List V} {H : Hp} {Q : VK} {E : XK} (h : spLReach vs H Q E) : vs.length = 1 := by
  obtain ⟨st, sc, ns, a, b, c, d, rfl, _⟩ := h
  rfl
theorem But.sameL {M : List Addr} {H H1 H2 : Hp} (s : Same H H1) (b : But M H1 H2) : But M H H2 := fun y o n e => b y o n (s _ _ e)
theorem But.sameR {M : List Addr} {H H1 H2 : Hp} (b : But M H H1) (s : Same H1 H2) : But M H H2 := fun y o n e => s _ _ (b y o n e)
theorem rd_law_reach (K : PySem.W.Frag) (vs : List V) (H : Hp) (Q : VK) (E : XK) (h : spLReach vs H Q E) : t_law_reach K { nx := fun _ H' => Q .non H', rt := Q } (start ["state"] vs) H := by
  obtain ⟨st, sc, ns, a, b, c, d, rfl, hst, hsc, q⟩ := h
  have ne := st_ne hst hsc
  unfold t_law_reach
  repeat kaf_pre
  refine ⟨size_of (by simp), fun l nl => ?_⟩
  have s1 := same_new (o := HO.lst ([2, 1, 3, 2, 1, 2, 1, 3, 2, 1, 2, 3, 2, 1, 2, 4].map V.int)) nl
  have hl : upd H l (HO.lst ([2, 1, 3, 2, 1, 2, 1, 3, 2, 1, 2, 3, 2, 1, 2, 4].map V.int)) l = some (HO.lst ([2, 1, 3, 2, 1, 2, 1, 3, 2, 1, 2, 3, 2, 1, 2, 4].map V.int)) := upd_same
  have lst : l ≠ st := (ne_of_none hst nl).symm
  repeat kaf_pre
  refine ⟨st, 16, sc, ns, a, b, c, d, rfl, by omega, by omega, s1 _ _ hst, s1 _ _ hsc, fun k a b c d H2 k0 k1 hst2 B2 => ?_⟩
  obtain ⟨x, hx, ha⟩ := lit_at [2, 1, 3, 2, 1, 2, 1, 3, 2, 1, 2, 3, 2, 1, 2, 4] k0 k1
  refine rd_ixL (SqL.of (But.off B2 _ _ lst hl)) ha ?_
  have x14 : 1 ≤ x ∧ x ≤ 4 := (by decide : ∀ x ∈ ([2, 1, 3, 2, 1, 2, 1, 3, 2, 1, 2, 3, 2, 1, 2, 4] : List Int), 1 ≤ x ∧ x ≤ 4) x hx
  obtain ⟨r, rfl⟩ : ∃ r : Nat, x = r := ⟨x.toNat, by omega⟩
  exact q r a b c d H2 (by omega) (by omega) hst2 (But.sameL s1 B2)
/- slots of _law_wanted: 0 mode, 1 digit, 2 up, 3 down, 4 side -/
def t_law_wanted (K : PySem.W.Frag) : TS :=
  (tSeq (tIfS (tTest (tOp (rEqA K) (tVar 0) (tC (.int 0)))) (tRet (tOp (rEqA K) (tVar 1) (tC (.int 1)))) tNext)
  (tSeq (tIfS (tTest (tOp (rEqA K) (tVar 0) (tC (.int 1)))) (tRet (tOp rGtI (tVar 1) (tC (.int 2)))) tNext)
  (tSeq (tIfS (tTest (tOp (rEqA K) (tVar 0) (tC (.int 2)))) (tRet (tAndV (tOp rGtI (tVar 1) (tC (.int 0))) (tOrV (tOp (rEqA K) (tVar 4) (tC (.str "elder"))) (tAndV (tOp (rEqA K) (tVar 4) (tC (.str "line"))) (tOp (rEqA K) (tVar 3) (tC (.int 0))))))) tNext)
  (tSeq (tIfS (tTest (tOp (rEqA K) (tVar 0) (tC (.int 3)))) (tRet (tAndV (tOp rGtI (tVar 1) (tC (.int 0))) (tOrV (tOp (rEqA K) (tVar 4) (tC (.str "elder"))) (tAndV (tOp (rEqA K) (tVar 4) (tC (.str "line"))) (tOp (rEqA K) (tVar 2) (tC (.int 0))))))) tNext)
  (tSeq (tIfS (tTest (tOp (rEqA K) (tVar 0) (tC (.int 4)))) (tRet (tAndV (tOp rGtI (tVar 1) (tC (.int 0))) (tOrV (tOp (rEqA K) (tVar 4) (tC (.str "younger"))) (tAndV (tOp (rEqA K) (tVar 4) (tC (.str "line"))) (tOp (rEqA K) (tVar 3) (tC (.int 0))))))) tNext)
  (tSeq (tIfS (tTest (tOp (rEqA K) (tVar 0) (tC (.int 5)))) (tRet (tAndV (tOp rGtI (tVar 1) (tC (.int 1))) (tOp rGtI (tVar 3) (tVar 2)))) tNext)
  (tSeq (tIfS (tTest (tOp (rEqA K) (tVar 0) (tC (.int 6)))) (tRet (tAndV (tOp rGtI (tVar 1) (tC (.int 3))) (tChain rLtI rLtI (tUn rNegI (tC (.int 2))) (tOp rSubI (tVar 2) (tVar 3)) (tC (.int 2))))) tNext)
  (tRet (tAndV (tOp rGtI (tVar 1) (tC (.int 2))) (tOp (rNeA K) (tVar 4) (tC (.str "line"))))))))))))
def spWanted : Sp := fun vs H Q _ => ∃ (m g u d : Int) (s : Str), vs = [.int m, .int g, .int u, .int d, .str s] ∧ ∀ b, Q (.bl b) H
theorem len_law_wanted (K : PySem.W.Frag) {vs : List V} {H : Hp} {Q : VK} {E : XK} (h : spWanted vs H Q E) : vs.length = 5 := by
  obtain ⟨m, g, u, d, s, rfl, _⟩ := h
  rfl
theorem any_ite {A B : Bool → Prop} {b : Bool} {P : Prop} (h1 : b = true → P) (h2 : b = false → P) : P := by cases b; exact h2 rfl; exact h1 rfl
theorem rd_andAny {H : Hp} {Q : VK} {b : Bool} {R : Prop} (h1 : R) (h2 : Q (.bl false) H) : if b = true then R else Q (.bl false) H := by cases b; exact h2; exact h1
theorem rd_orAny {H : Hp} {Q : VK} {b : Bool} {R : Prop} (h1 : R) (h2 : Q (.bl true) H) : if b = true then Q (.bl true) H else R := by cases b; exact h1; exact h2
theorem rd_law_wanted (K : PySem.W.Frag) (vs : List V) (H : Hp) (Q : VK) (E : XK) (h : spWanted vs H Q E) : t_law_wanted K { nx := fun _ H' => Q .non H', rt := Q } (start ["mode", "digit", "up", "down", "side"] vs) H := by
  obtain ⟨m, g, u, d, s, rfl, q⟩ := h
  unfold t_law_wanted
  repeat kaf_pre
  refine rd_ite (fun _ => ?_) (fun _ => ?_)
  · repeat kaf_pre
    exact q _
  repeat kaf_pre
  refine rd_ite (fun _ => ?_) (fun _ => ?_)
  · repeat kaf_pre
    exact q _
  repeat kaf_pre
  refine rd_ite (fun _ => ?_) (fun _ => ?_)
  · repeat kaf_pre
    refine rd_andAny ?_ (q _)
    repeat kaf_pre
    refine rd_orAny ?_ (q _)
    repeat kaf_pre
    refine rd_andAny ?_ (q _)
    repeat kaf_pre
    exact q _
  repeat kaf_pre
  refine rd_ite (fun _ => ?_) (fun _ => ?_)
  · repeat kaf_pre
    refine rd_andAny ?_ (q _)
    repeat kaf_pre
    refine rd_orAny ?_ (q _)
    repeat kaf_pre
    refine rd_andAny ?_ (q _)
    repeat kaf_pre
    exact q _
  repeat kaf_pre
  refine rd_ite (fun _ => ?_) (fun _ => ?_)
  · repeat kaf_pre
    refine rd_andAny ?_ (q _)
    repeat kaf_pre
    refine rd_orAny ?_ (q _)
    repeat kaf_pre
    refine rd_andAny ?_ (q _)
    repeat kaf_pre
    exact q _
  repeat kaf_pre
  refine rd_ite (fun _ => ?_) (fun _ => ?_)
  · repeat kaf_pre
    refine rd_andAny ?_ (q _)
    repeat kaf_pre
    exact q _
  repeat kaf_pre
  refine rd_ite (fun _ => ?_) (fun _ => ?_)
  · repeat kaf_pre
    refine rd_andAny ?_ (q _)
    repeat kaf_pre
    refine rd_andAny ?_ (q _)
    repeat kaf_pre
    exact q _
  repeat kaf_pre
  refine rd_andAny ?_ (q _)
  repeat kaf_pre
  exact q _
/- slots of _law_rule_cells: 0 state, 1 reach, 2 mode, 3 chosen, 4 cell -/
def t_law_rule_cells (K : PySem.W.Frag) (Z : Cs) : TS :=
  (tSeq (tAsg (tCall (spDraw) [] E0 (tCons (tVar 0) (tCons (tC (.int 8)) tNil))) (gName 2))
  (tSeq (tAsg (tLst tNil) (gName 3))
  (tSeq (tFor (iAny K (tCall (spCells) [] E0 (tCons (tVar 1) tNil))) (gName 4) (tIfS (tTru K (tCall (spWanted) [] E0 (tCons (tVar 2) (tCons (tCall (spDraw) [] E0 (tCons (tVar 0) (tCons (tC (.int 6)) tNil))) (tCons (tOp (rIx K) (tVar 4) (tC (.int 0))) (tCons (tOp (rIx K) (tVar 4) (tC (.int 1))) (tCons (tOp (rIx K) (tVar 4) (tC (.int 2))) tNil))))))) (tDrop (tBM K "list" rAppend (tVar 3) (tCons (tVar 4) tNil))) tNext))
  (tRet (tVar 3)))))
/-- cells of a reach, each once -/
def CellsOf (r : Nat) (CS : List Cell) : Prop := (∀ c ∈ CS, c ∈ cellsL r) ∧ CS.Nodup
theorem CellsOf.len {r : Nat} {CS : List Cell} (h : CellsOf r CS) (r1 : 1 ≤ r) (r4 : r ≤ 4) : CS.length ≤ 40 := Nat.le_trans (nodup_le h.2 h.1) (cells_len r1 r4)
def spRuleCells : Sp := fun vs H Q _ => ∃ (st sc : Addr) (ns : List Int) (a : Nat) (b c d : Int) (r : Nat), vs = [.ref st, .int (r : Int)] ∧ 1 ≤ r ∧ r ≤ 4 ∧ H st = some (StO sc a b c d) ∧ H sc = some (.lst (ns.map V.int)) ∧
  ∀ (l : Addr) (ts : List V) (CS : List Cell) (a : Nat) (b c d : Int) (H' : Hp), H l = none → H' l = some (.lst ts) → TupsAt H' ts CS → CellsOf r CS → H' st = some (StO sc a b c d) → But [st] H H' → Q (.ref l) H'
theorem len_law_rule_cells (K : PySem.W.Frag) {vs : List V} {H : Hp} {Q : VK} {E : XK} (h : spRuleCells vs H Q E) : vs.length = 2 := by
  obtain ⟨st, sc, ns, a, b, c, d, r, rfl, _⟩ := h
  rfl
theorem rd_law_rule_cells (K : PySem.W.Frag) (Z : Cs) (cf : Cf K Z) (vs : List V) (H : Hp) (Q : VK) (E : XK) (h : spRuleCells vs H Q E) : t_law_rule_cells K Z { nx := fun _ H' => Q .non H', rt := Q } (start ["state", "reach", "mode", "chosen", "cell"] vs) H := by
  obtain ⟨st, sc, ns, a, b, c, d, r, rfl, r1, r4, hst, hsc, q⟩ := h
  have ne := st_ne hst hsc
  have cl := cells_len r1 r4
  unfold t_law_rule_cells
  repeat kaf_pre
  refine ⟨st, 8, sc, ns, a, b, c, d, rfl, by omega, by omega, hst, hsc, fun mode a b c d H1 _ _ hst1 B1 => ?_⟩
  have hsc1 := But.off B1 _ _ ne hsc
  clear hst hsc
  repeat kaf_pre
  refine ⟨size_of (by simp), fun l nl => ?_⟩
  have s1 := same_new (o := HO.lst []) nl
  have hl : upd H1 l (HO.lst []) l = some (.lst []) := upd_same
  have hst2 := s1 _ _ hst1
  have hsc2 := s1 _ _ hsc1
  have lst : l ≠ st := (ne_of_none hst1 nl).symm
  have lsc : l ≠ sc := (ne_of_none hsc1 nl).symm
  have nlH := st_none B1 hst1 nl
  have B2 := But.sameR B1 s1
  generalize upd H1 l (HO.lst []) = H2 at *
  clear s1 hst1 hsc1 nl B1
  repeat kaf_pre
  refine ⟨r, rfl, r4, fun l0 ts0 H3 nl0 hl0 ht0 s3 => ?_⟩
  have hst3 := s3 _ _ hst2
  have hsc3 := s3 _ _ hsc2
  have hl3 := s3 _ _ hl
  have l0st : l0 ≠ st := (ne_of_none hst2 nl0).symm
  have l0l : l0 ≠ l := (ne_of_none hl nl0).symm
  have B3 := But.sameR B2 s3
  clear hst2 hsc2 hl s3 B2 nl0
  refine forL (xs := ts0) (SqL.of hl0) (fun i σ' H' => ∃ (v4 : Option V) (ts : List V) (CS : List Cell) (a : Nat) (b c d : Int), σ' = [some (.ref st), some (.int (r : Int)), some (.int mode), some (.ref l), v4] ∧ H' l = some (.lst ts) ∧ TupsAt H' ts CS ∧ CS.Sublist ((cellsL r).take i) ∧ H' st = some (StO sc a b c d) ∧ H' sc = some (.lst (ns.map V.int)) ∧ H' l0 = some (.lst ts0) ∧ TupsAt H' ts0 (cellsL r) ∧ But [st] H H')
    ⟨_, [], [], a, b, c, d, rfl, hl3, tups_nil, List.nil_sublist _, hst3, hsc3, hl0, ht0, B3⟩ (fun i σ' H' _ ⟨_, _, _, _, _, _, _, _, _, _, _, _, _, h, _⟩ => SqL.of h) ?_ ?_
  · clear hst3 hsc3 hl3 hl0 ht0 B3
    rintro i x σ' H4 hi ⟨v4, ts, CS, a, b, c, d, rfl, hl, ht, sub, hst, hsc, hl0, ht0, B⟩
    obtain ⟨t, y, rfl, ey, hy⟩ := TupsAt.at ht0 hi
    have lC : CS.length ≤ 40 := Nat.le_trans sub.length_le (Nat.le_trans (List.length_take_le' _ _) cl)
    have lt : ts.length ≤ 40 := by rw [ht.1]; exact lC
    repeat kaf_pre
    refine ⟨st, 6, sc, ns, a, b, c, d, rfl, by omega, by omega, hst, hsc, fun dg a b c d H5 _ _ hst5 B5 => ?_⟩
    have hsc5 := But.off B5 _ _ ne hsc
    have hl5 := But.off B5 _ _ lst hl
    have hl05 := But.off B5 _ _ l0st hl0
    have ht5 := ht.keep B5 (.cons hst .nil)
    have ht05 := ht0.keep B5 (.cons hst .nil)
    have hy5 := keepT B5 (.cons hst .nil) hy
    have BB := B.trans B5
    clear hl hl0 ht ht0 hy hst hsc B B5
    repeat kaf_pre
    refine ⟨_, _, _, _, _, rfl, fun bb => ?_⟩
    have sub1 : (CS ++ [y]).Sublist ((cellsL r).take (i + 1)) := by rw [take_end ey]; exact sub.append (List.Sublist.refl _)
    have sub0 : CS.Sublist ((cellsL r).take (i + 1)) := by rw [take_end ey]; exact sub.trans (List.sublist_append_left _ _)
    cases bb with
    | true =>
      repeat kaf_pre
      refine rd_append hl5 (size_lt (by omega)) ?_
      repeat kaf_pre
      have mu : Lsts H5 [l] := .cons hl5 .nil
      have B1 : But [l] H5 (upd H5 l (.lst (ts ++ [.ref t]))) := (But.refl _ _).set (.head _)
      refine ⟨_, _, CS ++ [y], a, b, c, d, rfl, upd_same, (tups_app ht5 (tups_one hy5)).keep B1 mu, sub1, But.off B1 _ _ lst.symm hst5, But.off B1 _ _ lsc.symm hsc5, But.off B1 _ _ l0l hl05, ht05.keep B1 mu, BB.new nlH⟩
    | false =>
      repeat kaf_pre
      exact ⟨_, _, CS, a, b, c, d, rfl, hl5, ht5, sub0, hst5, hsc5, hl05, ht05, BB⟩
  · rintro σ' H4 ⟨v4, ts, CS, a, b, c, d, rfl, hl, ht, sub, hst, hsc, hl0, ht0, B⟩
    rw [ht0.1, List.take_length] at sub
    repeat kaf_pre
    exact q l ts CS a b c d H4 nlH hl ht ⟨fun x m => sub.subset m, (cells_nodup r1 r4).sublist sub⟩ hst B
/- slots of _law_rule: 0 reach, 1 cells, 2 rule, 3 cell, 4 kin -/
def t_law_rule (K : PySem.W.Frag) (Z : Cs) : TS :=
  (tSeq (tAsg (tMakeT Z.Rule (starSp 2 (spRule Z)) (WE (fun _ _ _ _ => False)) (tCons (tVar 0) tNil)) (gName 2))
  (tSeq (tFor (iAny K (tVar 1)) (gName 3) (tSeq (tAsg (tCall (spMkKin K Z) [] E0 (tCons (tVar 3) tNil)) (gName 4))
  (sIxO Z.Rule (spRSet Z) (WE (fun _ _ _ _ => False)) (tVar 2) (tVar 4) (tC (.bl true)))))
  (tRet (tVar 2))))
def spLRule (K : PySem.W.Frag) (Z : Cs) : Sp := fun vs H Q _ => ∃ (r : Nat) (cl : Addr) (ts : List V) (CS : List Cell), vs = [.int (r : Int), .ref cl] ∧ 1 ≤ r ∧ r ≤ 4 ∧ H cl = some (.lst ts) ∧ TupsAt H ts CS ∧ CellsOf r CS ∧
  ∀ x A H', (∀ y ∈ A, H y = none) → Same H H' → Rul Z H' x r CS A → Q (.ref x) H'
theorem len_law_rule (K : PySem.W.Frag) {Z : Cs} {vs : List V} {H : Hp} {Q : VK} {E : XK} (h : spLRule K Z vs H Q E) : vs.length = 2 := by
  obtain ⟨r, cl, ts, CS, rfl, _⟩ := h
  rfl
theorem cells_ok {r : Nat} (r4 : r ≤ 4) {c : Cell} (h : c ∈ cellsL r) : kinOk c.1 c.2.1 c.2.2 = true := by
  obtain ⟨k, h1, h2⟩ := cells_kin h
  exact kin_ok k (by omega) (by omega)
theorem rd_law_rule (K : PySem.W.Frag) (Z : Cs) (cf : Cf K Z) (vs : List V) (H : Hp) (Q : VK) (E : XK) (h : spLRule K Z vs H Q E) : t_law_rule K Z { nx := fun _ H' => Q .non H', rt := Q } (start ["reach", "cells", "rule", "cell", "kin"] vs) H := by
  obtain ⟨r, cl, ts, CS, rfl, r1, r4, hcl, ht, co, q⟩ := h
  unfold t_law_rule
  repeat kaf_pre
  refine make_ruleP (P := fun x H2 => _) r1 r4 kins_nil (by simp) (fun c m => by cases m) fun ra A H1 fA s1 RA => ?_
  repeat kaf_pre
  refine forL (xs := ts) (SqL.of (s1 _ _ hcl)) (fun i σ' H' => ∃ (v3 v4 : Option V) (A : List Addr), σ' = [some (.int (r : Int)), some (.ref cl), some (.ref ra), v3, v4] ∧ Rul Z H' ra r (CS.take i) A ∧ (∀ y ∈ A, H y = none) ∧ Same H H')
    ⟨_, _, A, rfl, RA, fA, s1⟩ (fun i σ' H' _ ⟨_, _, _, _, _, _, s⟩ => SqL.of (s _ _ hcl)) ?_ ?_
  · clear RA fA s1
    rintro i x σ' H2 hi ⟨v3, v4, A, rfl, R, fA, s⟩
    obtain ⟨t, y, rfl, ey, hy⟩ := TupsAt.at (ht.same s) hi
    have my := co.1 _ (List.mem_of_getElem? ey)
    have oky := cells_ok r4 my
    have py := cells_pos r1 r4 _ my
    repeat kaf_pre
    refine ⟨t, _, _, _, rfl, SqT.of hy, oky, fun k dk nk ndk nkk => ?_⟩
    have s1 : Same H2 (upd (upd H2 dk (.own k)) k (.ins Z.Kin dk (kinF y.1 y.2.1 y.2.2))) := by kd_all
    have kk : KinAt Z (upd (upd H2 dk (.own k)) k (.ins Z.Kin dk (kinF y.1 y.2.1 y.2.2))) k y.1 y.2.1 y.2.2 := ⟨oky, dk, upd_same⟩
    have R1 := R.same s1
    generalize upd (upd H2 dk (.own k)) k (.ins Z.Kin dk (kinF y.1 y.2.1 y.2.2)) = H3 at *
    have s2 := s.trans s1
    obtain ⟨dx, d, l, ho⟩ := R1.obj
    repeat kaf_pre
    refine ⟨ra, dx, _, rfl, ho, ra, k, true, r, _, A, y, rfl, R1, kk, fun z => absurd z (by omega), fun _ A' H4 B4 R4 f4 => ?_⟩
    rw [cap_cells my] at R4
    repeat kaf_pre
    refine ⟨_, _, A', rfl, by rw [take_end ey]; exact R4, fun y m => ?_, same_drop s2 B4 fA⟩
    rcases f4 y m with h | h
    · exact fA y h
    · exact s2.free h
  · rintro σ' H2 ⟨v3, v4, A, rfl, R, fA, s⟩
    rw [ht.1, List.take_length] at R
    repeat kaf_pre
    exact q ra A H2 fA s R
/-! ### cells under two reaches -/
theorem cpz_le (u r : Int) : cpz u r ≤ u := by unfold cpz; split <;> omega
theorem cpz_cpz {u l r : Int} (h : l ≤ r) : cpz (cpz u r) l = cpz u l := by unfold cpz; split <;> split <;> (try split) <;> omega
theorem cap_cap {l r : Nat} (h : l ≤ r) (c : Cell) : capC l (capC r c) = capC l c := by
  unfold capC
  have h' : (l : Int) ≤ r := by omega
  simp only [cpz_cpz h']
theorem cells_le {r R : Nat} (r1 : 1 ≤ r) (r4 : r ≤ 4) (h : r ≤ R) {c : Cell} (m : c ∈ cellsL r) : c ∈ cellsL R := by
  obtain ⟨k, h1, h2⟩ := cells_kin m
  exact cells_mem (cells_pos r1 r4 c m) k (by omega) (by omega)
/-! ### cells told apart -/
/-- the cells but one -/
def butC (CS : List Cell) (c : Cell) : List Cell := CS.filter fun x => !decide (x = c)
theorem butC_mem {CS : List Cell} {c x : Cell} : x ∈ butC CS c ↔ x ∈ CS ∧ x ≠ c := by
  unfold butC
  rw [List.mem_filter]
  simp
theorem rd_neC {K : PySem.W.Frag} {H : Hp} {Q : VK} {p q : Addr} {c d : Cell} (hp : H p = some (.tup [.int c.1, .int c.2.1, .str c.2.2])) (hq : H q = some (.tup [.int d.1, .int d.2.1, .str d.2.2])) (s1 : sideOk c) (s2 : sideOk d) (h : Q (.bl (!decide (c = d))) H) : rNeA K (.ref p) (.ref q) H Q :=
  rd_neD (dp_cell hp) (dp_cell hq) (shaped_cell s1) (shaped_cell s2) (by rw [eqvC]; exact h)
/- slots of _law_near: 0 state, 1 left, 2 mine, 3 right, 4 kind, 5 reach, 6 cells, 7 yours, 8 point, 9 cell -/
def t_law_near (K : PySem.W.Frag) (Z : Cs) : TS :=
  (tSeq (tAsg (tCall (spDraw) [] E0 (tCons (tVar 0) (tCons (tC (.int 5)) tNil))) (gName 4))
  (tSeq (tIfS (tTest (tOp (rEqA K) (tVar 4) (tC (.int 0)))) (tRet (tLst (tCons (tVar 3) (tCons (tCall (spRuleCells) [] E0 (tCons (tVar 0) (tCons (tVar 3) tNil))) tNil)))) tNext)
  (tSeq (tAsg (tCB rMax2 (tCons (tVar 1) (tCons (tCB rInt1 (tCons (tVar 3) tNil)) tNil))) (gName 5))
  (tSeqC (tIfS (tAnd (tTest (tOp (rEqA K) (tVar 5) (tVar 1))) (tTest (tOp rLtI (tVar 1) (tC (.int 3))))) (tAsg (tOp (rAddA K) (tVar 1) (tC (.int 1))) (gName 5)) tNext)
  (tSeqC (tIfS (tTest (tOp (rEqA K) (tVar 4) (tC (.int 1)))) (tAsg (tVar 1) (gName 5)) tNext)
  (tSeq (tAsg (tCall (spCells) [] E0 (tCons (tVar 5) tNil)) (gName 6))
  (tSeq (tAsg (tLc (iAny K (tVar 6)) (gName 9) (tTest (tOp (rInD K) (tCall (spLCapped K) [] E0 (tCons (tVar 9) (tCons (tVar 1) tNil))) (tVar 2))) (tVar 9) [9]) (gName 7))
  (tSeq (tAsg (tOp (rIx K) (tVar 6) (tCall (spDraw) [] E0 (tCons (tVar 0) (tCons (tCB (rLenK K) (tCons (tVar 6) tNil)) tNil)))) (gName 8))
  (tSeq (tIfS (tTest (tOp rGtI (tVar 4) (tC (.int 2)))) (tRet (tLst (tCons (tVar 5) (tCons (tVar 7) tNil)))) tNext)
  (tSeqC (tIfS (tTest (tOp (rInD K) (tVar 8) (tVar 7))) (tAsg (tLc (iAny K (tVar 7)) (gName 9) (tTest (tOp (rNeA K) (tVar 9) (tVar 8))) (tVar 9) [9]) (gName 7)) (tDrop (tBM K "list" rAppend (tVar 7) (tCons (tVar 8) tNil))))
  (tRet (tLst (tCons (tVar 5) (tCons (tVar 7) tNil))))))))))))))
/-! ### k17: a rule near another -/
def spNear (K : PySem.W.Frag) : Sp := fun vs H Q _ => ∃ (st sc : Addr) (ns : List Int) (a : Nat) (b c d : Int) (r r2 : Nat) (ml : Addr) (tm : List V) (MS : List Cell), vs = [.ref st, .int (r : Int), .ref ml, .int (r2 : Int)] ∧ 1 ≤ r ∧ r ≤ 4 ∧ 1 ≤ r2 ∧ r2 ≤ 4 ∧ H st = some (StO sc a b c d) ∧ H sc = some (.lst (ns.map V.int)) ∧ H ml = some (.lst tm) ∧ TupsAt H tm MS ∧ CellsOf r MS ∧ ml ≠ st ∧
  ∀ (l yl : Addr) (r3 : Nat) (ty : List V) (YS : List Cell) (a : Nat) (b c d : Int) (H' : Hp), H l = none → H' l = some (.lst [.int (r3 : Int), .ref yl]) → 1 ≤ r3 → r3 ≤ 4 → H yl = none → H' yl = some (.lst ty) → TupsAt H' ty YS → CellsOf r3 YS → H' st = some (StO sc a b c d) → But [st] H H' → Q (.ref l) H'
theorem len_law_near (K : PySem.W.Frag) {vs : List V} {H : Hp} {Q : VK} {E : XK} (h : spNear K vs H Q E) : vs.length = 4 := by
  obtain ⟨st, sc, ns, a, b, c, d, r, r2, ml, tm, MS, rfl, _⟩ := h
  rfl
theorem rd_law_near (K : PySem.W.Frag) (Z : Cs) (cf : Cf K Z) (vs : List V) (H : Hp) (Q : VK) (E : XK) (h : spNear K vs H Q E) : t_law_near K Z { nx := fun _ H' => Q .non H', rt := Q } (start ["state", "left", "mine", "right", "kind", "reach", "cells", "yours", "point", "cell"] vs) H := by
  obtain ⟨st, sc, ns, a, b, c, d, left, right, ml, tm, MS, rfl, l1, l4, g1, g4, hst, hsc, hml, htm, coM, mlst, q⟩ := h
  have ne := st_ne hst hsc
  have stH : H st ≠ none := by rw [hst]; exact fun z => by cases z
  have scH : H sc ≠ none := by rw [hsc]; exact fun z => by cases z
  unfold t_law_near
  repeat kaf_pre
  refine ⟨st, 5, sc, ns, a, b, c, d, rfl, by omega, by omega, hst, hsc, fun kind a b c d H1 k0 k1 hst1 B1 => ?_⟩
  have hsc1 := But.off B1 _ _ ne hsc
  have hml1 := But.off B1 _ _ mlst hml
  have htm1 := htm.keep B1 (.cons hst .nil)
  clear hst hsc hml htm
  repeat kaf_pre
  refine rd_ite (fun e => ?_) (fun e => ?_)
  · repeat kaf_pre
    refine ⟨st, sc, ns, a, b, c, d, right, rfl, g1, g4, hst1, hsc1, fun yl ty YS a b c d H2 nyl hyl hty coY hst2 B2 => ?_⟩
    repeat kaf_pre
    refine ⟨size_of (by simp), fun fl nfl => ?_⟩
    have s3 := same_new (o := HO.lst [.int (right : Int), .ref yl]) nfl
    have B12 := B1.trans B2
    exact q fl yl right ty YS a b c d _ (st_none B12 hst2 nfl) upd_same g1 g4 (st_none B1 hst1 nyl) (s3 _ _ hyl) (hty.same s3) coY (s3 _ _ hst2) (But.sameR B12 s3)
  repeat kaf_pre
  obtain ⟨R0, hR, R1, R4⟩ : ∃ R : Nat, (if (right : Int) > (left : Int) then (right : Int) else (left : Int)) = (R : Int) ∧ 1 ≤ R ∧ R ≤ 4 := by
    by_cases z : (right : Int) > (left : Int)
    · exact ⟨right, by rw [if_pos z], g1, g4⟩
    · exact ⟨left, by rw [if_neg z], l1, l4⟩
  rw [hR]
  refine rd_cut (fun σ' H' => ∃ R : Nat, σ' = [some (.ref st), some (.int (left : Int)), some (.ref ml), some (.int (right : Int)), some (.int kind), some (.int (R : Int)), none, none, none, none] ∧ H' = H1 ∧ 1 ≤ R ∧ R ≤ 4) ?_ ?_
  · repeat kaf_pre
    refine rd_ite (fun e => ?_) (fun e => ?_)
    · repeat kaf_pre
      refine rd_ite (fun e2 => ?_) (fun e2 => ?_)
      · repeat kaf_pre
        exact ⟨left + 1, by rw [show ((left + 1 : Nat) : Int) = (left : Int) + 1 from by omega]; rfl, rfl, by omega, by omega⟩
      · repeat kaf_pre
        exact ⟨R0, rfl, rfl, R1, R4⟩
    · repeat kaf_pre
      exact ⟨R0, rfl, rfl, R1, R4⟩
  clear hR R1 R4 R0
  rintro σ' H' ⟨R0, rfl, rfl, R1, R4⟩
  refine rd_cut (fun σ' H'' => ∃ R : Nat, σ' = [some (.ref st), some (.int (left : Int)), some (.ref ml), some (.int (right : Int)), some (.int kind), some (.int (R : Int)), none, none, none, none] ∧ H'' = H' ∧ 1 ≤ R ∧ R ≤ 4) ?_ ?_
  · repeat kaf_pre
    refine rd_ite (fun e => ?_) (fun e => ?_)
    · repeat kaf_pre
      exact ⟨left, rfl, rfl, l1, l4⟩
    · repeat kaf_pre
      exact ⟨R0, rfl, rfl, R1, R4⟩
  clear R1 R4 R0
  rintro σ' H'' ⟨R, rfl, rfl, R1, R4⟩
  repeat kaf_pre
  refine ⟨R, rfl, R4, fun cl tc H2 ncl hcl htc s2 => ?_⟩
  have hst2 := s2 _ _ hst1; have hsc2 := s2 _ _ hsc1; have hml2 := s2 _ _ hml1; have htm2 := htm1.same s2
  have B2 := But.sameR B1 s2
  have clst : cl ≠ st := (ne_of_none hst1 ncl).symm
  have clen := cells_len R1 R4
  have soM : ∀ c ∈ MS, sideOk c := fun c m => side_kin (cells_kin (coM.1 c m)).1
  clear hst1 hsc1 hml1 htm1 s2 B1
  repeat kaf_pre
  refine lcTups (SqL.of hcl) htc (fun c => decide (capC left c ∈ MS)) (by omega) (fun j t x H3 ex ht s3 P pp => ?_) (fun t H3 P pp => ?_) fun yl ty H3 nyl s3 hyl hty => ?_
  · repeat kaf_pre
    refine ⟨t, _, _, _, _, rfl, SqT.of ht, fun p np => ?_⟩
    have s4 := same_new (o := HO.tup [.int (cap x.1 left), .int (cap x.2.1 left), .str x.2.2]) np
    repeat kaf_pre
    refine rd_inC2 (c := capC left x) upd_same (s4 _ _ (s3 _ _ hml2)) ((htm2.same s3).same s4) (side_kin (cap_kin l1 (cells_kin (List.mem_of_getElem? ex)).1).1) soM ?_
    repeat kaf_pre
    exact pp _ s4
  · repeat kaf_pre
    exact pp
  have coY : CellsOf R ((cellsL R).filter fun c => decide (capC left c ∈ MS)) := ⟨fun c m => (List.mem_filter.mp m).1, (cells_nodup R1 R4).filter _⟩
  generalize (cellsL R).filter (fun c => decide (capC left c ∈ MS)) = YS at hty coY
  have nylH := st_none B2 hst2 nyl
  have hst3 := s3 _ _ hst2; have hsc3 := s3 _ _ hsc2; have hcl3 := s3 _ _ hcl; have htc3 := htc.same s3
  have B3 := But.sameR B2 s3
  have ylcl : yl ≠ cl := (ne_of_none hcl nyl).symm
  clear hst2 hsc2 hcl htc hml2 htm2 s3 B2 nyl ncl
  have ylst : yl ≠ st := fun z => stH (z ▸ nylH)
  have lY := coY.len R1 R4
  have lty : ty.length ≤ 40 := by rw [hty.1]; exact lY
  have ltc : tc.length ≤ 40 := by rw [htc3.1]; exact clen
  have ltp : 0 < tc.length := by rw [htc3.1, cellsL_len R1 R4]; omega
  repeat kaf_pre
  refine ⟨st, _, sc, ns, a, b, c, d, rfl, by omega, by omega, hst3, hsc3, fun g a b c d H5 g0 gl hst5 B5 => ?_⟩
  obtain ⟨j, rfl⟩ := Int.eq_ofNat_of_zero_le g0
  have hcl5 := But.off B5 _ _ clst hcl3
  have hyl5 := But.off B5 _ _ ylst hyl
  have htc5 := htc3.keep B5 (.cons hst3 .nil)
  have hty5 := hty.keep B5 (.cons hst3 .nil)
  have BB := B3.trans B5
  clear hst3 hsc3 hcl3 hyl htc3 hty B3 B5
  have hj : j < (cellsL R).length := by rw [← htc5.1]; omega
  obtain ⟨p, ep, hp⟩ := TupsAt.of htc5 (List.getElem?_eq_getElem hj)
  have mp : (cellsL R)[j] ∈ cellsL R := List.getElem_mem hj
  generalize (cellsL R)[j] = pt at hp mp
  have sp := side_kin (cells_kin mp).1
  have soY : ∀ c ∈ YS, sideOk c := fun c m => side_kin (cells_kin (coY.1 c m)).1
  refine rd_ixL (SqL.of hcl5) (atI_nat ep) ?_
  repeat kaf_pre
  refine rd_ite (fun e3 => ?_) (fun e3 => ?_)
  · repeat kaf_pre
    refine ⟨size_of (by simp), fun fl nfl => ?_⟩
    have s5 := same_new (o := HO.lst [.int (R : Int), .ref yl]) nfl
    exact q fl yl R ty YS a b c d _ (st_none BB hst5 nfl) upd_same R1 R4 nylH (s5 _ _ hyl5) (hty5.same s5) coY (s5 _ _ hst5) (But.sameR BB s5)
  repeat kaf_pre
  refine rd_cut (fun σ' H' => ∃ (yl : Addr) (ty : List V) (YS : List Cell) (v9 : Option V), σ' = [some (.ref st), some (.int (left : Int)), some (.ref ml), some (.int (right : Int)), some (.int kind), some (.int (R : Int)), some (.ref cl), some (.ref yl), some (.ref p), v9] ∧ H' yl = some (.lst ty) ∧ TupsAt H' ty YS ∧ CellsOf R YS ∧ H yl = none ∧ H' st = some (StO sc a b c d) ∧ But [st] H H') ?_ ?_
  · repeat kaf_pre
    refine rd_inC2 hp hyl5 hty5 sp soY ?_
    repeat kaf_pre
    by_cases inY : pt ∈ YS
    · rw [decide_eq_true inY]
      repeat kaf_pre
      refine lcTups (SqL.of hyl5) hty5 (fun x => !decide (x = pt)) (by omega) (fun j t x H6 ex ht s6 P pp => ?_) (fun t H6 P pp => ?_) fun yl2 ty2 H6 nyl2 s6 hyl2 hty2 => ?_
      · repeat kaf_pre
        refine rd_neC ht (s6 _ _ hp) (soY x (List.mem_of_getElem? ex)) sp ?_
        repeat kaf_pre
        exact pp _ (Same.refl _)
      · repeat kaf_pre
        exact pp
      · repeat kaf_pre
        exact ⟨yl2, ty2, _, _, rfl, hyl2, hty2, ⟨fun x m => coY.1 x (List.mem_filter.mp m).1, coY.2.filter _⟩, st_none BB hst5 nyl2, s6 _ _ hst5, But.sameR BB s6⟩
    · rw [decide_eq_false inY]
      repeat kaf_pre
      refine rd_append hyl5 (size_lt (by omega)) ?_
      repeat kaf_pre
      have mu : Lsts H5 [yl] := .cons hyl5 .nil
      have B6 : But [yl] H5 (upd H5 yl (.lst (ty ++ [.ref p]))) := (But.refl _ _).set (.head _)
      refine ⟨yl, _, YS ++ [pt], _, rfl, upd_same, (tups_app hty5 (tups_one hp)).keep B6 mu, ⟨fun x m => ?_, ?_⟩, nylH, But.off B6 _ _ ylst.symm hst5, BB.new nylH⟩
      · rcases List.mem_append.mp m with m | m
        · exact coY.1 x m
        · rw [List.mem_singleton.mp m]; exact mp
      · exact List.nodup_append.mpr ⟨coY.2, by simp, fun x hx y hy => by rw [List.mem_singleton.mp hy]; exact fun z => inY (z ▸ hx)⟩
  · rintro σ' H6 ⟨yl, ty, YS, v9, rfl, hyl, hty, coY, nylH, hst, B⟩
    repeat kaf_pre
    refine ⟨size_of (by simp), fun fl nfl => ?_⟩
    have s5 := same_new (o := HO.lst [.int (R : Int), .ref yl]) nfl
    exact q fl yl R ty YS a b c d _ (st_none B hst nfl) upd_same R1 R4 nylH (s5 _ _ hyl) (hty.same s5) coY (s5 _ _ hst) (But.sameR B s5)
abbrev bls (KS : List Cell) (f : Cell → Bool) : List V := KS.map fun c => .bl (f c)
theorem bls_at {KS : List Cell} {f : Cell → Bool} {i : Nat} {c : Cell} (h : KS[i]? = some c) : (bls KS f)[i]? = some (.bl (f c)) := by
  rw [List.getElem?_map, h]
  rfl
theorem range_map (KS : List Cell) (g : Cell → V) : ((List.range KS.length).filter fun _ => true).map (fun i => g (KS.getD i selfC)) = KS.map g := by
  rw [List.filter_eq_self.mpr fun _ _ => rfl]
  refine List.ext_getElem (by simp) fun i h1 h2 => ?_
  have hi : i < KS.length := by simpa using h2
  simp [List.getD, hi]
/- slots of _law_lets_all: 0 reach, 1 cells, 2 kins, 3 row -/
def t_law_lets_all (K : PySem.W.Frag) : TS :=
  (tRet (tLc (iAny K (tVar 2)) (gName 3) tYes (tCall (spLLets K) [] E0 (tCons (tVar 0) (tCons (tVar 1) (tCons (tVar 3) tNil)))) [3]))
def spLetsAll (K : PySem.W.Frag) : Sp := fun vs H Q _ => ∃ (r : Nat) (cl kl : Addr) (ts tk : List V) (CS KS : List Cell), vs = [.int (r : Int), .ref cl, .ref kl] ∧ H cl = some (.lst ts) ∧ TupsAt H ts CS ∧ H kl = some (.lst tk) ∧ TupsAt H tk KS ∧ (∀ c ∈ CS, sideOk c) ∧ (∀ c ∈ KS, sideOk c) ∧ KS.length ≤ 1000 ∧
  ∀ l H', H l = none → Same H H' → H' l = some (.lst (bls KS fun c => decide (capC r c ∈ CS))) → Q (.ref l) H'
theorem len_law_lets_all (K : PySem.W.Frag) {vs : List V} {H : Hp} {Q : VK} {E : XK} (h : spLetsAll K vs H Q E) : vs.length = 3 := by
  obtain ⟨r, cl, kl, ts, tk, CS, KS, rfl, _⟩ := h
  rfl
theorem rd_law_lets_all (K : PySem.W.Frag) (vs : List V) (H : Hp) (Q : VK) (E : XK) (h : spLetsAll K vs H Q E) : t_law_lets_all K { nx := fun _ H' => Q .non H', rt := Q } (start ["reach", "cells", "kins", "row"] vs) H := by
  obtain ⟨r, cl, kl, ts, tk, CS, KS, rfl, hc, htc, hk, htk, sC, sK, lk, q⟩ := h
  unfold t_law_lets_all
  repeat kaf_pre
  have hx : SqL K H kl ((tk.zip KS).map (·.1)) := by rw [zip_fst htk.1]; exact SqL.of hk
  refine lcGs hx (fun _ => true) (fun q => .bl (decide (capC r q.2 ∈ CS))) (by have := List.length_zip (l₁ := tk) (l₂ := KS); omega) (fun i y H1 hy s R rr => rr _ (Same.refl _)) (fun i y H1 hy _ s R rr => ?_) fun Dd H' hD s hd => ?_
  · obtain ⟨e1, e2⟩ := mem_zip_at hy
    obtain ⟨k, ek, kk⟩ := htk.2 i _ _ e1 e2
    simp only [ek]
    repeat kaf_pre
    exact ⟨r, cl, k, ts, CS, y.2, rfl, s _ _ hc, htc.same s, s _ _ kk, sK _ (List.mem_of_getElem? e2), sC, fun H2 s2 => rr H2 s2⟩
  · rw [List.filter_eq_self.mpr fun _ _ => rfl] at hd
    have e : (tk.zip KS).map (fun q => V.bl (decide (capC r q.2 ∈ CS))) = bls KS fun c => decide (capC r c ∈ CS) := by
      have z : (tk.zip KS).map Prod.snd = KS := List.map_snd_zip (by rw [htk.1]; exact Nat.le_refl _)
      conv => rhs; unfold bls; rw [← z, List.map_map]
      rfl
    rw [e] at hd
    exact q Dd H' hD s hd
/- slots of _law_is_rule: 0 rule, 1 kins, 2 due, 3 k -/
def t_law_is_rule (K : PySem.W.Frag) (Z : Cs) : TS :=
  (tSeq (tIfS (tNot (tTru K (tCB (rIsi K) (tCons (tVar 0) (tCons (tC (.ref Z.Rule)) tNil))))) (tRet (tC (.bl false))) tNext)
  (tSeq (tFor (iRng1 (tCons (tCB (rLenK K) (tCons (tVar 1) tNil)) tNil)) (gName 3) (tIfS (tNot (tTru K (tCall (spSm K 3) [] E0 (tCons (tMethT Z.Rule "lets" (spLets Z) (fun _ => E0) (tVar 0) (tCons (tOp (rIx K) (tOp (rIx K) (tVar 1) (tVar 3)) (tC (.int 0))) (tCons (tOp (rIx K) (tOp (rIx K) (tVar 1) (tVar 3)) (tC (.int 1))) (tCons (tOp (rIx K) (tOp (rIx K) (tVar 1) (tVar 3)) (tC (.int 2))) tNil)))) (tCons (tOp (rIx K) (tVar 2) (tVar 3)) tNil))))) (tRet (tC (.bl false))) tNext))
  (tRet (tC (.bl true)))))
def spIsRule (K : PySem.W.Frag) (Z : Cs) : Sp := fun vs H Q _ => ∃ (a kl dl : Addr) (r : Nat) (CS KS : List Cell) (A : List Addr) (tk : List V) (f : Cell → Bool), vs = [.ref a, .ref kl, .ref dl] ∧ Rul Z H a r CS A ∧ H kl = some (.lst tk) ∧ TupsAt H tk KS ∧ H dl = some (.lst (bls KS f)) ∧ KS.length ≤ 1000 ∧
  (∀ c ∈ KS, letC r CS c = f c) ∧ ∀ H', Same H H' → Q (.bl true) H'
theorem len_law_is_rule (K : PySem.W.Frag) {Z : Cs} {vs : List V} {H : Hp} {Q : VK} {E : XK} (h : spIsRule K Z vs H Q E) : vs.length = 3 := by
  obtain ⟨a, kl, dl, r, CS, KS, A, tk, f, rfl, _⟩ := h
  rfl
theorem rd_law_is_rule (K : PySem.W.Frag) (Z : Cs) (cf : Cf K Z) (vs : List V) (H : Hp) (Q : VK) (E : XK) (h : spIsRule K Z vs H Q E) : t_law_is_rule K Z { nx := fun _ H' => Q .non H', rt := Q } (start ["rule", "kins", "due", "k"] vs) H := by
  obtain ⟨a, kl, dl, r, CS, KS, A, tk, f, rfl, R, hk, htk, hd, lk, ok, q⟩ := h
  obtain ⟨dx, d, l, ho⟩ := R.obj
  unfold t_law_is_rule
  have ltk : tk.length ≤ 1000 := by rw [htk.1]; exact lk
  repeat kaf_pre
  refine forR (n := tk.length) rfl (by omega) (fun i σ' H' => ∃ v4, σ' = [some (.ref a), some (.ref kl), some (.ref dl), v4] ∧ Same H H') ⟨_, rfl, Same.refl _⟩ ?_ ?_
  · rintro i σ' H2 hi ⟨v4, rfl, s2⟩
    have g1 := List.getElem?_eq_getElem (l := tk) (i := i) hi
    obtain ⟨t, c, et, ec, ht⟩ := TupsAt.at htk g1
    rw [et] at g1
    have hk2 := s2 _ _ hk; have hd2 := s2 _ _ hd; have ht2 := s2 _ _ ht; have ho2 := s2 _ _ ho
    have g2 := bls_at (f := f) ec
    have mc := List.mem_of_getElem? ec
    repeat kaf_pre
    refine lets_of (R.same s2) fun H3 s3 => ?_
    rw [show letC r CS (c.1, c.2.1, c.2.2) = f c from ok c mc]
    have hd3 := s3 _ _ hd2
    repeat kaf_pre
    refine sm_of (e := .bool (f c)) .bl .bl fun H4 s4 => ?_
    repeat kaf_pre
    exact ⟨_, rfl, s2.trans (s3.trans s4)⟩
  · rintro σ' H2 ⟨v4, rfl, s2⟩
    repeat kaf_pre
    exact q _ s2
/-! ### k17: the plain law -/
theorem jn_false (w : Str) : jnB w false false = false := by
  unfold jnB
  repeat (split <;> try rfl)
theorem jn_let {w : Str} {r r2 : Nat} {CS CS2 : List Cell} {c : Cell} (r1 : 1 ≤ r) (r4 : r ≤ 4) (q1 : 1 ≤ r2) (q4 : r2 ≤ 4) (k : KinC c) : letC (maxR r r2) (jnL w r CS r2 CS2) c = jnB w (letC r CS c) (letC r2 CS2 c) := by
  have m1 : 1 ≤ maxR r r2 := by unfold maxR; split <;> omega
  have m4 : maxR r r2 ≤ 4 := by unfold maxR; split <;> omega
  have le1 : r ≤ maxR r r2 := by unfold maxR; split <;> omega
  have le2 : r2 ≤ maxR r r2 := by unfold maxR; split <;> omega
  by_cases z : c.1 + c.2.1 = 0
  · rw [kin_self k z, let_self m1 m4, let_self r1 r4, let_self q1 q4, jn_false]
  · have e1 : letC r CS (capC (maxR r r2) c) = letC r CS c := by unfold letC; rw [cap_cap le1]
    have e2 : letC r2 CS2 (capC (maxR r r2) c) = letC r2 CS2 c := by unfold letC; rw [cap_cap le2]
    rw [let_kin m1 k z, ← e1, ← e2]
    unfold jnL
    rw [Bool.eq_iff_iff, decide_eq_true_eq, List.mem_filter]
    exact ⟨fun h => h.2, fun h => ⟨cap_mem m1 k z, h⟩⟩
theorem in_let {r : Nat} {CS : List Cell} (co : ∀ c ∈ CS, c ∈ cellsL r) : (fun c => decide (capC r c ∈ CS)) = letC r CS := funext fun c => by
  unfold letC
  rw [decide_eq_decide, rows_mem]
  exact ⟨fun h => ⟨co _ h, h⟩, fun h => h.2⟩
theorem max_self (r : Nat) : maxR r r = r := by unfold maxR; split <;> rfl
theorem zip_bls {tk : List V} {KS : List Cell} (f : Cell → Bool) (h : tk.length = KS.length) : ((tk.zip KS).filter fun _ => true).map (fun q => V.bl (f q.2)) = bls KS f := by
  rw [List.filter_eq_self.mpr fun _ _ => rfl]
  have z : (tk.zip KS).map Prod.snd = KS := List.map_snd_zip (by rw [h]; exact Nat.le_refl _)
  conv => rhs; unfold bls; rw [← z, List.map_map]
  rfl
theorem jn_or (a b : Bool) : jnB "or" a b = (a || b) := by cases a <;> cases b <;> decide +kernel
theorem jn_and (a b : Bool) : jnB "and" a b = (a && b) := by cases a <;> cases b <;> decide +kernel
theorem jn_less (a b : Bool) : jnB "less" a b = (a && !b) := by cases a <;> cases b <;> decide +kernel
theorem jn_eit (a b : Bool) : jnB "either" a b = (a != b) := by cases a <;> cases b <;> decide +kernel
theorem max_swap (r r2 : Nat) : maxR r r2 = maxR r2 r := by unfold maxR; split <;> split <;> omega
theorem em_less {r r2 : Nat} {CS CS2 KS : List Cell} (r1 : 1 ≤ r) (r4 : r ≤ 4) (q1 : 1 ≤ r2) (q4 : r2 ≤ 4) (kc : ∀ c ∈ KS, KinC c) (cov : ∀ c ∈ cellsL (maxR r r2), c ∈ KS) : emJ "less" r CS r2 CS2 = KS.all fun c => !(letC r CS c && !letC r2 CS2 c) := by
  rw [Bool.eq_iff_iff, List.all_eq_true]
  unfold emJ
  rw [List.isEmpty_iff]
  constructor
  · intro h c mc
    have e := jn_let (w := "less") (CS := CS) (CS2 := CS2) r1 r4 q1 q4 (kc c mc)
    rw [h, jn_less] at e
    have z : letC (maxR r r2) [] c = false := by unfold letC rowsL; simp
    rw [z] at e
    rw [← e]
    rfl
  · intro h
    unfold jnL
    rw [List.filter_eq_nil_iff]
    intro c mc z
    have := h c (cov c mc)
    rw [jn_less] at z
    rw [z] at this
    cases this
theorem em_eit {r r2 : Nat} {CS CS2 : List Cell} : emJ "either" r CS r2 CS2 = (emJ "less" r CS r2 CS2 && emJ "less" r2 CS2 r CS) := by
  rw [Bool.eq_iff_iff, Bool.and_eq_true]
  unfold emJ
  rw [List.isEmpty_iff, List.isEmpty_iff, List.isEmpty_iff]
  unfold jnL
  rw [max_swap r2 r, List.filter_eq_nil_iff, List.filter_eq_nil_iff, List.filter_eq_nil_iff]
  constructor
  · intro h
    refine ⟨fun c m z => h c m ?_, fun c m z => h c m ?_⟩
    · rw [jn_less] at z
      rw [jn_eit]
      revert z
      cases letC r CS c <;> cases letC r2 CS2 c <;> decide
    · rw [jn_less] at z
      rw [jn_eit]
      revert z
      cases letC r CS c <;> cases letC r2 CS2 c <;> decide
  · rintro ⟨h1, h2⟩ c m z
    have a1 := h1 c m
    have a2 := h2 c m
    rw [jn_less] at a1 a2
    rw [jn_eit] at z
    revert a1 a2 z
    cases letC r CS c <;> cases letC r2 CS2 c <;> decide
theorem fold_ok {w : Str} : ∀ (ys : List RR) (x : Nat × List Cell), 1 ≤ x.1 → x.1 ≤ 4 → (∀ y ∈ ys, 1 ≤ y.r ∧ y.r ≤ 4) → 1 ≤ (foldJ w x ys).1 ∧ (foldJ w x ys).1 ≤ 4 ∧ ∀ c, KinC c → letC (foldJ w x ys).1 (foldJ w x ys).2 c = ys.foldl (fun b y => jnB w b (letC y.r y.CS c)) (letC x.1 x.2 c)
  | [], x, h1, h4, _ => ⟨h1, h4, fun _ _ => rfl⟩
  | y :: ys, x, h1, h4, h => by
    obtain ⟨y1, y4⟩ := h y (.head _)
    have m1 : 1 ≤ maxR x.1 y.r := by unfold maxR; split <;> omega
    have m4 : maxR x.1 y.r ≤ 4 := by unfold maxR; split <;> omega
    obtain ⟨a, b, e⟩ := fold_ok (w := w) ys (stepJ w x y) m1 m4 fun z m => h z (.tail _ m)
    refine ⟨a, b, fun c k => ?_⟩
    show letC (foldJ w (stepJ w x y) ys).1 (foldJ w (stepJ w x y) ys).2 c = _
    rw [e c k, List.foldl_cons]
    show List.foldl _ (letC (maxR x.1 y.r) (jnL w x.1 x.2 y.r y.CS) c) ys = _
    rw [jn_let h1 h4 y1 y4 k]
theorem let_none (c : Cell) : letC 1 [] c = false := by unfold letC rowsL; simp
theorem let_full {c : Cell} (k : KinC c) : letC 1 (cellsL 1) c = decide (c.1 + c.2.1 > 0) := by
  by_cases z : c.1 + c.2.1 = 0
  · rw [kin_self k z, let_self (by omega) (by omega), decide_eq_false]
    show ¬ (selfC.1 + selfC.2.1 > 0)
    decide
  · rw [let_kin (by omega) k z, decide_eq_true (cap_mem (by omega) k z), decide_eq_true]
    have := k.1; have := k.2.1
    omega
theorem let_pos {r : Nat} {CS : List Cell} {c : Cell} (r1 : 1 ≤ r) (r4 : r ≤ 4) (k : KinC c) (h : letC r CS c = true) : c.1 + c.2.1 > 0 := by
  by_cases z : c.1 + c.2.1 = 0
  · rw [kin_self k z, let_self r1 r4] at h
    cases h
  · have := k.1; have := k.2.1
    omega
/-- what the union lets, what the cut of one or more lets -/
theorem uni_let {ys : List RR} (h : ∀ y ∈ ys, 1 ≤ y.r ∧ y.r ≤ 4) {c : Cell} (k : KinC c) : letC (foldJ "or" (1, []) ys).1 (foldJ "or" (1, []) ys).2 c = ys.any fun y => letC y.r y.CS c := by
  rw [(fold_ok ys (1, []) (by omega) (by omega) h).2.2 c k, let_none]
  have e : ∀ (ys : List RR) (b : Bool), ys.foldl (fun b y => jnB "or" b (letC y.r y.CS c)) b = (b || ys.any fun y => letC y.r y.CS c) := by
    intro ys
    induction ys with
    | nil => intro b; simp
    | cons y ys ih => intro b; rw [List.foldl_cons, ih, jn_or, List.any_cons, Bool.or_assoc]
  rw [e, Bool.false_or]
theorem cut_let {ys : List RR} (h : ∀ y ∈ ys, 1 ≤ y.r ∧ y.r ≤ 4) {c : Cell} (k : KinC c) : letC (foldJ "and" (1, cellsL 1) ys).1 (foldJ "and" (1, cellsL 1) ys).2 c = (decide (c.1 + c.2.1 > 0) && ys.all fun y => letC y.r y.CS c) := by
  rw [(fold_ok ys (1, cellsL 1) (by omega) (by omega) h).2.2 c k, let_full k]
  have e : ∀ (ys : List RR) (b : Bool), ys.foldl (fun b y => jnB "and" b (letC y.r y.CS c)) b = (b && ys.all fun y => letC y.r y.CS c) := by
    intro ys
    induction ys with
    | nil => intro b; simp
    | cons y ys ih => intro b; rw [List.foldl_cons, ih, jn_and, List.all_cons, Bool.and_assoc]
  exact e ys _
theorem cut_some {ys : List RR} (h : ∀ y ∈ ys, 1 ≤ y.r ∧ y.r ≤ 4) (n : ys ≠ []) {c : Cell} (k : KinC c) : letC (foldJ "and" (1, cellsL 1) ys).1 (foldJ "and" (1, cellsL 1) ys).2 c = ys.all fun y => letC y.r y.CS c := by
  rw [cut_let h k]
  cases ys with
  | nil => exact absurd rfl n
  | cons y ys =>
    rw [List.all_cons]
    cases e : letC y.r y.CS c with
    | false => simp
    | true =>
      obtain ⟨y1, y4⟩ := h y (.head _)
      rw [decide_eq_true (let_pos y1 y4 k e), Bool.true_and]
theorem union_of {Z : Cs} {H : Hp} {Q : VK} {E : XK} {vs : List V} (ys : List RR) (ev : vs = ys.map fun y => .ref y.a) (h : RulsAt Z H ys) (l : ys.length ≤ 1000)
    (q : ∀ x X H', (∀ y ∈ X, H y = none) → Same H H' → Rul Z H' x (foldJ "or" (1, []) ys).1 (foldJ "or" (1, []) ys).2 X → Q (.ref x) H') : starSp 0 (spUnion Z) vs H Q E := by
  subst ev
  refine ⟨[], _, rfl, rfl, size_of (by rw [List.length_map]; omega), fun p np => ?_⟩
  have s := same_new (o := HO.tup (ys.map fun y => V.ref y.a)) np
  exact ⟨p, ys, rfl, upd_same, h.same s, l, fun x X H' f s' R => q x X H' (fun y m => s.free (f y m)) (s.trans s') R⟩
theorem cut_of {Z : Cs} {H : Hp} {Q : VK} {E : XK} {vs : List V} (ys : List RR) (ev : vs = ys.map fun y => .ref y.a) (h : RulsAt Z H ys) (l : ys.length ≤ 1000)
    (q : ∀ x X H', (∀ y ∈ X, H y = none) → Same H H' → Rul Z H' x (foldJ "and" (1, cellsL 1) ys).1 (foldJ "and" (1, cellsL 1) ys).2 X → Q (.ref x) H') : starSp 0 (spCut Z) vs H Q E := by
  subst ev
  refine ⟨[], _, rfl, rfl, size_of (by rw [List.length_map]; omega), fun p np => ?_⟩
  have s := same_new (o := HO.tup (ys.map fun y => V.ref y.a)) np
  exact ⟨p, ys, rfl, upd_same, h.same s, l, fun x X H' f s' R => q x X H' (fun y m => s.free (f y m)) (s.trans s') R⟩
theorem rowB {M : List Addr} {H : Hp} {n : Nat} {x : Addr} (bs : List Bool) (h : H x = some (.lst (bs.map V.bl))) (m : x ∉ M) (lz : bs.length ≤ 100) : Dt M H (n + 1) (.ref x) (.list (bs.map PyData.bool)) := .lst h m (by simp) (by rw [List.length_map]; omega) fun i v e e1 e2 => by
  obtain ⟨b, hb, rfl⟩ := at_map e1
  rw [List.getElem?_map, hb] at e2
  cases e2
  exact .bl
theorem rowI {M : List Addr} {H : Hp} {n : Nat} {x : Addr} (bs : List Int) (h : H x = some (.lst (bs.map V.int))) (m : x ∉ M) (lz : bs.length ≤ 100) : Dt M H (n + 1) (.ref x) (.list (bs.map PyData.int)) := .lst h m (by simp) (by rw [List.length_map]; omega) fun i v e e1 e2 => by
  obtain ⟨b, hb, rfl⟩ := at_map e1
  rw [List.getElem?_map, hb] at e2
  cases e2
  exact .int
/- slots of _law_compared: 0 rule, 1 other, 2 one, 3 two, 4 less, 5 more, 6 k, 7 actual, 8 same -/
def t_law_compared (K : PySem.W.Frag) (Z : Cs) : TS :=
  (tSeq (tAsg (tC (.bl true)) (gName 4))
  (tSeq (tAsg (tC (.bl true)) (gName 5))
  (tSeq (tFor (iRng1 (tCons (tCB (rLenK K) (tCons (tVar 2) tNil)) tNil)) (gName 6) (tSeqC (tIfS (tAnd (tTru K (tOp (rIx K) (tVar 2) (tVar 6))) (tNot (tTru K (tOp (rIx K) (tVar 3) (tVar 6))))) (tAsg (tC (.bl false)) (gName 4)) tNext)
  (tIfS (tAnd (tTru K (tOp (rIx K) (tVar 3) (tVar 6))) (tNot (tTru K (tOp (rIx K) (tVar 2) (tVar 6))))) (tAsg (tC (.bl false)) (gName 5)) tNext)))
  (tSeq (tAsg (tLst (tCons (tOp (rCmpO Z.Rule (spRLe Z) E0) (tVar 0) (tVar 1)) (tCons (tOp (rCmpO Z.Rule (spRLt Z) E0) (tVar 0) (tVar 1)) (tCons (tOp (rGtO Z.Rule (spRLe Z) E0) (tVar 0) (tVar 1)) (tCons (tOp (rGtO Z.Rule (spRLt Z) E0) (tVar 0) (tVar 1)) (tCons (tOp (rCmpO Z.Rule (spREq Z) E0) (tVar 0) (tVar 1)) (tCons (tOp (rNeO Z.Rule (spREq Z) E0) (tVar 0) (tVar 1)) tNil))))))) (gName 7))
  (tSeq (tAsg (tAndV (tVar 4) (tVar 5)) (gName 8))
  (tRet (tCall (spSm K 3) [] E0 (tCons (tVar 7) (tCons (tLst (tCons (tVar 4) (tCons (tAndV (tVar 4) (tNotV (tVar 5))) (tCons (tVar 5) (tCons (tAndV (tVar 5) (tNotV (tVar 4))) (tCons (tVar 8) (tCons (tNotV (tVar 8)) tNil))))))) tNil)))))))))
def spCompared (K : PySem.W.Frag) (Z : Cs) : Sp := fun vs H Q _ => ∃ (a o l1 l2 : Addr) (r r2 : Nat) (CS CS2 KS : List Cell) (A B : List Addr) (f g : Cell → Bool), vs = [.ref a, .ref o, .ref l1, .ref l2] ∧ Rul Z H a r CS A ∧ Rul Z H o r2 CS2 B ∧ H l1 = some (.lst (bls KS f)) ∧ H l2 = some (.lst (bls KS g)) ∧ KS.length ≤ 1000 ∧
  (∀ c ∈ KS, letC r CS c = f c) ∧ (∀ c ∈ KS, letC r2 CS2 c = g c) ∧ (∀ c ∈ KS, KinC c) ∧ (∀ c ∈ cellsL (maxR r r2), c ∈ KS) ∧ ∀ H', Same H H' → Q (.bl true) H'
theorem len_law_compared (K : PySem.W.Frag) {Z : Cs} {vs : List V} {H : Hp} {Q : VK} {E : XK} (h : spCompared K Z vs H Q E) : vs.length = 4 := by
  obtain ⟨a, o, l1, l2, r, r2, CS, CS2, KS, A, B, f, g, rfl, _⟩ := h
  rfl
theorem all_take {KS : List Cell} {i : Nat} {c : Cell} (p : Cell → Bool) (h : KS[i]? = some c) : (KS.take (i + 1)).all p = ((KS.take i).all p && p c) := by
  rw [take_end h, List.all_append]
  simp
theorem all_fg {KS : List Cell} {f g f' g' : Cell → Bool} (e1 : ∀ c ∈ KS, f c = f' c) (e2 : ∀ c ∈ KS, g c = g' c) : (KS.all fun c => !(f c && !g c)) = KS.all fun c => !(f' c && !g' c) := by
  rw [Bool.eq_iff_iff, List.all_eq_true, List.all_eq_true]
  exact ⟨fun h c m => by rw [← e1 c m, ← e2 c m]; exact h c m, fun h c m => by rw [e1 c m, e2 c m]; exact h c m⟩
theorem rd_law_compared (K : PySem.W.Frag) (Z : Cs) (cf : Cf K Z) (vs : List V) (H : Hp) (Q : VK) (E : XK) (h : spCompared K Z vs H Q E) : t_law_compared K Z { nx := fun _ H' => Q .non H', rt := Q } (start ["rule", "other", "one", "two", "less", "more", "k", "actual", "same"] vs) H := by
  obtain ⟨a, o, l1, l2, r, r2, CS, CS2, KS, A, B, f, g, rfl, R, O, h1, h2, lk, ef, eg, kc, cov, q⟩ := h
  obtain ⟨dx, d, l, ha⟩ := R.obj
  obtain ⟨dy, d', l', ho⟩ := O.obj
  obtain ⟨r1, r4⟩ := R.bounds
  obtain ⟨q1, q4⟩ := O.bounds
  have eL : emJ "less" r CS r2 CS2 = KS.all fun c => !(f c && !g c) := by rw [em_less r1 r4 q1 q4 kc cov]; exact all_fg ef eg
  have eM : emJ "less" r2 CS2 r CS = KS.all fun c => !(g c && !f c) := by rw [em_less q1 q4 r1 r4 kc (by rw [max_swap]; exact cov)]; exact all_fg eg ef
  have eE : emJ "either" r CS r2 CS2 = (emJ "less" r CS r2 CS2 && emJ "less" r2 CS2 r CS) := em_eit
  unfold t_law_compared
  repeat kaf_pre
  refine forR (n := KS.length) (by rw [List.length_map]) (by omega) (fun i σ' H' => ∃ v6, σ' = [some (.ref a), some (.ref o), some (.ref l1), some (.ref l2), some (.bl ((KS.take i).all fun c => !(f c && !g c))), some (.bl ((KS.take i).all fun c => !(g c && !f c))), v6, none, none] ∧ H' = H) ⟨_, rfl, rfl⟩ ?_ ?_
  · rintro i σ' H' hi ⟨v6, rfl, rfl⟩
    have ec := List.getElem?_eq_getElem (l := KS) (i := i) hi
    generalize KS[i] = c at ec
    have g1 := bls_at (f := f) ec
    have g2 := bls_at (f := g) ec
    have t1 := all_take (fun c => !(f c && !g c)) ec
    have t2 := all_take (fun c => !(g c && !f c)) ec
    refine rd_cut (fun σ' H'' => ∃ v6, σ' = [some (.ref a), some (.ref o), some (.ref l1), some (.ref l2), some (.bl ((KS.take (i + 1)).all fun c => !(f c && !g c))), some (.bl ((KS.take i).all fun c => !(g c && !f c))), v6, none, none] ∧ v6 = some (.int (i : Int)) ∧ H'' = H') ?_ ?_
    · rw [t1]
      clear t1 t2 eL eM eE
      generalize (KS.take i).all (fun c => !(f c && !g c)) = L0
      generalize (KS.take i).all (fun c => !(g c && !f c)) = M0
      cases h3 : f c <;> cases h4 : g c <;> rw [h3] at g1 <;> rw [h4] at g2 <;> cases L0 <;> repeat kaf_pre
      all_goals exact ⟨_, rfl, rfl, rfl⟩
    · rintro σ' H'' ⟨v6, rfl, rfl, rfl⟩
      rw [t2]
      clear t1 t2 eL eM eE
      generalize (KS.take (i + 1)).all (fun c => !(f c && !g c)) = L0
      generalize (KS.take i).all (fun c => !(g c && !f c)) = M0
      cases h3 : f c <;> cases h4 : g c <;> rw [h3] at g1 <;> rw [h4] at g2 <;> cases M0 <;> repeat kaf_pre
      all_goals exact ⟨_, rfl, rfl⟩
  rintro σ' H' ⟨v6, rfl, rfl⟩
  rw [List.take_length, ← eL, ← eM]
  repeat kaf_pre
  refine ⟨a, dx, _, o, dy, _, rfl, rfl, ha, ho, a, o, r, r2, CS, CS2, A, B, rfl, R, O, fun H1 s1 => ?_⟩
  repeat kaf_pre
  refine ⟨a, dx, _, o, dy, _, rfl, rfl, s1 _ _ ha, s1 _ _ ho, a, o, r, r2, CS, CS2, A, B, rfl, R.same s1, O.same s1, fun H2 s2 => ?_⟩
  have s12 := s1.trans s2
  repeat kaf_pre
  refine rd_gtO (s12 _ _ ha) (s12 _ _ ho) ⟨o, a, r2, r, CS2, CS, B, A, rfl, O.same s12, R.same s12, fun H3 s3 => ⟨_, rfl, ?_⟩⟩
  have s13 := s12.trans s3
  repeat kaf_pre
  refine rd_gtO (s13 _ _ ha) (s13 _ _ ho) ⟨o, a, r2, r, CS2, CS, B, A, rfl, O.same s13, R.same s13, fun H4 s4 => ⟨_, rfl, ?_⟩⟩
  have s14 := s13.trans s4
  repeat kaf_pre
  refine ⟨a, dx, _, o, dy, _, rfl, rfl, s14 _ _ ha, s14 _ _ ho, a, o, r, r2, CS, CS2, A, B, rfl, R.same s14, O.same s14, fun H5 s5 => ?_⟩
  have s15 := s14.trans s5
  repeat kaf_pre
  refine ⟨a, dx, _, o, dy, _, rfl, rfl, s15 _ _ ha, s15 _ _ ho, a, o, r, r2, CS, CS2, A, B, rfl, R.same s15, O.same s15, fun H6 s6 => ⟨_, rfl, ?_⟩⟩
  have s16 := s15.trans s6
  repeat kaf_pre
  refine ⟨size_of (by simp), fun p np => ?_⟩
  rw [eE]
  generalize emJ "less" r CS r2 CS2 = L
  generalize emJ "less" r2 CS2 r CS = M
  have u1 := same_new (o := HO.lst ([L, L && !M, M, M && !L, L && M, !(L && M)].map V.bl)) np
  have hp := upd_same (H := H6) (a := p) (o := HO.lst ([L, L && !M, M, M && !L, L && M, !(L && M)].map V.bl))
  repeat kaf_pre
  cases L <;> cases M <;> repeat kaf_pre
  all_goals refine ⟨size_of (by simp), fun p2 np2 => ?_⟩
  all_goals repeat kaf_pre
  · have u2 := same_new (o := HO.lst ([false, false, false, false, false, true].map V.bl)) np2
    exact sm_of (rowB (n := 1) [false, false, false, false, false, true] (u2 _ _ hp) (by simp) (by simp)) (rowB (n := 1) [false, false, false, false, false, true] upd_same (by simp) (by simp)) fun H7 s7 => q _ (s16.trans (u1.trans (u2.trans s7)))
  · have u2 := same_new (o := HO.lst ([false, false, true, true, false, true].map V.bl)) np2
    exact sm_of (rowB (n := 1) [false, false, true, true, false, true] (u2 _ _ hp) (by simp) (by simp)) (rowB (n := 1) [false, false, true, true, false, true] upd_same (by simp) (by simp)) fun H7 s7 => q _ (s16.trans (u1.trans (u2.trans s7)))
  · have u2 := same_new (o := HO.lst ([true, true, false, false, false, true].map V.bl)) np2
    exact sm_of (rowB (n := 1) [true, true, false, false, false, true] (u2 _ _ hp) (by simp) (by simp)) (rowB (n := 1) [true, true, false, false, false, true] upd_same (by simp) (by simp)) fun H7 s7 => q _ (s16.trans (u1.trans (u2.trans s7)))
  · have u2 := same_new (o := HO.lst ([true, false, true, false, true, false].map V.bl)) np2
    exact sm_of (rowB (n := 1) [true, false, true, false, true, false] (u2 _ _ hp) (by simp) (by simp)) (rowB (n := 1) [true, false, true, false, true, false] upd_same (by simp) (by simp)) fun H7 s7 => q _ (s16.trans (u1.trans (u2.trans s7)))
/- slots of _law_any: 0 rows, 1 k, 2 row -/
def t_law_any (K : PySem.W.Frag) : TS :=
  (tRet (tLc (iRng1 (tCons (tCB (rLenK K) (tCons (tOp (rIx K) (tVar 0) (tC (.int 0))) tNil)) tNil)) (gName 1) tYes (tOp (rInD K) (tC (.bl true)) (tLc (iAny K (tVar 0)) (gName 2) tYes (tOp (rIx K) (tVar 2) (tVar 1)) [2])) [1]))
/- slots of _law_all: 0 rows, 1 k, 2 row -/
def t_law_all (K : PySem.W.Frag) : TS :=
  (tRet (tLc (iRng1 (tCons (tCB (rLenK K) (tCons (tOp (rIx K) (tVar 0) (tC (.int 0))) tNil)) tNil)) (gName 1) tYes (tOp (rNotInD K) (tC (.bl false)) (tLc (iAny K (tVar 0)) (gName 2) tYes (tOp (rIx K) (tVar 2) (tVar 1)) [2])) [1]))
/-! ### k17: any, all of lists of answers -/
def RowsAt (H : Hp) (KS : List Cell) (xs : List V) (fs : List (Cell → Bool)) : Prop := xs.length = fs.length ∧ ∀ (i : Nat) v f, xs[i]? = some v → fs[i]? = some f → ∃ l, v = .ref l ∧ H l = some (.lst (bls KS f))
theorem RowsAt.same {H H' : Hp} {KS : List Cell} {xs : List V} {fs : List (Cell → Bool)} (h : RowsAt H KS xs fs) (s : Same H H') : RowsAt H' KS xs fs := ⟨h.1, fun i v f e1 e2 => by
  obtain ⟨l, e, hl⟩ := h.2 i v f e1 e2
  exact ⟨l, e, s _ _ hl⟩⟩
theorem rows_nilA {H : Hp} {KS : List Cell} : RowsAt H KS [] [] := ⟨rfl, fun i v f e => by simp at e⟩
theorem rows_consA {H : Hp} {KS : List Cell} {l : Addr} {f : Cell → Bool} {xs : List V} {fs : List (Cell → Bool)} (h : H l = some (.lst (bls KS f))) (g : RowsAt H KS xs fs) : RowsAt H KS (.ref l :: xs) (f :: fs) := ⟨by rw [List.length_cons, List.length_cons, g.1], fun i v f' e1 e2 => by
  match i, e1, e2 with
  | 0, e1, e2 => cases e1; cases e2; exact ⟨l, rfl, h⟩
  | i + 1, e1, e2 => exact g.2 i v f' (by simpa using e1) (by simpa using e2)⟩
def spAny (K : PySem.W.Frag) : Sp := fun vs H Q _ => ∃ (rl : Addr) (xs : List V) (fs : List (Cell → Bool)) (KS : List Cell), vs = [.ref rl] ∧ H rl = some (.lst xs) ∧ RowsAt H KS xs fs ∧ fs ≠ [] ∧ fs.length ≤ 10 ∧ KS.length ≤ 1000 ∧ ∀ l H', H l = none → Same H H' → H' l = some (.lst (bls KS fun c => fs.any fun f => f c)) → Q (.ref l) H'
def spAll (K : PySem.W.Frag) : Sp := fun vs H Q _ => ∃ (rl : Addr) (xs : List V) (fs : List (Cell → Bool)) (KS : List Cell), vs = [.ref rl] ∧ H rl = some (.lst xs) ∧ RowsAt H KS xs fs ∧ fs ≠ [] ∧ fs.length ≤ 10 ∧ KS.length ≤ 1000 ∧ ∀ l H', H l = none → Same H H' → H' l = some (.lst (bls KS fun c => fs.all fun f => f c)) → Q (.ref l) H'
theorem dpa_bls {K : PySem.W.Frag} {H : Hp} : ∀ bs : List Bool, DpAll K H (bs.map V.bl) (bs.map PyData.bool)
  | [] => .nil
  | b :: bs => .cons (.bl b) (dpa_bls bs)
theorem depth_bls : ∀ bs : List Bool, PyData.depthAll (bs.map PyData.bool) ≤ 1
  | [] => by decide
  | b :: r => by
    have := depth_bls r
    rw [List.map_cons]
    exact Nat.max_le.mpr ⟨by simp [PyData.depth], this⟩
theorem lay_bls : ∀ bs : List Bool, PyData.canLayAll0 (bs.map PyData.bool) = true
  | [] => rfl
  | b :: bs => by
    rw [List.map_cons]
    unfold PyData.canLayAll0
    rw [lay_bls bs]
    cases b <;> rfl
theorem shaped_bls (bs : List Bool) : SeqAt.shaped (.list (bs.map PyData.bool)) = true := by
  refine Bool.and_eq_true_iff.mpr ⟨lay_bls bs, decide_eq_true ?_⟩
  have := depth_bls bs
  show PyData.depthAll (bs.map PyData.bool) + 1 ≤ 64
  omega
theorem shaped_bl (b : Bool) : SeqAt.shaped (.bool b) = true := by cases b <;> decide +kernel
theorem any_bls (bs : List Bool) (b : Bool) : ((bs.map PyData.bool).any fun z => PyData.eqv z (.bool b)) = decide (b ∈ bs) := by
  rw [List.any_map, Bool.eq_iff_iff, List.any_eq_true, decide_eq_true_eq]
  have e : ∀ x : Bool, (PyData.eqv (.bool x) (.bool b)) = decide (x = b) := fun x => by cases x <;> cases b <;> decide +kernel
  simp only [Function.comp, e, decide_eq_true_eq]
  exact ⟨fun ⟨x, m, e⟩ => e ▸ m, fun m => ⟨b, m, rfl⟩⟩
theorem any_true (fs : List (Cell → Bool)) (c : Cell) : decide (true ∈ fs.map fun f => f c) = fs.any fun f => f c := by
  rw [Bool.eq_iff_iff, decide_eq_true_eq, List.any_eq_true, List.mem_map]
theorem all_true (fs : List (Cell → Bool)) (c : Cell) : (!decide (false ∈ fs.map fun f => f c)) = fs.all fun f => f c := by
  rw [Bool.eq_iff_iff, Bool.not_eq_true', decide_eq_false_iff_not, List.all_eq_true, List.mem_map]
  refine ⟨fun h f m => ?_, fun h ⟨f, m, e⟩ => by rw [h f m] at e; cases e⟩
  cases e : f c with
  | true => rfl
  | false => exact absurd ⟨f, m, e⟩ h
theorem zipS {α : Type} {xs : List V} {fs : List α} (p : α → V) (h : xs.length = fs.length) : ((xs.zip fs).filter fun _ => true).map (fun q => p q.2) = fs.map p := by
  rw [List.filter_eq_self.mpr fun _ _ => rfl]
  have z : (xs.zip fs).map Prod.snd = fs := List.map_snd_zip (by rw [h]; exact Nat.le_refl _)
  conv => rhs; rw [← z, List.map_map]
  rfl
theorem len_law_any (K : PySem.W.Frag) {vs : List V} {H : Hp} {Q : VK} {E : XK} (h : spAny K vs H Q E) : vs.length = 1 := by
  obtain ⟨rl, xs, fs, KS, rfl, _⟩ := h
  rfl
theorem rd_law_any (K : PySem.W.Frag) (vs : List V) (H : Hp) (Q : VK) (E : XK) (h : spAny K vs H Q E) : t_law_any K { nx := fun _ H' => Q .non H', rt := Q } (start ["rows", "k", "row"] vs) H := by
  obtain ⟨rl, xs, fs, KS, rfl, hrl, hr, nf, lf, lk, q⟩ := h
  obtain ⟨x0, y0, f0, fr, rfl, rfl⟩ : ∃ x0 y0 f0 fr, xs = x0 :: y0 ∧ fs = f0 :: fr := by
    cases fs with
    | nil => exact absurd rfl nf
    | cons f0 fr =>
      cases xs with
      | nil => have := hr.1; simp at this
      | cons x0 y0 => exact ⟨_, _, _, _, rfl, rfl⟩
  obtain ⟨l0, rfl, hl0⟩ := hr.2 0 _ _ rfl rfl
  unfold t_law_any
  repeat kaf_pre
  refine rd_ixL (SqL.of hrl) (atI_nat (j := 0) rfl) ?_
  repeat kaf_pre
  generalize hfs : f0 :: fr = fs at *
  generalize hxs : V.ref l0 :: y0 = xs at *
  refine lcRs (n := KS.length) (by rw [List.length_map]) (fun _ => true) (fun i => .bl ((fun c => fs.any fun f => f c) (KS.getD i selfC))) (by omega) (fun i H1 hi s1 R r => r _ (Same.refl _)) (fun i H1 hi _ s1 R r => ?_) fun Dd H1 nD s1 hD => ?_
  · have e := List.getElem?_eq_getElem (l := KS) (i := i) hi
    have ed : KS.getD i selfC = KS[i] := by simp [List.getD, hi]
    rw [ed] at r
    generalize KS[i] = c at e r
    have hx : SqL K H1 rl ((xs.zip fs).map (·.1)) := by rw [zip_fst hr.1]; exact SqL.of (s1 _ _ hrl)
    repeat kaf_pre
    refine lcGs hx (fun _ => true) (fun q => .bl (q.2 c)) (by have := List.length_zip (l₁ := xs) (l₂ := fs); omega) (fun j y H2 hy s R rr => rr _ (Same.refl _)) (fun j y H2 hy _ s R rr => ?_) fun D2 H2 n2 s2 h2 => ?_
    · obtain ⟨e1, e2⟩ := mem_zip_at hy
      obtain ⟨lj, ek, hlj⟩ := hr.2 j _ _ e1 e2
      simp only [ek]
      have hlj2 := s _ _ (s1 _ _ hlj)
      have gj := bls_at (f := y.2) e
      repeat kaf_pre
      exact rr _ (Same.refl _)
    · have e3 : ((xs.zip fs).filter fun _ => true).map (fun q => V.bl (q.2 c)) = (fs.map fun f => f c).map V.bl := by
        rw [zipS (fun f => V.bl (f c)) hr.1, List.map_map]
        rfl
      rw [e3] at h2
      repeat kaf_pre
      refine rd_inD (.bl true) (.lst (SqL.of h2) (dpa_bls _)) (shaped_bl _) (shaped_bls _) ?_
      rw [any_bls, any_true]
      exact r _ s2
  · rw [range_map KS fun c => .bl ((fun c => fs.any fun f => f c) c)] at hD
    exact q Dd H1 nD s1 hD
theorem len_law_all (K : PySem.W.Frag) {vs : List V} {H : Hp} {Q : VK} {E : XK} (h : spAll K vs H Q E) : vs.length = 1 := by
  obtain ⟨rl, xs, fs, KS, rfl, _⟩ := h
  rfl
theorem rd_law_all (K : PySem.W.Frag) (vs : List V) (H : Hp) (Q : VK) (E : XK) (h : spAll K vs H Q E) : t_law_all K { nx := fun _ H' => Q .non H', rt := Q } (start ["rows", "k", "row"] vs) H := by
  obtain ⟨rl, xs, fs, KS, rfl, hrl, hr, nf, lf, lk, q⟩ := h
  obtain ⟨x0, y0, f0, fr, rfl, rfl⟩ : ∃ x0 y0 f0 fr, xs = x0 :: y0 ∧ fs = f0 :: fr := by
    cases fs with
    | nil => exact absurd rfl nf
    | cons f0 fr =>
      cases xs with
      | nil => have := hr.1; simp at this
      | cons x0 y0 => exact ⟨_, _, _, _, rfl, rfl⟩
  obtain ⟨l0, rfl, hl0⟩ := hr.2 0 _ _ rfl rfl
  unfold t_law_all
  repeat kaf_pre
  refine rd_ixL (SqL.of hrl) (atI_nat (j := 0) rfl) ?_
  repeat kaf_pre
  generalize hfs : f0 :: fr = fs at *
  generalize hxs : V.ref l0 :: y0 = xs at *
  refine lcRs (n := KS.length) (by rw [List.length_map]) (fun _ => true) (fun i => .bl ((fun c => fs.all fun f => f c) (KS.getD i selfC))) (by omega) (fun i H1 hi s1 R r => r _ (Same.refl _)) (fun i H1 hi _ s1 R r => ?_) fun Dd H1 nD s1 hD => ?_
  · have e := List.getElem?_eq_getElem (l := KS) (i := i) hi
    have ed : KS.getD i selfC = KS[i] := by simp [List.getD, hi]
    rw [ed] at r
    generalize KS[i] = c at e r
    have hx : SqL K H1 rl ((xs.zip fs).map (·.1)) := by rw [zip_fst hr.1]; exact SqL.of (s1 _ _ hrl)
    repeat kaf_pre
    refine lcGs hx (fun _ => true) (fun q => .bl (q.2 c)) (by have := List.length_zip (l₁ := xs) (l₂ := fs); omega) (fun j y H2 hy s R rr => rr _ (Same.refl _)) (fun j y H2 hy _ s R rr => ?_) fun D2 H2 n2 s2 h2 => ?_
    · obtain ⟨e1, e2⟩ := mem_zip_at hy
      obtain ⟨lj, ek, hlj⟩ := hr.2 j _ _ e1 e2
      simp only [ek]
      have hlj2 := s _ _ (s1 _ _ hlj)
      have gj := bls_at (f := y.2) e
      repeat kaf_pre
      exact rr _ (Same.refl _)
    · have e3 : ((xs.zip fs).filter fun _ => true).map (fun q => V.bl (q.2 c)) = (fs.map fun f => f c).map V.bl := by
        rw [zipS (fun f => V.bl (f c)) hr.1, List.map_map]
        rfl
      rw [e3] at h2
      repeat kaf_pre
      refine rd_notInD (.bl false) (.lst (SqL.of h2) (dpa_bls _)) (shaped_bl _) (shaped_bls _) ?_
      rw [any_bls, all_true]
      exact r _ s2
  · rw [range_map KS fun c => .bl ((fun c => fs.all fun f => f c) c)] at hD
    exact q Dd H1 nD s1 hD
/- slots of _law_of_none: 0 kins, 1 full, 2 row -/
def t_law_of_none (K : PySem.W.Frag) (Z : Cs) : TS :=
  (tSeq (tAsg (tLc (iAny K (tVar 0)) (gName 2) tYes (tOp rGtI (tOp (rAddA K) (tOp (rIx K) (tVar 2) (tC (.int 0))) (tOp (rIx K) (tVar 2) (tC (.int 1)))) (tC (.int 0))) [2]) (gName 1))
  (tSeqC (tIfS (tOr (tNot (tTru K (tCall (spIsRule K Z) [] E0 (tCons (tCallS (starSp 0 (spUnion Z)) (fun _ => E0) tNil) (tCons (tVar 0) (tCons (tOp rMulA (tLst (tCons (tC (.bl false)) tNil)) (tCB (rLenK K) (tCons (tVar 0) tNil))) tNil)))))) (tNot (tTru K (tCall (spIsRule K Z) [] E0 (tCons (tCallS (starSp 0 (spCut Z)) (fun _ => E0) tNil) (tCons (tVar 0) (tCons (tVar 1) tNil))))))) (tRet (tC (.bl false))) tNext)
  (tRet (tCall (spSm K 3) [] E0 (tCons (tLst (tCons (tProp Z.Rule (spReach Z) [] E0 (tCallS (starSp 0 (spUnion Z)) (fun _ => E0) tNil)) (tCons (tProp Z.Rule (spReach Z) [] E0 (tCallS (starSp 0 (spCut Z)) (fun _ => E0) tNil)) (tCons (tCB (rLenO Z.Rule (spRLen Z) E0) (tCons (tCallS (starSp 0 (spUnion Z)) (fun _ => E0) tNil) tNil)) (tCons (tCB (rLenO Z.Rule (spRLen Z) E0) (tCons (tCallS (starSp 0 (spCut Z)) (fun _ => E0) tNil) tNil)) tNil))))) (tCons (tLst (tCons (tC (.int 1)) (tCons (tC (.int 1)) (tCons (tC (.int 0)) (tCons (tC (.int 4)) tNil))))) tNil))))))
def spOfNone (K : PySem.W.Frag) (Z : Cs) : Sp := fun vs H Q _ => ∃ (kl : Addr) (tk : List V) (KS : List Cell), vs = [.ref kl] ∧ H kl = some (.lst tk) ∧ TupsAt H tk KS ∧ KS.length ≤ 1000 ∧ (∀ c ∈ KS, KinC c) ∧ ∀ H', Same H H' → Q (.bl true) H'
theorem len_law_of_none (K : PySem.W.Frag) {Z : Cs} {vs : List V} {H : Hp} {Q : VK} {E : XK} (h : spOfNone K Z vs H Q E) : vs.length = 1 := by
  obtain ⟨kl, tk, KS, rfl, _⟩ := h
  rfl
theorem rep_bls : ∀ KS : List Cell, List.replicate KS.length (V.bl false) = bls KS fun _ => false
  | [] => rfl
  | c :: KS => by
    show V.bl false :: List.replicate KS.length (V.bl false) = _
    rw [rep_bls KS]
    rfl
theorem rulsNil {Z : Cs} {H : Hp} : RulsAt Z H [] := fun y m => by cases m
theorem rd_law_of_none (K : PySem.W.Frag) (Z : Cs) (cf : Cf K Z) (vs : List V) (H : Hp) (Q : VK) (E : XK) (h : spOfNone K Z vs H Q E) : t_law_of_none K Z { nx := fun _ H' => Q .non H', rt := Q } (start ["kins", "full", "row"] vs) H := by
  obtain ⟨kl, tk, KS, rfl, hk, htk, lk, kc, q⟩ := h
  unfold t_law_of_none
  repeat kaf_pre
  have hx : SqL K H kl ((tk.zip KS).map (·.1)) := by rw [zip_fst htk.1]; exact SqL.of hk
  refine lcGs hx (fun _ => true) (fun q => .bl (decide (q.2.1 + q.2.2.1 > 0))) (by have := List.length_zip (l₁ := tk) (l₂ := KS); omega) (fun i y H1 hy s R rr => rr _ (Same.refl _)) (fun i y H1 hy _ s R rr => ?_) fun fu H1 nfu s1 hfu => ?_
  · obtain ⟨e1, e2⟩ := mem_zip_at hy
    obtain ⟨t, ek, ht⟩ := htk.2 i _ _ e1 e2
    simp only [ek]
    have ht' := s _ _ ht
    repeat kaf_pre
    exact rr _ (Same.refl _)
  rw [zip_bls (fun c => decide (c.1 + c.2.1 > 0)) htk.1] at hfu
  have ltk : tk.length ≤ 1000 := by rw [htk.1]; exact lk
  repeat kaf_pre
  refine rd_cut (fun σ' H' => σ' = [some (.ref kl), some (.ref fu), none] ∧ Same H1 H') ?_ ?_
  · repeat kaf_pre
    refine union_of [] rfl rulsNil (by simp) fun x X H2 fX s2 RX => ?_
    have hk2 := s2 _ _ (s1 _ _ hk)
    repeat kaf_pre
    refine ⟨size_of (by simp), fun p np => ?_⟩
    have u := same_new (o := HO.lst [.bl false]) np
    have hp := upd_same (H := H2) (a := p) (o := HO.lst [.bl false])
    have hk3 := u _ _ hk2
    have s3 := s2.trans u
    have RX3 := RX.same u
    generalize upd H2 p (HO.lst [.bl false]) = H3 at *
    repeat kaf_pre
    refine rd_rep hp (by omega) (by omega) (size_of (by simp; omega)) fun p2 np2 => ?_
    rw [List.flatten_replicate_singleton, show ((tk.length : Int)).toNat = KS.length from by rw [← htk.1]; omega, rep_bls]
    have u2 := same_new (o := HO.lst (bls KS fun _ => false)) np2
    have hp2 := upd_same (H := H3) (a := p2) (o := HO.lst (bls KS fun _ => false))
    have s4 := s3.trans u2
    have RX4 := RX3.same u2
    have hk4 := u2 _ _ hk3
    generalize upd H3 p2 (HO.lst (bls KS fun _ => false)) = H4 at *
    repeat kaf_pre
    refine ⟨x, kl, p2, _, _, KS, X, tk, _, rfl, RX4, hk4, htk.same (s1.trans s4), hp2, lk, fun c m => uni_let (ys := []) (fun y m => by cases m) (kc c m), fun H5 s5 => ?_⟩
    have s45 := s4.trans s5
    repeat kaf_pre
    refine cut_of [] rfl rulsNil (by simp) fun y Y H6 fY s6 RY => ?_
    have s46 := s45.trans s6
    repeat kaf_pre
    refine ⟨y, kl, fu, _, _, KS, Y, tk, _, rfl, RY, s46 _ _ (s1 _ _ hk), htk.same (s1.trans s46), s46 _ _ hfu, lk, fun c m => ?_, fun H7 s7 => ?_⟩
    · rw [cut_let (ys := []) (fun y m => by cases m) (kc c m)]
      simp
    repeat kaf_pre
    exact ⟨rfl, s46.trans s7⟩
  rintro σ' H2 ⟨rfl, s2⟩
  have n0 : ((rowsL 1 []).length : Int) = 0 := by decide +kernel
  have n4 : ((rowsL 1 (cellsL 1)).length : Int) = 4 := by decide +kernel
  repeat kaf_pre
  refine union_of [] rfl rulsNil (by simp) fun x1 X1 H3 f1 s3 R1 => ?_
  obtain ⟨dx1, d1, l1, h1⟩ := R1.obj
  repeat kaf_pre
  refine ⟨x1, 1, [], X1, rfl, R1, ?_⟩
  repeat kaf_pre
  refine cut_of [] rfl rulsNil (by simp) fun x2 X2 H4 f2 s4 R2 => ?_
  obtain ⟨dx2, d2, l2, h2⟩ := R2.obj
  repeat kaf_pre
  refine ⟨x2, 1, cellsL 1, X2, rfl, R2, ?_⟩
  repeat kaf_pre
  refine union_of [] rfl rulsNil (by simp) fun x3 X3 H5 f3 s5 R3 => ?_
  obtain ⟨dx, d, l, h3⟩ := R3.obj
  repeat kaf_pre
  refine rd_lenO h3 ⟨x3, 1, [], X3, rfl, R3, _, rfl, by rw [n0]; omega, by rw [n0]; omega, ?_⟩
  rw [n0]
  repeat kaf_pre
  refine cut_of [] rfl rulsNil (by simp) fun x4 X4 H6 f4 s6 R4 => ?_
  obtain ⟨dx, d, l, h4⟩ := R4.obj
  repeat kaf_pre
  refine rd_lenO h4 ⟨x4, 1, cellsL 1, X4, rfl, R4, _, rfl, by rw [n4]; omega, by rw [n4]; omega, ?_⟩
  rw [n4]
  repeat kaf_pre
  refine ⟨size_of (by simp), fun p1 np1 => ?_⟩
  have u1 := same_new (o := HO.lst ([1, 1, 0, 4].map V.int)) np1
  have hp1 : upd H6 p1 (HO.lst ([1, 1, 0, 4].map V.int)) p1 = some (.lst ([1, 1, 0, 4].map V.int)) := upd_same
  repeat kaf_pre
  refine ⟨size_of (by simp), fun p2 np2 => ?_⟩
  have u2 := same_new (o := HO.lst ([1, 1, 0, 4].map V.int)) np2
  repeat kaf_pre
  exact sm_of (rowI (n := 1) [1, 1, 0, 4] (u2 _ _ hp1) (by simp) (by simp)) (rowI (n := 1) [1, 1, 0, 4] upd_same (by simp) (by simp)) fun H7 s7 => q _ (s1.trans (s2.trans (s3.trans (s4.trans (s5.trans (s6.trans (u1.trans (u2.trans s7))))))))
/- slots of law: 0 script, 1 state, 2 left, 3 right, 4 last, 5 mine, 6 near, 7 third, 8 great, 9 most, 10 kins, 11 a, 12 b, 13 c, 14 one, 15 two, 16 three, 17 top, 18 low, 19 above, 20 below -/
def t_law (K : PySem.W.Frag) (Z : Cs) : TS :=
  (tSeq (tAsg (tCall (spStart K) [] E0 (tCons (tVar 0) tNil)) (gName 1))
  (tSeq (tAsg (tCall (spLReach) [] E0 (tCons (tVar 1) tNil)) (gName 2))
  (tSeq (tAsg (tCall (spLReach) [] E0 (tCons (tVar 1) tNil)) (gName 3))
  (tSeq (tAsg (tCall (spLReach) [] E0 (tCons (tVar 1) tNil)) (gName 4))
  (tSeq (tAsg (tCall (spRuleCells) [] E0 (tCons (tVar 1) (tCons (tVar 2) tNil))) (gName 5))
  (tSeq (tAsg (tCall (spNear K) [] E0 (tCons (tVar 1) (tCons (tVar 2) (tCons (tVar 5) (tCons (tVar 3) tNil))))) (gName 6))
  (tSeq (tAsg (tCall (spRuleCells) [] E0 (tCons (tVar 1) (tCons (tVar 4) tNil))) (gName 7))
  (tSeq (tAsg (tCB rMax2 (tCons (tVar 2) (tCons (tCB rInt1 (tCons (tOp (rIx K) (tVar 6) (tC (.int 0))) tNil)) tNil))) (gName 8))
  (tSeq (tAsg (tCB rMax2 (tCons (tVar 8) (tCons (tCB rInt1 (tCons (tVar 4) tNil)) tNil))) (gName 9))
  (tSeq (tAsg (tOp (rAddA K) (tCall (spCells) [] E0 (tCons (tVar 9) tNil)) (tLst (tCons (tTup (tCons (tC (.int 0)) (tCons (tC (.int 0)) (tCons (tC (.str "line")) tNil)))) (tCons (tCall (spParts) [] E0 (tCons (tVar 1) (tCons (tC (.int 9)) tNil))) tNil)))) (gName 10))
  (tSeq (tAsg (tCall (spLRule K Z) [] E0 (tCons (tVar 2) (tCons (tVar 5) tNil))) (gName 11))
  (tSeq (tAsg (tCall (spLRule K Z) [] E0 (tCons (tOp (rIx K) (tVar 6) (tC (.int 0))) (tCons (tOp (rIx K) (tVar 6) (tC (.int 1))) tNil))) (gName 12))
  (tSeq (tAsg (tCall (spLRule K Z) [] E0 (tCons (tVar 4) (tCons (tVar 7) tNil))) (gName 13))
  (tSeq (tAsg (tCall (spLetsAll K) [] E0 (tCons (tVar 2) (tCons (tVar 5) (tCons (tVar 10) tNil)))) (gName 14))
  (tSeq (tAsg (tCall (spLetsAll K) [] E0 (tCons (tOp (rIx K) (tVar 6) (tC (.int 0))) (tCons (tOp (rIx K) (tVar 6) (tC (.int 1))) (tCons (tVar 10) tNil)))) (gName 15))
  (tSeq (tAsg (tCall (spLetsAll K) [] E0 (tCons (tVar 4) (tCons (tVar 7) (tCons (tVar 10) tNil)))) (gName 16))
  (tSeq (tIfS (tNot (tTru K (tCall (spCompared K Z) [] E0 (tCons (tVar 11) (tCons (tVar 12) (tCons (tVar 14) (tCons (tVar 15) tNil))))))) (tRet (tC (.bl false))) tNext)
  (tSeqC (tIfS (tOr (tNot (tTru K (tCall (spOfNone K Z) [] E0 (tCons (tVar 10) tNil)))) (tOr (tNot (tTru K (tCall (spIsRule K Z) [] E0 (tCons (tCallS (starSp 0 (spUnion Z)) (fun _ => E0) (tCons (tVar 12) tNil)) (tCons (tVar 10) (tCons (tVar 15) tNil)))))) (tNot (tTru K (tCall (spIsRule K Z) [] E0 (tCons (tCallS (starSp 0 (spCut Z)) (fun _ => E0) (tCons (tVar 12) tNil)) (tCons (tVar 10) (tCons (tVar 15) tNil)))))))) (tRet (tC (.bl false))) tNext)
  (tSeq (tAsg (tCallS (starSp 0 (spUnion Z)) (fun _ => E0) (tCons (tVar 11) (tCons (tVar 12) tNil))) (gName 17))
  (tSeq (tAsg (tCallS (starSp 0 (spCut Z)) (fun _ => E0) (tCons (tVar 11) (tCons (tVar 12) tNil))) (gName 18))
  (tSeq (tAsg (tCall (spAny K) [] E0 (tCons (tLst (tCons (tVar 14) (tCons (tVar 15) tNil))) tNil)) (gName 19))
  (tSeq (tAsg (tCall (spAll K) [] E0 (tCons (tLst (tCons (tVar 14) (tCons (tVar 15) tNil))) tNil)) (gName 20))
  (tSeqC (tIfS (tOr (tNot (tTru K (tCall (spIsRule K Z) [] E0 (tCons (tVar 17) (tCons (tVar 10) (tCons (tVar 19) tNil)))))) (tNot (tTru K (tCall (spIsRule K Z) [] E0 (tCons (tVar 18) (tCons (tVar 10) (tCons (tVar 20) tNil))))))) (tRet (tC (.bl false))) tNext)
  (tSeq (tIfS (tNot (tTru K (tCall (spSm K 3) [] E0 (tCons (tLst (tCons (tProp Z.Rule (spReach Z) [] E0 (tVar 17)) (tCons (tProp Z.Rule (spReach Z) [] E0 (tVar 18)) tNil))) (tCons (tLst (tCons (tVar 8) (tCons (tVar 8) tNil))) tNil))))) (tRet (tC (.bl false))) tNext)
  (tSeq (tIfS (tNot (tTru K (tCall (spCompared K Z) [] E0 (tCons (tVar 13) (tCons (tVar 17) (tCons (tVar 16) (tCons (tVar 19) tNil))))))) (tRet (tC (.bl false))) tNext)
  (tSeq (tAsg (tCallS (starSp 0 (spUnion Z)) (fun _ => E0) (tCons (tVar 11) (tCons (tVar 12) (tCons (tVar 13) tNil)))) (gName 17))
  (tSeq (tAsg (tCallS (starSp 0 (spCut Z)) (fun _ => E0) (tCons (tVar 11) (tCons (tVar 12) (tCons (tVar 13) tNil)))) (gName 18))
  (tSeq (tIfS (tNot (tTru K (tCall (spIsRule K Z) [] E0 (tCons (tVar 17) (tCons (tVar 10) (tCons (tCall (spAny K) [] E0 (tCons (tLst (tCons (tVar 14) (tCons (tVar 15) (tCons (tVar 16) tNil)))) tNil)) tNil)))))) (tRet (tC (.bl false))) tNext)
  (tSeq (tIfS (tNot (tTru K (tCall (spIsRule K Z) [] E0 (tCons (tVar 18) (tCons (tVar 10) (tCons (tCall (spAll K) [] E0 (tCons (tLst (tCons (tVar 14) (tCons (tVar 15) (tCons (tVar 16) tNil)))) tNil)) tNil)))))) (tRet (tC (.bl false))) tNext)
  (tSeq (tIfS (tNot (tTru K (tCall (spSm K 3) [] E0 (tCons (tLst (tCons (tProp Z.Rule (spReach Z) [] E0 (tVar 17)) (tCons (tProp Z.Rule (spReach Z) [] E0 (tVar 18)) tNil))) (tCons (tLst (tCons (tVar 9) (tCons (tVar 9) tNil))) tNil))))) (tRet (tC (.bl false))) tNext)
  (tSeqC (tIfS (tOr (tNot (tTru K (tCall (spIsRule K Z) [] E0 (tCons (tVar 11) (tCons (tVar 10) (tCons (tVar 14) tNil)))))) (tOr (tNot (tTru K (tCall (spIsRule K Z) [] E0 (tCons (tVar 12) (tCons (tVar 10) (tCons (tVar 15) tNil)))))) (tNot (tTru K (tCall (spIsRule K Z) [] E0 (tCons (tVar 13) (tCons (tVar 10) (tCons (tVar 16) tNil)))))))) (tRet (tC (.bl false))) tNext)
  (tRet (tCall (spSm K 3) [] E0 (tCons (tLst (tCons (tProp Z.Rule (spReach Z) [] E0 (tVar 11)) (tCons (tProp Z.Rule (spReach Z) [] E0 (tVar 12)) (tCons (tProp Z.Rule (spReach Z) [] E0 (tVar 13)) tNil)))) (tCons (tLst (tCons (tVar 2) (tCons (tOp (rIx K) (tVar 6) (tC (.int 0))) (tCons (tVar 4) tNil)))) tNil)))))))))))))))))))))))))))))))))))
theorem fold_fst {w : Str} : ∀ (ys : List RR) (x : Nat × List Cell), (foldJ w x ys).1 = ys.foldl (fun m z => maxR m z.r) x.1
  | [], _ => rfl
  | y :: ys, x => fold_fst ys (stepJ w x y)
theorem max_one {r : Nat} (h : 1 ≤ r) : maxR 1 r = r := by unfold maxR; split <;> omega
structure G17 (Z : Cs) (H : Hp) (kl nl yl ra rb rc l1 l2 l3 : Addr) (tk : List V) (KS : List Cell) (r r2 r3 : Nat) (MS YS TS : List Cell) (A B C : List Addr) : Prop where
  hk : H kl = some (.lst tk)
  ht : TupsAt H tk KS
  hn : H nl = some (.lst [.int (r2 : Int), .ref yl])
  R : Rul Z H ra r MS A
  O : Rul Z H rb r2 YS B
  T : Rul Z H rc r3 TS C
  o1 : H l1 = some (.lst (bls KS (letC r MS)))
  o2 : H l2 = some (.lst (bls KS (letC r2 YS)))
  o3 : H l3 = some (.lst (bls KS (letC r3 TS)))
theorem G17.same {Z : Cs} {H H' : Hp} {kl nl yl ra rb rc l1 l2 l3 : Addr} {tk : List V} {KS : List Cell} {r r2 r3 : Nat} {MS YS TS : List Cell} {A B C : List Addr} (g : G17 Z H kl nl yl ra rb rc l1 l2 l3 tk KS r r2 r3 MS YS TS A B C) (s : Same H H') : G17 Z H' kl nl yl ra rb rc l1 l2 l3 tk KS r r2 r3 MS YS TS A B C :=
  ⟨s _ _ g.hk, g.ht.same s, s _ _ g.hn, g.R.same s, g.O.same s, g.T.same s, s _ _ g.o1, s _ _ g.o2, s _ _ g.o3⟩
theorem ruls1 {Z : Cs} {H : Hp} {a : Addr} {r : Nat} {CS : List Cell} {A : List Addr} {ys : List RR} (R : Rul Z H a r CS A) (h : RulsAt Z H ys) : RulsAt Z H (⟨a, r, CS, A⟩ :: ys) := fun y m => by
  rcases List.mem_cons.mp m with rfl | m
  · exact R
  · exact h y m
def spLaw (K : PySem.W.Frag) : Sp := fun vs H Q _ => ∃ (a : Addr) (ns : List Int), vs = [.ref a] ∧ SqL K H a (ns.map V.int) ∧ ns.length ≤ 63 ∧ ∀ H', Q (.bl true) H'
theorem len_law (K : PySem.W.Frag) {vs : List V} {H : Hp} {Q : VK} {E : XK} (h : spLaw K vs H Q E) : vs.length = 1 := by
  obtain ⟨a, ns, rfl, _⟩ := h
  rfl
set_option maxHeartbeats 0 in
theorem rd_law (K : PySem.W.Frag) (Z : Cs) (cf : Cf K Z) (vs : List V) (H : Hp) (Q : VK) (E : XK) (h : spLaw K vs H Q E) : t_law K Z { nx := fun _ H' => Q .non H', rt := Q } (start ["script", "state", "left", "right", "last", "mine", "near", "third", "great", "most", "kins", "a", "b", "c", "one", "two", "three", "top", "low", "above", "below"] vs) H := by
  obtain ⟨a0, ns, rfl, hs0, _, q⟩ := h
  unfold t_law
  repeat kaf_pre
  refine ⟨a0, ns, rfl, hs0, fun st sc H1 nst nsc hst hsc s1 => ?_⟩
  have ne := st_ne hst hsc
  clear hs0 s1
  repeat kaf_pre
  refine ⟨st, sc, ns, 0, 0, 0, 0, rfl, hst, hsc, fun r a b c d H2 r1 r4 hst2 B2 => ?_⟩
  have hsc2 := But.off B2 _ _ ne hsc
  clear hst hsc B2
  repeat kaf_pre
  refine ⟨st, sc, ns, a, b, c, d, rfl, hst2, hsc2, fun rr a b c d H3 x1 x4 hst3 B3 => ?_⟩
  have hsc3 := But.off B3 _ _ ne hsc2
  clear hst2 hsc2 B3
  repeat kaf_pre
  refine ⟨st, sc, ns, a, b, c, d, rfl, hst3, hsc3, fun r3 a b c d H4 t1 t4 hst4 B4 => ?_⟩
  have hsc4 := But.off B4 _ _ ne hsc3
  clear hst3 hsc3 B4
  repeat kaf_pre
  refine ⟨st, sc, ns, a, b, c, d, r, rfl, r1, r4, hst4, hsc4, fun ml tm MS a b c d H5 nml hml htm coM hst5 B5 => ?_⟩
  have hsc5 := But.off B5 _ _ ne hsc4
  have mlst : ml ≠ st := (ne_of_none hst4 nml).symm
  clear hst4 hsc4 B5 nml
  repeat kaf_pre
  refine ⟨st, sc, ns, a, b, c, d, r, rr, ml, tm, MS, rfl, r1, r4, x1, x4, hst5, hsc5, hml, htm, coM, mlst, fun nl yl r2 ty YS a b c d H6 nnl hnl q1 q4 nyl hyl hty coY hst6 B6 => ?_⟩
  have hsc6 := But.off B6 _ _ ne hsc5
  have nlst : nl ≠ st := (ne_of_none hst5 nnl).symm
  have ylst : yl ≠ st := (ne_of_none hst5 nyl).symm
  have hml6 := But.off B6 _ _ mlst hml
  have htm6 := htm.keep B6 (.cons hst5 .nil)
  clear hst5 hsc5 hml htm B6 nnl nyl
  repeat kaf_pre
  refine ⟨st, sc, ns, a, b, c, d, r3, rfl, t1, t4, hst6, hsc6, fun tl tt TS a b c d H7 ntl htl htt coT hst7 B7 => ?_⟩
  have hsc7 := But.off B7 _ _ ne hsc6
  have tlst : tl ≠ st := (ne_of_none hst6 ntl).symm
  have hml7 := But.off B7 _ _ mlst hml6
  have htm7 := htm6.keep B7 (.cons hst6 .nil)
  have hnl7 := But.off B7 _ _ nlst hnl
  have hyl7 := But.off B7 _ _ ylst hyl
  have hty7 := hty.keep B7 (.cons hst6 .nil)
  clear hst6 hsc6 hml6 htm6 hnl hyl hty B7 ntl
  repeat kaf_pre
  have eg : (if (r2 : Int) > (r : Int) then (r2 : Int) else (r : Int)) = ((maxR r r2 : Nat) : Int) := by unfold maxR; split <;> split <;> omega
  rw [eg]
  have eg2 : (if (r3 : Int) > ((maxR r r2 : Nat) : Int) then (r3 : Int) else ((maxR r r2 : Nat) : Int)) = ((maxR (maxR r r2) r3 : Nat) : Int) := by
    generalize maxR r r2 = z
    unfold maxR; split <;> split <;> omega
  have m1 : 1 ≤ maxR r r2 := by unfold maxR; split <;> omega
  have m4 : maxR r r2 ≤ 4 := by unfold maxR; split <;> omega
  have p1 : 1 ≤ maxR (maxR r r2) r3 := by generalize maxR r r2 = z at *; unfold maxR; split <;> omega
  have p4 : maxR (maxR r r2) r3 ≤ 4 := by generalize maxR r r2 = z at *; unfold maxR; split <;> omega
  have lem : maxR r r2 ≤ maxR (maxR r r2) r3 := by generalize maxR r r2 = z at *; unfold maxR; split <;> omega
  repeat kaf_pre
  rw [eg2]
  generalize hm : maxR r r2 = m at *
  generalize hp : maxR m r3 = mm at *
  repeat kaf_pre
  refine ⟨mm, rfl, p4, fun l0 ts0 H8 nl0 hl0 ht0 s8 => ?_⟩
  have l0st : l0 ≠ st := (ne_of_none hst7 nl0).symm
  have hst8 := s8 _ _ hst7; have hsc8 := s8 _ _ hsc7; have hml8 := s8 _ _ hml7; have htm8 := htm7.same s8; have hnl8 := s8 _ _ hnl7; have hyl8 := s8 _ _ hyl7; have hty8 := hty7.same s8; have htl8 := s8 _ _ htl; have htt8 := htt.same s8
  clear hst7 hsc7 hml7 htm7 hnl7 hyl7 hty7 htl htt s8 nl0
  repeat kaf_pre
  refine ⟨size_of (by simp), fun t0 nt0 => ?_⟩
  have u1 := same_new (o := HO.tup [.int 0, .int 0, .str "line"]) nt0
  have hz := upd_same (H := H8) (a := t0) (o := HO.tup [.int 0, .int 0, .str "line"])
  have hst9 := u1 _ _ hst8; have hsc9 := u1 _ _ hsc8; have hml9 := u1 _ _ hml8; have htm9 := htm8.same u1; have hnl9 := u1 _ _ hnl8; have hyl9 := u1 _ _ hyl8; have hty9 := hty8.same u1; have htl9 := u1 _ _ htl8; have htt9 := htt8.same u1; have hl09 := u1 _ _ hl0; have ht09 := ht0.same u1
  generalize upd H8 t0 (HO.tup [.int 0, .int 0, .str "line"]) = H9 at *
  clear hst8 hsc8 hml8 htm8 hnl8 hyl8 hty8 htl8 htt8 hl0 ht0 u1 nt0
  repeat kaf_pre
  refine ⟨st, 9, sc, ns, a, b, c, d, rfl, by omega, by omega, hst9, hsc9, fun xp u1 w1 y1 a b c d HA nxp hxp ok1 hstA BA => ?_⟩
  have kA : ∀ {x : Addr} {o : HO}, x ≠ st → H9 x = some o → HA x = some o := fun n e => But.off BA _ _ n e
  have hmlA := kA mlst hml9; have htmA := htm9.keep BA (.cons hst9 .nil); have hnlA := kA nlst hnl9; have hylA := kA ylst hyl9; have htyA := hty9.keep BA (.cons hst9 .nil); have htlA := kA tlst htl9; have httA := htt9.keep BA (.cons hst9 .nil); have hl0A := kA l0st hl09; have ht0A := ht09.keep BA (.cons hst9 .nil)
  have hzA := keepT BA (.cons hst9 .nil) hz
  clear hst9 hsc9 hml9 htm9 hnl9 hyl9 hty9 htl9 htt9 hl09 ht09 hz BA kA hstA nxp
  repeat kaf_pre
  refine ⟨size_of (by simp), fun j nj => ?_⟩
  have u := same_new (o := HO.lst [.ref t0, .ref xp]) nj
  have hj := upd_same (H := HA) (a := j) (o := HO.lst [.ref t0, .ref xp])
  have lt0 : ts0.length ≤ 40 := by rw [ht0A.1]; exact cells_len p1 p4
  have hmlB := u _ _ hmlA; have htmB := htmA.same u; have hnlB := u _ _ hnlA; have hylB := u _ _ hylA; have htyB := htyA.same u; have htlB := u _ _ htlA; have httB := httA.same u; have hl0B := u _ _ hl0A; have ht0B := ht0A.same u
  have hqB : TupsAt (upd HA j (HO.lst [.ref t0, .ref xp])) [.ref t0, .ref xp] [selfC, (u1, w1, y1)] := tups_cons (u _ _ hzA) (tups_one (c := (u1, w1, y1)) (u _ _ hxp))
  generalize upd HA j (HO.lst [.ref t0, .ref xp]) = HB at *
  clear hmlA htmA hnlA hylA htyA htlA httA hl0A ht0A hzA hxp u nj
  repeat kaf_pre
  refine rd_addL hl0B hj (size_of (by simp; omega)) fun kl nkl => ?_
  have u := same_new (o := HO.lst (ts0 ++ [.ref t0, .ref xp])) nkl
  have hkl := upd_same (H := HB) (a := kl) (o := HO.lst (ts0 ++ [.ref t0, .ref xp]))
  have htk := (tups_app ht0B hqB).same u
  have hmlC := u _ _ hmlB; have htmC := htmB.same u; have hnlC := u _ _ hnlB; have hylC := u _ _ hylB; have htyC := htyB.same u; have htlC := u _ _ htlB; have httC := httB.same u
  have kc : ∀ c ∈ cellsL mm ++ [selfC, (u1, w1, y1)], KinC c := fun c m => by
    rcases List.mem_append.mp m with m | m
    · exact (cells_kin m).1
    · simp at m
      rcases m with rfl | rfl
      · exact ⟨by decide +kernel, by decide +kernel, fun _ => rfl, fun z => absurd (.inl rfl) z⟩
      · exact kinC_of ok1
  have lk : (cellsL mm ++ [selfC, (u1, w1, y1)]).length ≤ 1000 := by
    have := cells_len p1 p4
    rw [List.length_append]
    show _ + 2 ≤ _
    omega
  have cov : ∀ g, 1 ≤ g → g ≤ 4 → g ≤ mm → ∀ c ∈ cellsL g, c ∈ cellsL mm ++ [selfC, (u1, w1, y1)] := fun g g1 g4 gm c mc => List.mem_append_left _ (cells_le g1 g4 gm mc)
  generalize cellsL mm ++ [selfC, (u1, w1, y1)] = KS at *
  generalize upd HB kl (HO.lst (ts0 ++ [.ref t0, .ref xp])) = HC at *
  generalize ts0 ++ [.ref t0, .ref xp] = tk at *
  clear hmlB htmB hnlB hylB htyB htlB httB hl0B ht0B hqB hj u nkl
  have sM : ∀ c ∈ MS, sideOk c := fun c m => side_kin (cells_kin (coM.1 c m)).1
  have sY : ∀ c ∈ YS, sideOk c := fun c m => side_kin (cells_kin (coY.1 c m)).1
  have sT : ∀ c ∈ TS, sideOk c := fun c m => side_kin (cells_kin (coT.1 c m)).1
  have sK : ∀ c ∈ KS, sideOk c := fun c m => side_kin (kc c m)
  repeat kaf_pre
  refine ⟨r, ml, tm, MS, rfl, r1, r4, hmlC, htmC, coM, fun ra A HD fA sD R => ?_⟩
  have hnlD := sD _ _ hnlC
  repeat kaf_pre
  refine ⟨r2, yl, ty, YS, rfl, q1, q4, sD _ _ hylC, htyC.same sD, coY, fun rb B HE fB sE O => ?_⟩
  have sCE := sD.trans sE
  repeat kaf_pre
  refine ⟨r3, tl, tt, TS, rfl, t1, t4, sCE _ _ htlC, httC.same sCE, coT, fun rc C HF fC sF T => ?_⟩
  have sCF := sCE.trans sF
  repeat kaf_pre
  refine ⟨r, ml, kl, tm, tk, MS, KS, rfl, sCF _ _ hmlC, htmC.same sCF, sCF _ _ hkl, htk.same sCF, sM, sK, lk, fun l1 HG n1 sG o1 => ?_⟩
  rw [in_let coM.1] at o1
  have sCG := sCF.trans sG
  have hnlG := sCG _ _ hnlC
  repeat kaf_pre
  refine ⟨r2, yl, kl, ty, tk, YS, KS, rfl, sCG _ _ hylC, htyC.same sCG, sCG _ _ hkl, htk.same sCG, sY, sK, lk, fun l2 HI n2 sI o2 => ?_⟩
  rw [in_let coY.1] at o2
  have sCI := sCG.trans sI
  repeat kaf_pre
  refine ⟨r3, tl, kl, tt, tk, TS, KS, rfl, sCI _ _ htlC, httC.same sCI, sCI _ _ hkl, htk.same sCI, sT, sK, lk, fun l3 HJ n3 sJ o3 => ?_⟩
  rw [in_let coT.1] at o3
  have sCJ := sCI.trans sJ
  have g : G17 Z HJ kl nl yl ra rb rc l1 l2 l3 tk KS r r2 r3 MS YS TS A B C := ⟨sCJ _ _ hkl, htk.same sCJ, sCJ _ _ hnlC, R.same (sE.trans (sF.trans (sG.trans (sI.trans sJ)))), O.same (sF.trans (sG.trans (sI.trans sJ))), T.same (sG.trans (sI.trans sJ)), sJ _ _ (sI _ _ o1), sJ _ _ o2, o3⟩
  clear hmlC htmC hnlC hylC htyC htlC httC hkl htk R O T o1 o2 o3 sD sE sF sG sI sJ sCE sCF sCG sCI sCJ hnlD hnlG fA fB fC n1 n2 n3
  have b1 : ∀ (X : List Addr) (x : Addr), ∀ y ∈ ([⟨x, r2, YS, X⟩] : List RR), 1 ≤ y.r ∧ y.r ≤ 4 := fun X x y m => by rw [List.mem_singleton.mp m]; exact ⟨q1, q4⟩
  have b2 : ∀ y ∈ ([⟨ra, r, MS, A⟩, ⟨rb, r2, YS, B⟩] : List RR), 1 ≤ y.r ∧ y.r ≤ 4 := fun y m => by
    simp at m
    rcases m with rfl | rfl
    · exact ⟨r1, r4⟩
    · exact ⟨q1, q4⟩
  have b3 : ∀ y ∈ ([⟨ra, r, MS, A⟩, ⟨rb, r2, YS, B⟩, ⟨rc, r3, TS, C⟩] : List RR), 1 ≤ y.r ∧ y.r ≤ 4 := fun y m => by
    simp at m
    rcases m with rfl | rfl | rfl
    · exact ⟨r1, r4⟩
    · exact ⟨q1, q4⟩
    · exact ⟨t1, t4⟩
  have f2 : ∀ (w : Str) (x : List Cell), (foldJ w (1, x) [⟨ra, r, MS, A⟩, ⟨rb, r2, YS, B⟩]).1 = m := fun w x => by
    rw [fold_fst]
    show maxR (maxR 1 r) r2 = m
    rw [max_one r1, hm]
  have f3 : ∀ (w : Str) (x : List Cell), (foldJ w (1, x) [⟨ra, r, MS, A⟩, ⟨rb, r2, YS, B⟩, ⟨rc, r3, TS, C⟩]).1 = mm := fun w x => by
    rw [fold_fst]
    show maxR (maxR (maxR 1 r) r2) r3 = mm
    rw [max_one r1, hm, hp]
  repeat kaf_pre
  refine ⟨ra, rb, l1, l2, r, r2, MS, YS, KS, A, B, _, _, rfl, g.R, g.O, g.o1, g.o2, lk, fun c mc => rfl, fun c mc => rfl, kc, by rw [hm]; exact cov m m1 m4 lem, fun H10 s10 => ?_⟩
  have g1 := g.same s10
  clear g s10
  repeat kaf_pre
  refine rd_cut (fun σ' H' => σ' = [some (.ref a0), some (.ref st), some (.int (r : Int)), some (.int (rr : Int)), some (.int (r3 : Int)), some (.ref ml), some (.ref nl), some (.ref tl), some (.int (m : Int)), some (.int (mm : Int)), some (.ref kl), some (.ref ra), some (.ref rb), some (.ref rc), some (.ref l1), some (.ref l2), some (.ref l3), none, none, none, none] ∧ Same H10 H') ?_ ?_
  · repeat kaf_pre
    refine ⟨kl, tk, KS, rfl, g1.hk, g1.ht, lk, kc, fun H11 s11 => ?_⟩
    have g2 := g1.same s11
    repeat kaf_pre
    refine union_of [⟨rb, r2, YS, B⟩] rfl (ruls1 g2.O fun y m => by cases m) (by simp) fun x X H12 fX s12 RX => ?_
    have g3 := g2.same s12
    repeat kaf_pre
    refine ⟨x, kl, l2, _, _, KS, X, tk, _, rfl, RX, g3.hk, g3.ht, g3.o2, lk, fun c mc => ?_, fun H13 s13 => ?_⟩
    · rw [uni_let (b1 B rb) (kc c mc)]
      simp
    have g4 := g3.same s13
    repeat kaf_pre
    refine cut_of [⟨rb, r2, YS, B⟩] rfl (ruls1 g4.O fun y m => by cases m) (by simp) fun y Y H14 fY s14 RY => ?_
    have g5 := g4.same s14
    repeat kaf_pre
    refine ⟨y, kl, l2, _, _, KS, Y, tk, _, rfl, RY, g5.hk, g5.ht, g5.o2, lk, fun c mc => ?_, fun H15 s15 => ?_⟩
    · rw [cut_some (b1 B rb) (by simp) (kc c mc)]
      simp
    repeat kaf_pre
    exact ⟨rfl, s11.trans (s12.trans (s13.trans (s14.trans s15)))⟩
  rintro σ' H11 ⟨rfl, s11⟩
  have g2 := g1.same s11
  clear g1 s11
  repeat kaf_pre
  refine union_of [⟨ra, r, MS, A⟩, ⟨rb, r2, YS, B⟩] rfl (ruls1 g2.R (ruls1 g2.O fun y m => by cases m)) (by simp) fun tx X H12 fX s12 RX => ?_
  have eU : ∀ c ∈ KS, letC m (foldJ "or" (1, []) [⟨ra, r, MS, A⟩, ⟨rb, r2, YS, B⟩]).2 c = ([letC r MS, letC r2 YS].any fun f => f c) := fun c mc => by
    have e := uni_let b2 (kc c mc)
    rw [f2] at e
    exact e
  rw [f2] at RX
  have g3 := g2.same s12
  clear g2 fX s12
  repeat kaf_pre
  refine cut_of [⟨ra, r, MS, A⟩, ⟨rb, r2, YS, B⟩] rfl (ruls1 g3.R (ruls1 g3.O fun y m => by cases m)) (by simp) fun lx Y H13 fY s13 RY => ?_
  have eV : ∀ c ∈ KS, letC m (foldJ "and" (1, cellsL 1) [⟨ra, r, MS, A⟩, ⟨rb, r2, YS, B⟩]).2 c = ([letC r MS, letC r2 YS].all fun f => f c) := fun c mc => by
    have e := cut_some b2 (by simp) (kc c mc)
    rw [f2] at e
    exact e
  rw [f2] at RY
  generalize (foldJ "or" (1, []) [⟨ra, r, MS, A⟩, ⟨rb, r2, YS, B⟩]).2 = U at *
  generalize (foldJ "and" (1, cellsL 1) [⟨ra, r, MS, A⟩, ⟨rb, r2, YS, B⟩]).2 = W at *
  have g4 := g3.same s13
  have RX := RX.same s13
  clear g3 fY s13
  repeat kaf_pre
  refine ⟨size_of (by simp), fun j1 nj1 => ?_⟩
  have u := same_new (o := HO.lst [.ref l1, .ref l2]) nj1
  have hj1 := upd_same (H := H13) (a := j1) (o := HO.lst [.ref l1, .ref l2])
  have g5 := g4.same u; have RX := RX.same u; have RY := RY.same u
  generalize upd H13 j1 (HO.lst [.ref l1, .ref l2]) = H14 at *
  clear g4 u nj1
  repeat kaf_pre
  refine ⟨j1, _, [letC r MS, letC r2 YS], KS, rfl, hj1, rows_consA g5.o1 (rows_consA g5.o2 rows_nilA), by simp, by simp, lk, fun ab H15 nab s15 hab => ?_⟩
  have g6 := g5.same s15; have RX := RX.same s15; have RY := RY.same s15
  clear g5 hj1 s15
  repeat kaf_pre
  refine ⟨size_of (by simp), fun j2 nj2 => ?_⟩
  have u := same_new (o := HO.lst [.ref l1, .ref l2]) nj2
  have hj2 := upd_same (H := H15) (a := j2) (o := HO.lst [.ref l1, .ref l2])
  have g7 := g6.same u; have RX := RX.same u; have RY := RY.same u; have hab := u _ _ hab
  generalize upd H15 j2 (HO.lst [.ref l1, .ref l2]) = H16 at *
  clear g6 u nj2
  repeat kaf_pre
  refine ⟨j2, _, [letC r MS, letC r2 YS], KS, rfl, hj2, rows_consA g7.o1 (rows_consA g7.o2 rows_nilA), by simp, by simp, lk, fun be H17 nbe s17 hbe => ?_⟩
  have g8 := g7.same s17; have RX := RX.same s17; have RY := RY.same s17; have hab := s17 _ _ hab
  clear g7 hj2 s17
  repeat kaf_pre
  refine rd_cut (fun σ' H' => σ' = [some (.ref a0), some (.ref st), some (.int (r : Int)), some (.int (rr : Int)), some (.int (r3 : Int)), some (.ref ml), some (.ref nl), some (.ref tl), some (.int (m : Int)), some (.int (mm : Int)), some (.ref kl), some (.ref ra), some (.ref rb), some (.ref rc), some (.ref l1), some (.ref l2), some (.ref l3), some (.ref tx), some (.ref lx), some (.ref ab), some (.ref be)] ∧ Same H17 H') ?_ ?_
  · repeat kaf_pre
    refine ⟨tx, kl, ab, m, U, KS, X, tk, _, rfl, RX, g8.hk, g8.ht, hab, lk, eU, fun H18 s18 => ?_⟩
    have g9 := g8.same s18
    repeat kaf_pre
    refine ⟨lx, kl, be, m, W, KS, Y, tk, _, rfl, RY.same s18, g9.hk, g9.ht, s18 _ _ hbe, lk, eV, fun H19 s19 => ?_⟩
    repeat kaf_pre
    exact ⟨rfl, s18.trans s19⟩
  rintro σ' H18 ⟨rfl, s18⟩
  have g9 := g8.same s18; have RX := RX.same s18; have RY := RY.same s18; have hab := s18 _ _ hab
  clear g8 s18 hbe
  obtain ⟨ex1, ex2, ex3, hx⟩ := RX.obj
  obtain ⟨ey1, ey2, ey3, hy⟩ := RY.obj
  repeat kaf_pre
  refine ⟨tx, m, U, X, rfl, RX, ?_⟩
  repeat kaf_pre
  refine ⟨lx, m, W, Y, rfl, RY, ?_⟩
  repeat kaf_pre
  refine ⟨size_of (by simp), fun p1 np1 => ?_⟩
  have u1 := same_new (o := HO.lst ([(m : Int), m].map V.int)) np1
  have hp1 : upd H18 p1 (HO.lst ([(m : Int), m].map V.int)) p1 = some (.lst ([(m : Int), m].map V.int)) := upd_same
  repeat kaf_pre
  refine ⟨size_of (by simp), fun p2 np2 => ?_⟩
  have u2 := same_new (o := HO.lst ([(m : Int), m].map V.int)) np2
  repeat kaf_pre
  refine sm_of (rowI (n := 1) [(m : Int), m] (u2 _ _ hp1) (by simp) (by simp)) (rowI (n := 1) [(m : Int), m] upd_same (by simp) (by simp)) fun H19 s19 => ?_
  have s189 := u1.trans (u2.trans s19)
  have ga := g9.same s189; have RX := RX.same s189; have hab := s189 _ _ hab
  clear g9 s189 s19 u1 u2 hx hy RY hp1 np1 np2
  repeat kaf_pre
  refine ⟨rc, tx, l3, ab, r3, m, TS, U, KS, C, X, _, _, rfl, ga.T, RX, ga.o3, hab, lk, fun c mc => rfl, eU, kc, by rw [max_swap, hp]; exact cov mm p1 p4 (Nat.le_refl _), fun H20 s20 => ?_⟩
  have gb := ga.same s20
  clear ga s20 RX hab eU eV
  repeat kaf_pre
  refine union_of [⟨ra, r, MS, A⟩, ⟨rb, r2, YS, B⟩, ⟨rc, r3, TS, C⟩] rfl (ruls1 gb.R (ruls1 gb.O (ruls1 gb.T fun y m => by cases m))) (by simp) fun tx X H21 fX s21 RX => ?_
  have eU : ∀ c ∈ KS, letC mm (foldJ "or" (1, []) [⟨ra, r, MS, A⟩, ⟨rb, r2, YS, B⟩, ⟨rc, r3, TS, C⟩]).2 c = ([letC r MS, letC r2 YS, letC r3 TS].any fun f => f c) := fun c mc => by
    have e := uni_let b3 (kc c mc)
    rw [f3] at e
    exact e
  rw [f3] at RX
  have gc := gb.same s21
  clear gb fX s21
  repeat kaf_pre
  refine cut_of [⟨ra, r, MS, A⟩, ⟨rb, r2, YS, B⟩, ⟨rc, r3, TS, C⟩] rfl (ruls1 gc.R (ruls1 gc.O (ruls1 gc.T fun y m => by cases m))) (by simp) fun lx Y H22 fY s22 RY => ?_
  have eV : ∀ c ∈ KS, letC mm (foldJ "and" (1, cellsL 1) [⟨ra, r, MS, A⟩, ⟨rb, r2, YS, B⟩, ⟨rc, r3, TS, C⟩]).2 c = ([letC r MS, letC r2 YS, letC r3 TS].all fun f => f c) := fun c mc => by
    have e := cut_some b3 (by simp) (kc c mc)
    rw [f3] at e
    exact e
  rw [f3] at RY
  generalize (foldJ "or" (1, []) [⟨ra, r, MS, A⟩, ⟨rb, r2, YS, B⟩, ⟨rc, r3, TS, C⟩]).2 = U at *
  generalize (foldJ "and" (1, cellsL 1) [⟨ra, r, MS, A⟩, ⟨rb, r2, YS, B⟩, ⟨rc, r3, TS, C⟩]).2 = W at *
  have gd := gc.same s22
  have RX := RX.same s22
  clear gc fY s22
  repeat kaf_pre
  refine ⟨size_of (by simp), fun j1 nj1 => ?_⟩
  have u := same_new (o := HO.lst [.ref l1, .ref l2, .ref l3]) nj1
  have hj1 := upd_same (H := H22) (a := j1) (o := HO.lst [.ref l1, .ref l2, .ref l3])
  have ge := gd.same u; have RX := RX.same u; have RY := RY.same u
  generalize upd H22 j1 (HO.lst [.ref l1, .ref l2, .ref l3]) = H23 at *
  clear gd u nj1
  repeat kaf_pre
  refine ⟨j1, _, [letC r MS, letC r2 YS, letC r3 TS], KS, rfl, hj1, rows_consA ge.o1 (rows_consA ge.o2 (rows_consA ge.o3 rows_nilA)), by simp, by simp, lk, fun ab H24 nab s24 hab => ?_⟩
  have gf := ge.same s24; have RX := RX.same s24; have RY := RY.same s24
  clear ge hj1 s24
  repeat kaf_pre
  refine ⟨tx, kl, ab, mm, U, KS, X, tk, _, rfl, RX, gf.hk, gf.ht, hab, lk, eU, fun H25 s25 => ?_⟩
  have gg := gf.same s25; have RX := RX.same s25; have RY := RY.same s25
  clear gf hab s25
  repeat kaf_pre
  refine ⟨size_of (by simp), fun j2 nj2 => ?_⟩
  have u := same_new (o := HO.lst [.ref l1, .ref l2, .ref l3]) nj2
  have hj2 := upd_same (H := H25) (a := j2) (o := HO.lst [.ref l1, .ref l2, .ref l3])
  have gh := gg.same u; have RX := RX.same u; have RY := RY.same u
  generalize upd H25 j2 (HO.lst [.ref l1, .ref l2, .ref l3]) = H26 at *
  clear gg u nj2
  repeat kaf_pre
  refine ⟨j2, _, [letC r MS, letC r2 YS, letC r3 TS], KS, rfl, hj2, rows_consA gh.o1 (rows_consA gh.o2 (rows_consA gh.o3 rows_nilA)), by simp, by simp, lk, fun be H27 nbe s27 hbe => ?_⟩
  have gi := gh.same s27; have RX := RX.same s27; have RY := RY.same s27
  clear gh hj2 s27
  repeat kaf_pre
  refine ⟨lx, kl, be, mm, W, KS, Y, tk, _, rfl, RY, gi.hk, gi.ht, hbe, lk, eV, fun H28 s28 => ?_⟩
  have gj := gi.same s28; have RX := RX.same s28; have RY := RY.same s28
  clear gi hbe s28
  obtain ⟨ex1, ex2, ex3, hx⟩ := RX.obj
  obtain ⟨ey1, ey2, ey3, hy⟩ := RY.obj
  repeat kaf_pre
  refine ⟨tx, mm, U, X, rfl, RX, ?_⟩
  repeat kaf_pre
  refine ⟨lx, mm, W, Y, rfl, RY, ?_⟩
  repeat kaf_pre
  refine ⟨size_of (by simp), fun p1 np1 => ?_⟩
  have u1 := same_new (o := HO.lst ([(mm : Int), mm].map V.int)) np1
  have hp1 : upd H28 p1 (HO.lst ([(mm : Int), mm].map V.int)) p1 = some (.lst ([(mm : Int), mm].map V.int)) := upd_same
  repeat kaf_pre
  refine ⟨size_of (by simp), fun p2 np2 => ?_⟩
  have u2 := same_new (o := HO.lst ([(mm : Int), mm].map V.int)) np2
  repeat kaf_pre
  refine sm_of (rowI (n := 1) [(mm : Int), mm] (u2 _ _ hp1) (by simp) (by simp)) (rowI (n := 1) [(mm : Int), mm] upd_same (by simp) (by simp)) fun H29 s29 => ?_
  have gk := gj.same (u1.trans (u2.trans s29))
  clear gj RX RY hx hy u1 u2 s29 hp1 np1 np2
  repeat kaf_pre
  refine rd_cut (fun σ' H' => ∃ v17 v18 v19 v20 : Option V, σ' = [some (.ref a0), some (.ref st), some (.int (r : Int)), some (.int (rr : Int)), some (.int (r3 : Int)), some (.ref ml), some (.ref nl), some (.ref tl), some (.int (m : Int)), some (.int (mm : Int)), some (.ref kl), some (.ref ra), some (.ref rb), some (.ref rc), some (.ref l1), some (.ref l2), some (.ref l3), v17, v18, v19, v20] ∧ Same H29 H') ?_ ?_
  · repeat kaf_pre
    refine ⟨ra, kl, l1, r, MS, KS, A, tk, _, rfl, gk.R, gk.hk, gk.ht, gk.o1, lk, fun c mc => rfl, fun H30 s30 => ?_⟩
    have gl := gk.same s30
    repeat kaf_pre
    refine ⟨rb, kl, l2, r2, YS, KS, B, tk, _, rfl, gl.O, gl.hk, gl.ht, gl.o2, lk, fun c mc => rfl, fun H31 s31 => ?_⟩
    have gm := gl.same s31
    repeat kaf_pre
    refine ⟨rc, kl, l3, r3, TS, KS, C, tk, _, rfl, gm.T, gm.hk, gm.ht, gm.o3, lk, fun c mc => rfl, fun H32 s32 => ?_⟩
    repeat kaf_pre
    exact ⟨_, _, _, _, rfl, s30.trans (s31.trans s32)⟩
  rintro σ' H30 ⟨v17, v18, v19, v20, rfl, s30⟩
  have gl := gk.same s30
  clear gk s30
  have hn := gl.hn
  obtain ⟨ex1, ex2, ex3, hx⟩ := gl.R.obj
  obtain ⟨ey1, ey2, ey3, hy⟩ := gl.O.obj
  obtain ⟨ez1, ez2, ez3, hz⟩ := gl.T.obj
  repeat kaf_pre
  refine ⟨ra, r, MS, A, rfl, gl.R, ?_⟩
  repeat kaf_pre
  refine ⟨rb, r2, YS, B, rfl, gl.O, ?_⟩
  repeat kaf_pre
  refine ⟨rc, r3, TS, C, rfl, gl.T, ?_⟩
  repeat kaf_pre
  refine ⟨size_of (by simp), fun p1 np1 => ?_⟩
  have u1 := same_new (o := HO.lst ([(r : Int), r2, r3].map V.int)) np1
  have hp1 : upd H30 p1 (HO.lst ([(r : Int), r2, r3].map V.int)) p1 = some (.lst ([(r : Int), r2, r3].map V.int)) := upd_same
  have hn1 := u1 _ _ hn
  repeat kaf_pre
  refine ⟨size_of (by simp), fun p2 np2 => ?_⟩
  have u2 := same_new (o := HO.lst ([(r : Int), r2, r3].map V.int)) np2
  repeat kaf_pre
  exact sm_of (rowI (n := 1) [(r : Int), r2, r3] (u2 _ _ hp1) (by simp) (by simp)) (rowI (n := 1) [(r : Int), r2, r3] upd_same (by simp) (by simp)) fun H31 s31 => q _
theorem sc_law_start : FnScope ["script"] ["script"] (defScope S_law_start) := ⟨rfl, rfl, rfl, by decide +kernel, rfl, by decide +kernel, by decide +kernel⟩
theorem sc_law_draw : FnScope ["state", "many", "value", "mixed"] ["state", "many"] (defScope S_law_draw) := ⟨rfl, rfl, rfl, by decide +kernel, rfl, by decide +kernel, by decide +kernel⟩
theorem sc_law_reach : FnScope ["state"] ["state"] (defScope S_law_reach) := ⟨rfl, rfl, rfl, by decide +kernel, rfl, by decide +kernel, by decide +kernel⟩
theorem sc_law_sides : FnScope ["up", "down"] ["up", "down"] (defScope S_law_sides) := ⟨rfl, rfl, rfl, by decide +kernel, rfl, by decide +kernel, by decide +kernel⟩
theorem sc_law_cells : FnScope ["reach", "cells", "far", "up", "side"] ["reach"] (defScope S_law_cells) := ⟨rfl, rfl, rfl, by decide +kernel, rfl, by decide +kernel, by decide +kernel⟩
theorem sc_law_wanted : FnScope ["mode", "digit", "up", "down", "side"] ["mode", "digit", "up", "down", "side"] (defScope S_law_wanted) := ⟨rfl, rfl, rfl, by decide +kernel, rfl, by decide +kernel, by decide +kernel⟩
theorem sc_law_rule_cells : FnScope ["state", "reach", "mode", "chosen", "cell"] ["state", "reach"] (defScope S_law_rule_cells) := ⟨rfl, rfl, rfl, by decide +kernel, rfl, by decide +kernel, by decide +kernel⟩
theorem sc_law_capped : FnScope ["parts", "reach"] ["parts", "reach"] (defScope S_law_capped) := ⟨rfl, rfl, rfl, by decide +kernel, rfl, by decide +kernel, by decide +kernel⟩
theorem sc_law_near : FnScope ["state", "left", "mine", "right", "kind", "reach", "cells", "yours", "point", "cell"] ["state", "left", "mine", "right"] (defScope S_law_near) := ⟨rfl, rfl, rfl, by decide +kernel, rfl, by decide +kernel, by decide +kernel⟩
theorem sc_demand_reach : FnScope ["reach"] ["reach"] (defScope S_demand_reach) := ⟨rfl, rfl, rfl, by decide +kernel, rfl, by decide +kernel, by decide +kernel⟩
theorem sc_Kin_is_self : FnScope ["self"] ["self"] (defScope S_Kin_is_self) := ⟨rfl, rfl, rfl, by decide +kernel, rfl, by decide +kernel, by decide +kernel⟩
theorem sc_fits_side : FnScope ["up", "down", "side"] ["up", "down", "side"] (defScope S_fits_side) := ⟨rfl, rfl, rfl, by decide +kernel, rfl, by decide +kernel, by decide +kernel⟩
theorem sc_Kin__init_ : FnScope ["self", "up", "down", "side"] ["self", "up", "down", "side"] (defScope S_Kin__init_) := ⟨rfl, rfl, rfl, by decide +kernel, rfl, by decide +kernel, by decide +kernel⟩
theorem sc_capped : FnScope ["number", "reach"] ["number", "reach"] (defScope S_capped) := ⟨rfl, rfl, rfl, by decide +kernel, rfl, by decide +kernel, by decide +kernel⟩
theorem sc_Kin__mod_ : FnScope ["self", "reach"] ["self", "reach"] (defScope S_Kin__mod_) := ⟨rfl, rfl, rfl, by decide +kernel, rfl, by decide +kernel, by decide +kernel⟩
theorem sc_let_parts : FnScope ["reach", "kins", "let", "kin", "cell"] ["reach", "kins"] (defScope S_let_parts) := ⟨rfl, rfl, rfl, by decide +kernel, rfl, by decide +kernel, by decide +kernel⟩
theorem sc_all_cells : FnScope ["reach", "cells", "far", "up", "down"] ["reach"] (defScope S_all_cells) := ⟨rfl, rfl, rfl, by decide +kernel, rfl, by decide +kernel, by decide +kernel⟩
theorem sc_Rule_lets : FnScope ["self", "up", "down", "side"] ["self", "up", "down", "side"] (defScope S_Rule_lets) := ⟨rfl, rfl, rfl, by decide +kernel, rfl, by decide +kernel, by decide +kernel⟩
theorem sc_Rule__init_ : FnScope ["self", "reach", "kins", "cell"] ["self", "reach", "kins"] (defScope S_Rule__init_) := ⟨rfl, rfl, rfl, by decide +kernel, rfl, by decide +kernel, by decide +kernel⟩
theorem sc_Rule__getitem_ : FnScope ["self", "kin"] ["self", "kin"] (defScope S_Rule__getitem_) := ⟨rfl, rfl, rfl, by decide +kernel, rfl, by decide +kernel, by decide +kernel⟩
theorem sc_Kin_measure : FnScope ["self"] ["self"] (defScope S_Kin_measure) := ⟨rfl, rfl, rfl, by decide +kernel, rfl, by decide +kernel, by decide +kernel⟩
theorem sc_Kin__lt_ : FnScope ["self", "other"] ["self", "other"] (defScope S_Kin__lt_) := ⟨rfl, rfl, rfl, by decide +kernel, rfl, by decide +kernel, by decide +kernel⟩
theorem sc_Rule_put : FnScope ["self", "cell", "place"] ["self", "cell"] (defScope S_Rule_put) := ⟨rfl, rfl, rfl, by decide +kernel, rfl, by decide +kernel, by decide +kernel⟩
theorem sc_Rule_take : FnScope ["self", "other", "cell"] ["self", "other"] (defScope S_Rule_take) := ⟨rfl, rfl, rfl, by decide +kernel, rfl, by decide +kernel, by decide +kernel⟩
theorem sc_Rule_reach : FnScope ["self"] ["self"] (defScope S_Rule_reach) := ⟨rfl, rfl, rfl, by decide +kernel, rfl, by decide +kernel, by decide +kernel⟩
theorem sc_joined : FnScope ["left", "right", "word"] ["left", "right", "word"] (defScope S_joined) := ⟨rfl, rfl, rfl, by decide +kernel, rfl, by decide +kernel, by decide +kernel⟩
theorem sc_combined : FnScope ["rule", "other", "word", "reach", "kins", "cell"] ["rule", "other", "word"] (defScope S_combined) := ⟨rfl, rfl, rfl, by decide +kernel, rfl, by decide +kernel, by decide +kernel⟩
theorem sc_Rule__sub_ : FnScope ["self", "other"] ["self", "other"] (defScope S_Rule__sub_) := ⟨rfl, rfl, rfl, by decide +kernel, rfl, by decide +kernel, by decide +kernel⟩
theorem sc_Rule__setitem_ : FnScope ["self", "kin", "worth"] ["self", "kin", "worth"] (defScope S_Rule__setitem_) := ⟨rfl, rfl, rfl, by decide +kernel, rfl, by decide +kernel, by decide +kernel⟩
theorem sc_law_kin : FnScope ["parts"] ["parts"] (defScope S_law_kin) := ⟨rfl, rfl, rfl, by decide +kernel, rfl, by decide +kernel, by decide +kernel⟩
theorem sc_law_rule : FnScope ["reach", "cells", "rule", "cell", "kin"] ["reach", "cells"] (defScope S_law_rule) := ⟨rfl, rfl, rfl, by decide +kernel, rfl, by decide +kernel, by decide +kernel⟩
theorem sc_law_lets : FnScope ["reach", "cells", "parts"] ["reach", "cells", "parts"] (defScope S_law_lets) := ⟨rfl, rfl, rfl, by decide +kernel, rfl, by decide +kernel, by decide +kernel⟩
theorem sc_law_lets_all : FnScope ["reach", "cells", "kins", "row"] ["reach", "cells", "kins"] (defScope S_law_lets_all) := ⟨rfl, rfl, rfl, by decide +kernel, rfl, by decide +kernel, by decide +kernel⟩
theorem sc_Rule_none : FnScope ["cls", "reach"] ["cls", "reach"] (defScope S_Rule_none) := ⟨rfl, rfl, rfl, by decide +kernel, rfl, by decide +kernel, by decide +kernel⟩
theorem sc_Rule__ior_ : FnScope ["self", "other"] ["self", "other"] (defScope S_Rule__ior_) := ⟨rfl, rfl, rfl, by decide +kernel, rfl, by decide +kernel, by decide +kernel⟩
theorem sc_union : FnScope ["rules", "result", "rule"] ["rules"] (defScope S_union) := ⟨rfl, rfl, rfl, by decide +kernel, rfl, by decide +kernel, by decide +kernel⟩
theorem sc_Rule_full : FnScope ["cls", "reach", "cells"] ["cls", "reach"] (defScope S_Rule_full) := ⟨rfl, rfl, rfl, by decide +kernel, rfl, by decide +kernel, by decide +kernel⟩
theorem sc_Rule__iand_ : FnScope ["self", "other"] ["self", "other"] (defScope S_Rule__iand_) := ⟨rfl, rfl, rfl, by decide +kernel, rfl, by decide +kernel, by decide +kernel⟩
theorem sc_cutR : FnScope ["rules", "result", "rule"] ["rules"] (defScope S_cutR) := ⟨rfl, rfl, rfl, by decide +kernel, rfl, by decide +kernel, by decide +kernel⟩
theorem sc_law_any : FnScope ["rows", "k", "row"] ["rows"] (defScope S_law_any) := ⟨rfl, rfl, rfl, by decide +kernel, rfl, by decide +kernel, by decide +kernel⟩
theorem sc_law_all : FnScope ["rows", "k", "row"] ["rows"] (defScope S_law_all) := ⟨rfl, rfl, rfl, by decide +kernel, rfl, by decide +kernel, by decide +kernel⟩
theorem sc_law_is_number : FnScope ["actual"] ["actual"] (defScope S_law_is_number) := ⟨rfl, rfl, rfl, by decide +kernel, rfl, by decide +kernel, by decide +kernel⟩
theorem sc_law_same : FnScope ["actual", "expected", "k"] ["actual", "expected"] (defScope S_law_same) := ⟨rfl, rfl, rfl, by decide +kernel, rfl, by decide +kernel, by decide +kernel⟩
theorem sc_Rule__len_ : FnScope ["self"] ["self"] (defScope S_Rule__len_) := ⟨rfl, rfl, rfl, by decide +kernel, rfl, by decide +kernel, by decide +kernel⟩
theorem sc_Rule__le_ : FnScope ["self", "other"] ["self", "other"] (defScope S_Rule__le_) := ⟨rfl, rfl, rfl, by decide +kernel, rfl, by decide +kernel, by decide +kernel⟩
theorem sc_Rule__lt_ : FnScope ["self", "other"] ["self", "other"] (defScope S_Rule__lt_) := ⟨rfl, rfl, rfl, by decide +kernel, rfl, by decide +kernel, by decide +kernel⟩
theorem sc_Rule__eq_ : FnScope ["self", "other"] ["self", "other"] (defScope S_Rule__eq_) := ⟨rfl, rfl, rfl, by decide +kernel, rfl, by decide +kernel, by decide +kernel⟩
theorem sc_law_compared : FnScope ["rule", "other", "one", "two", "less", "more", "k", "actual", "same"] ["rule", "other", "one", "two"] (defScope S_law_compared) := ⟨rfl, rfl, rfl, by decide +kernel, rfl, by decide +kernel, by decide +kernel⟩
theorem sc_law_is_rule : FnScope ["rule", "kins", "due", "k"] ["rule", "kins", "due"] (defScope S_law_is_rule) := ⟨rfl, rfl, rfl, by decide +kernel, rfl, by decide +kernel, by decide +kernel⟩
theorem sc_law_parts : FnScope ["state", "most", "up", "down", "sides"] ["state", "most"] (defScope S_law_parts) := ⟨rfl, rfl, rfl, by decide +kernel, rfl, by decide +kernel, by decide +kernel⟩
theorem sc_law_of_none : FnScope ["kins", "full", "row"] ["kins"] (defScope S_law_of_none) := ⟨rfl, rfl, rfl, by decide +kernel, rfl, by decide +kernel, by decide +kernel⟩
theorem sc_law : FnScope ["script", "state", "left", "right", "last", "mine", "near", "third", "great", "most", "kins", "a", "b", "c", "one", "two", "three", "top", "low", "above", "below"] ["script"] (defScope S_law) := ⟨rfl, rfl, rfl, by decide +kernel, rfl, by decide +kernel, by decide +kernel⟩
theorem fm_ForkError : ExL.Frm (defBody M_ForkError) [.par "reason"] [("reason", .par "reason")] := ⟨_, _, _, _, _, [(.par _, 0, _)], [⟨_, .par _, 0, _, _, _, _⟩], rfl, rfl, rfl, rfl⟩
theorem fm_BadKin : ExL.Frm (defBody M_BadKin) [.lit "bad kin"] ((["up", "down", "side"] : List Str).map fun p => (p, .par p)) := ⟨_, _, _, _, _, [(.lit _, _, _)], [⟨_, .par _, 0, _, _, _, _⟩, ⟨_, .par _, 0, _, _, _, _⟩, ⟨_, .par _, 0, _, _, _, _⟩], rfl, rfl, rfl, rfl⟩
theorem fm_BadReach : ExL.Frm (defBody M_BadReach) [.lit "bad reach"] ((["number"] : List Str).map fun p => (p, .par p)) := ⟨_, _, _, _, _, [(.lit _, _, _)], [⟨_, .par _, 0, _, _, _, _⟩], rfl, rfl, rfl, rfl⟩
theorem fm_TooNarrow : ExL.Frm (defBody M_TooNarrow) [.lit "too narrow"] ((["number"] : List Str).map fun p => (p, .par p)) := ⟨_, _, _, _, _, [(.lit _, _, _)], [⟨_, .par _, 0, _, _, _, _⟩], rfl, rfl, rfl, rfl⟩
theorem fm_BadCell : ExL.Frm (defBody M_BadCell) [.lit "bad cell"] ((["kin"] : List Str).map fun p => (p, .par p)) := ⟨_, _, _, _, _, [(.lit _, _, _)], [⟨_, .par _, 0, _, _, _, _⟩], rfl, rfl, rfl, rfl⟩
theorem fm_BadText : ExL.Frm (defBody M_BadText) [.lit "bad text"] ((["line"] : List Str).map fun p => (p, .par p)) := ⟨_, _, _, _, _, [(.lit _, _, _)], [⟨_, .par _, 0, _, _, _, _⟩], rfl, rfl, rfl, rfl⟩
structure Txt (P : Program) (w : World) (K : PySem.W.Frag) (mg : Str → Option Value) (Z : Cs) : Prop where
  b_bool : mg "bool" = none
  b_int : mg "int" = none
  b_isinstance : mg "isinstance" = none
  b_len : mg "len" = none
  b_list : mg "list" = none
  b_max : mg "max" = none
  b_min : mg "min" = none
  b_range : mg "range" = none
  b_str : mg "str" = none
  b_tuple : mg "tuple" = none
  m_LEAST_REACH : ∃ u, mg "LEAST_REACH" = some u ∧ RelV (.int 1) u
  m_MOST_REACH : ∃ u, mg "MOST_REACH" = some u ∧ RelV (.int 4) u
  m_SIDES : ∃ u, mg "SIDES" = some u ∧ RelV (.ref Z.SIDES) u
  t_SIDES : ∀ H, SqT K H Z.SIDES ((["line", "elder", "younger"] : List Str).map V.str)
  g_ForkError : mg "ForkError" = some (.ref Z.ForkError)
  g_BadKin : mg "BadKin" = some (.ref Z.BadKin)
  g_BadReach : mg "BadReach" = some (.ref Z.BadReach)
  g_TooNarrow : mg "TooNarrow" = some (.ref Z.TooNarrow)
  g_BadCell : mg "BadCell" = some (.ref Z.BadCell)
  g_BadText : mg "BadText" = some (.ref Z.BadText)
  g_Kin : mg "Kin" = some (.ref Z.Kin)
  g_Rule : mg "Rule" = some (.ref Z.Rule)
  e_BadKin : Err P w K mg "BadKin" Z.BadKin 2 3 (ExL.errF ["up", "down", "side"] "bad kin")
  e_BadReach : Err P w K mg "BadReach" Z.BadReach 2 1 (ExL.errF ["number"] "bad reach")
  e_TooNarrow : Err P w K mg "TooNarrow" Z.TooNarrow 2 1 (ExL.errF ["number"] "too narrow")
  e_BadCell : Err P w K mg "BadCell" Z.BadCell 2 1 (ExL.errF ["kin"] "bad cell")
  e_BadText : Err P w K mg "BadText" Z.BadText 2 1 (ExL.errF ["line"] "bad text")
  cf : Cf K Z
section
variable {P : Program} {w : World} {K : PySem.W.Frag} {mg : Str → Option Value} {base : Heap} {Z : Cs}
theorem ok_law_start {f : Addr} {fd : FuncData} (F : Fun K "_law_start" "_law_start" S_law_start f fd) (T : Txt P w K mg Z)  : FnOk P w K mg base CX0 1 f fd ["script"] (spStart K) := by
  refine F.ok sc_law_start (fun vs H Q E h => len_law_start K h) (fun cdv A outer s H vs Q E hr h => ⟨t_law_start K, ?_, rd_law_start K vs H Q E h⟩)
  exact (pss_one (ps_ret (pe_lst (pa_cons (pe_callTy call_listA (by rfl) T.b_list (by decide +kernel) (pa_cons (pv 0) pa_nil)) (pa_cons pe_int (pa_cons pe_int (pa_cons pe_int (pa_cons pe_int pa_nil))))))))
theorem ok_law_draw {f : Addr} {fd : FuncData} (F : Fun K "_law_draw" "_law_draw" S_law_draw f fd) (T : Txt P w K mg Z)  : FnOk P w K mg base CX0 1 f fd ["state", "many"] (spDraw) := by
  refine F.ok sc_law_draw (fun vs H Q E h => len_law_draw K h) (fun cdv A outer s H vs Q E hr h => ⟨t_law_draw K, ?_, rd_law_draw K vs H Q E h⟩)
  exact (pss_consC (ps_if (pt_cmpR (op_eqA hr.units) (pe_ix ix_seq (pv 0) pe_int (fun _ _ => rfl)) pe_int (nomark _)) (pss_cons (ps_if (pt_cmpR op_geA (pe_ix ix_seq (pv 0) pe_int (fun _ _ => rfl)) (pe_callB call_lenA (by rfl) T.b_len (by decide +kernel) (pa_cons (pe_ix ix_seq (pv 0) pe_int (fun _ _ => rfl)) pa_nil)) (nomark _)) (pss_one (ps_ret pe_int)) pss_nil)
  (pss_cons (ps_asg (pe_ix ix_seq (pe_ix ix_seq (pv 0) pe_int (fun _ _ => rfl)) (pe_ix ix_seq (pv 0) pe_int (fun _ _ => rfl)) (fun _ _ => rfl)) (pg_sub (pv 0) pe_int set_list))
  (pss_cons (ps_asg (pe_op op_addA (pe_ix ix_seq (pv 0) pe_int (fun _ _ => rfl)) pe_int) (pg_sub (pv 0) pe_int set_list))
  (pss_cons (ps_asg pe_int (pg_sub (pv 0) pe_int set_list))
  (pss_cons (ps_asg pe_int (pg_sub (pv 0) pe_int set_list))
  (pss_one (ps_if (pt_cmpR op_geA (pe_ix ix_seq (pv 0) pe_int (fun _ _ => rfl)) (pe_op op_powA pe_int pe_int) (nomark _)) (pss_cons (ps_asg pe_int (pg_sub (pv 0) pe_int set_list))
  (pss_one (ps_asg pe_int (pg_sub (pv 0) pe_int set_list)))) pss_nil))))))) pss_nil)
  (pss_cons (ps_asg (pe_op op_subA (pe_ix ix_seq (pv 0) pe_int (fun _ _ => rfl)) pe_int) (pg_sub (pv 0) pe_int set_list))
  (pss_cons (ps_if (pt_cmpR (op_eqA hr.units) (pe_ix ix_seq (pv 0) pe_int (fun _ _ => rfl)) pe_int (nomark _)) (pss_cons (ps_set (i := 2) sc_law_draw.nd rfl (Or.inl rfl) (pe_op op_modA (pe_callTy call_intA (by rfl) T.b_int (by decide +kernel) (pa_cons (pe_ix ix_seq (pv 0) pe_int (fun _ _ => rfl)) pa_nil)) (pv 1)))
  (pss_cons (ps_asg (pe_op op_divA (pe_callTy call_intA (by rfl) T.b_int (by decide +kernel) (pa_cons (pe_ix ix_seq (pv 0) pe_int (fun _ _ => rfl)) pa_nil)) (pv 1)) (pg_sub (pv 0) pe_int set_list))
  (pss_consC (ps_if (pt_cmpR (op_eqA hr.units) (pe_ix ix_seq (pv 0) pe_int (fun _ _ => rfl)) pe_int (nomark _)) (pss_one (ps_asg pe_int (pg_sub (pv 0) pe_int set_list))) pss_nil)
  (pss_one (ps_ret (pv 2)))))) pss_nil)
  (pss_cons (ps_set (i := 3) sc_law_draw.nd rfl (Or.inl rfl) (pe_op op_modA (pe_callTy call_intA (by rfl) T.b_int (by decide +kernel) (pa_cons (pe_op op_addA (pe_op op_addA (pe_op op_mulA (pe_ix ix_seq (pv 0) pe_int (fun _ _ => rfl)) pe_int) (pe_op op_mulA (pe_ix ix_seq (pv 0) pe_int (fun _ _ => rfl)) pe_int)) pe_int) pa_nil)) pe_int))
  (pss_cons (ps_set (i := 3) sc_law_draw.nd rfl (Or.inl rfl) (pe_op op_modA (pe_callTy call_intA (by rfl) T.b_int (by decide +kernel) (pa_cons (pe_op op_addA (pe_op op_addA (pe_op op_mulA (pv 3) pe_int) (pe_op op_divA (pv 3) pe_int)) pe_int) pa_nil)) pe_int))
  (pss_one (ps_ret (pe_op op_modA (pe_callTy call_intA (by rfl) T.b_int (by decide +kernel) (pa_cons (pv 3) pa_nil)) (pv 1)))))))))
theorem ok_law_reach {f : Addr} {fd : FuncData} (F : Fun K "_law_reach" "_law_reach" S_law_reach f fd) (T : Txt P w K mg Z) (G_law_draw : Cal P w K mg base CX0 "_law_draw" 1 ["state", "many"] (spDraw)) : FnOk P w K mg base CX0 2 f fd ["state"] (spLReach) := by
  refine F.ok sc_law_reach (fun vs H Q E h => len_law_reach K h) (fun cdv A outer s H vs Q E hr h => ⟨t_law_reach K, ?_, rd_law_reach K vs H Q E h⟩)
  exact (pss_one (ps_ret (pe_ix ix_seq (pe_lst (pa_cons pe_int (pa_cons pe_int (pa_cons pe_int (pa_cons pe_int (pa_cons pe_int (pa_cons pe_int (pa_cons pe_int (pa_cons pe_int (pa_cons pe_int (pa_cons pe_int (pa_cons pe_int (pa_cons pe_int (pa_cons pe_int (pa_cons pe_int (pa_cons pe_int (pa_cons pe_int pa_nil))))))))))))))))) (pe_cal G_law_draw (hr.mono (by decide)) pass0 (pa_cons (pv 0) (pa_cons pe_int pa_nil))) (fun _ _ => rfl))))
theorem ok_law_sides {f : Addr} {fd : FuncData} (F : Fun K "_law_sides" "_law_sides" S_law_sides f fd) (T : Txt P w K mg Z)  : FnOk P w K mg base CX0 1 f fd ["up", "down"] (spSides) := by
  refine F.ok sc_law_sides (fun vs H Q E h => len_law_sides K h) (fun cdv A outer s H vs Q E hr h => ⟨t_law_sides K, ?_, rd_law_sides K vs H Q E h⟩)
  exact (pss_consC (ps_if (PW.pt (pw_or (pt_cmpR (op_eqA hr.units) (pv 0) pe_int (nomark _)) (pw_or1 (pt_cmpR (op_eqA hr.units) (pv 1) pe_int (nomark _))))) (pss_one (ps_ret (pe_lst (pa_cons pe_str pa_nil)))) pss_nil)
  (pss_one (ps_ret (pe_lst (pa_cons pe_str (pa_cons pe_str pa_nil))))))
theorem ok_law_cells {f : Addr} {fd : FuncData} (F : Fun K "_law_cells" "_law_cells" S_law_cells f fd) (T : Txt P w K mg Z) (G_law_sides : Cal P w K mg base CX0 "_law_sides" 1 ["up", "down"] (spSides)) : FnOk P w K mg base CX0 2 f fd ["reach"] (spCells) := by
  refine F.ok sc_law_cells (fun vs H Q E h => len_law_cells K h) (fun cdv A outer s H vs Q E hr h => ⟨t_law_cells K Z, ?_, rd_law_cells K Z T.cf vs H Q E h⟩)
  exact (pss_cons (ps_set (i := 1) sc_law_cells.nd rfl (Or.inl rfl) (pe_lst pa_nil))
  (pss_cons (ps_for PassesOwn.never rfl (pi_range2 (by rfl) T.b_range (pa_cons pe_int (pa_cons (pe_op op_addA (pe_op op_mulA pe_int (pv 0)) pe_int) pa_nil))) (pg_name (i := 2) sc_law_cells.nd rfl (Or.inl rfl)) (pss_one (ps_for PassesOwn.never rfl (pi_range1 (by rfl) T.b_range (pa_cons (pe_op op_addA (pv 0) pe_int) pa_nil)) (pg_name (i := 3) sc_law_cells.nd rfl (Or.inl rfl)) (pss_one (ps_if (pt_chain op_leA op_leA pe_int (pe_op op_subA (pv 2) (pv 3)) (pv 0)) (pss_one (ps_for PassesOwn.never rfl (pi_any (pe_cal G_law_sides (hr.mono (by decide)) pass0 (pa_cons (pv 3) (pa_cons (pe_op op_subA (pv 2) (pv 3)) pa_nil)))) (pg_name (i := 4) sc_law_cells.nd rfl (Or.inl rfl)) (pss_one (ps_expr (pe_bm PySem.F.plainAttrs_list PySem.F.slot_list_append PySem.F.type_list_append mt_append (pv 1) (pa_cons (pe_tup (pa_cons (pv 3) (pa_cons (pe_op op_subA (pv 2) (pv 3)) (pa_cons (pv 4) pa_nil)))) pa_nil)))))) pss_nil)))))
  (pss_one (ps_ret (pv 1)))))
theorem ok_law_wanted {f : Addr} {fd : FuncData} (F : Fun K "_law_wanted" "_law_wanted" S_law_wanted f fd) (T : Txt P w K mg Z)  : FnOk P w K mg base CX0 1 f fd ["mode", "digit", "up", "down", "side"] (spWanted) := by
  refine F.ok sc_law_wanted (fun vs H Q E h => len_law_wanted K h) (fun cdv A outer s H vs Q E hr h => ⟨t_law_wanted K, ?_, rd_law_wanted K vs H Q E h⟩)
  exact (pss_cons (ps_if (pt_cmpR (op_eqA hr.units) (pv 0) pe_int (nomark _)) (pss_one (ps_ret (pe_cmpR (op_eqA hr.units) (pv 1) pe_int (nomark _)))) pss_nil)
  (pss_cons (ps_if (pt_cmpR (op_eqA hr.units) (pv 0) pe_int (nomark _)) (pss_one (ps_ret (pe_cmpR op_gtA (pv 1) pe_int (nomark _)))) pss_nil)
  (pss_cons (ps_if (pt_cmpR (op_eqA hr.units) (pv 0) pe_int (nomark _)) (pss_one (ps_ret (pe_and (pe_cmpR op_gtA (pv 1) pe_int (nomark _)) (pe_one (pe_or (pe_cmpR (op_eqA hr.units) (pv 4) pe_str (nomark _)) (pe_one (pe_and (pe_cmpR (op_eqA hr.units) (pv 4) pe_str (nomark _)) (pe_one (pe_cmpR (op_eqA hr.units) (pv 3) pe_int (nomark _)))))))))) pss_nil)
  (pss_cons (ps_if (pt_cmpR (op_eqA hr.units) (pv 0) pe_int (nomark _)) (pss_one (ps_ret (pe_and (pe_cmpR op_gtA (pv 1) pe_int (nomark _)) (pe_one (pe_or (pe_cmpR (op_eqA hr.units) (pv 4) pe_str (nomark _)) (pe_one (pe_and (pe_cmpR (op_eqA hr.units) (pv 4) pe_str (nomark _)) (pe_one (pe_cmpR (op_eqA hr.units) (pv 2) pe_int (nomark _)))))))))) pss_nil)
  (pss_cons (ps_if (pt_cmpR (op_eqA hr.units) (pv 0) pe_int (nomark _)) (pss_one (ps_ret (pe_and (pe_cmpR op_gtA (pv 1) pe_int (nomark _)) (pe_one (pe_or (pe_cmpR (op_eqA hr.units) (pv 4) pe_str (nomark _)) (pe_one (pe_and (pe_cmpR (op_eqA hr.units) (pv 4) pe_str (nomark _)) (pe_one (pe_cmpR (op_eqA hr.units) (pv 3) pe_int (nomark _)))))))))) pss_nil)
  (pss_cons (ps_if (pt_cmpR (op_eqA hr.units) (pv 0) pe_int (nomark _)) (pss_one (ps_ret (pe_and (pe_cmpR op_gtA (pv 1) pe_int (nomark _)) (pe_one (pe_cmpR op_gtA (pv 3) (pv 2) (nomark _)))))) pss_nil)
  (pss_cons (ps_if (pt_cmpR (op_eqA hr.units) (pv 0) pe_int (nomark _)) (pss_one (ps_ret (pe_and (pe_cmpR op_gtA (pv 1) pe_int (nomark _)) (pe_one (pe_chain op_ltA op_ltA (pe_un un_negA pe_int) (pe_op op_subA (pv 2) (pv 3)) pe_int))))) pss_nil)
  (pss_one (ps_ret (pe_and (pe_cmpR op_gtA (pv 1) pe_int (nomark _)) (pe_one (pe_cmpR (op_neA hr.units) (pv 4) pe_str (nomark _)))))))))))))
theorem ok_law_rule_cells {f : Addr} {fd : FuncData} (F : Fun K "_law_rule_cells" "_law_rule_cells" S_law_rule_cells f fd) (T : Txt P w K mg Z) (G_law_draw : Cal P w K mg base CX0 "_law_draw" 1 ["state", "many"] (spDraw)) (G_law_cells : Cal P w K mg base CX0 "_law_cells" 2 ["reach"] (spCells)) (G_law_wanted : Cal P w K mg base CX0 "_law_wanted" 1 ["mode", "digit", "up", "down", "side"] (spWanted)) : FnOk P w K mg base CX0 3 f fd ["state", "reach"] (spRuleCells) := by
  refine F.ok sc_law_rule_cells (fun vs H Q E h => len_law_rule_cells K h) (fun cdv A outer s H vs Q E hr h => ⟨t_law_rule_cells K Z, ?_, rd_law_rule_cells K Z T.cf vs H Q E h⟩)
  exact (pss_cons (ps_set (i := 2) sc_law_rule_cells.nd rfl (Or.inl rfl) (pe_cal G_law_draw (hr.mono (by decide)) pass0 (pa_cons (pv 0) (pa_cons pe_int pa_nil))))
  (pss_cons (ps_set (i := 3) sc_law_rule_cells.nd rfl (Or.inl rfl) (pe_lst pa_nil))
  (pss_cons (ps_for PassesOwn.never rfl (pi_any (pe_cal G_law_cells (hr.mono (by decide)) pass0 (pa_cons (pv 1) pa_nil))) (pg_name (i := 4) sc_law_rule_cells.nd rfl (Or.inl rfl)) (pss_one (ps_if (pt_tru (pe_cal G_law_wanted (hr.mono (by decide)) pass0 (pa_cons (pv 2) (pa_cons (pe_cal G_law_draw (hr.mono (by decide)) pass0 (pa_cons (pv 0) (pa_cons pe_int pa_nil))) (pa_cons (pe_ix ix_seq (pv 4) pe_int (fun _ _ => rfl)) (pa_cons (pe_ix ix_seq (pv 4) pe_int (fun _ _ => rfl)) (pa_cons (pe_ix ix_seq (pv 4) pe_int (fun _ _ => rfl)) pa_nil))))))) (pss_one (ps_expr (pe_bm PySem.F.plainAttrs_list PySem.F.slot_list_append PySem.F.type_list_append mt_append (pv 3) (pa_cons (pv 4) pa_nil)))) pss_nil)))
  (pss_one (ps_ret (pv 3))))))
theorem ok_law_capped {f : Addr} {fd : FuncData} (F : Fun K "_law_capped" "_law_capped" S_law_capped f fd) (T : Txt P w K mg Z)  : FnOk P w K mg base CX0 1 f fd ["parts", "reach"] (spLCapped K) := by
  refine F.ok sc_law_capped (fun vs H Q E h => len_law_capped K h) (fun cdv A outer s H vs Q E hr h => ⟨t_law_capped K, ?_, rd_law_capped K vs H Q E h⟩)
  exact (pss_one (ps_ret (pe_tup (pa_cons (pe_callB (call_minA rfl) (by rfl) T.b_min (by decide +kernel) (pa_cons (pe_callTy call_intA (by rfl) T.b_int (by decide +kernel) (pa_cons (pe_ix ix_seq (pv 0) pe_int (fun _ _ => rfl)) pa_nil)) (pa_cons (pv 1) pa_nil))) (pa_cons (pe_callB (call_minA rfl) (by rfl) T.b_min (by decide +kernel) (pa_cons (pe_callTy call_intA (by rfl) T.b_int (by decide +kernel) (pa_cons (pe_ix ix_seq (pv 0) pe_int (fun _ _ => rfl)) pa_nil)) (pa_cons (pv 1) pa_nil))) (pa_cons (pe_ix ix_seq (pv 0) pe_int (fun _ _ => rfl)) pa_nil))))))
theorem ok_law_near {f : Addr} {fd : FuncData} (F : Fun K "_law_near" "_law_near" S_law_near f fd) (T : Txt P w K mg Z) (G_law_draw : Cal P w K mg base CX0 "_law_draw" 1 ["state", "many"] (spDraw)) (G_law_cells : Cal P w K mg base CX0 "_law_cells" 2 ["reach"] (spCells)) (G_law_rule_cells : Cal P w K mg base CX0 "_law_rule_cells" 3 ["state", "reach"] (spRuleCells)) (G_law_capped : Cal P w K mg base CX0 "_law_capped" 1 ["parts", "reach"] (spLCapped K)) : FnOk P w K mg base CX0 4 f fd ["state", "left", "mine", "right"] (spNear K) := by
  refine F.ok sc_law_near (fun vs H Q E h => len_law_near K h) (fun cdv A outer s H vs Q E hr h => ⟨t_law_near K Z, ?_, rd_law_near K Z T.cf vs H Q E h⟩)
  exact (pss_cons (ps_set (i := 4) sc_law_near.nd rfl (Or.inl rfl) (pe_cal G_law_draw (hr.mono (by decide)) pass0 (pa_cons (pv 0) (pa_cons pe_int pa_nil))))
  (pss_cons (ps_if (pt_cmpR (op_eqA hr.units) (pv 4) pe_int (nomark _)) (pss_one (ps_ret (pe_lst (pa_cons (pv 3) (pa_cons (pe_cal G_law_rule_cells (hr.mono (by decide)) pass0 (pa_cons (pv 0) (pa_cons (pv 3) pa_nil))) pa_nil))))) pss_nil)
  (pss_cons (ps_set (i := 5) sc_law_near.nd rfl (Or.inl rfl) (pe_callB (call_maxA rfl) (by rfl) T.b_max (by decide +kernel) (pa_cons (pv 1) (pa_cons (pe_callTy call_intA (by rfl) T.b_int (by decide +kernel) (pa_cons (pv 3) pa_nil)) pa_nil))))
  (pss_consC (ps_if (PW.pt (pw_and (pt_cmpR (op_eqA hr.units) (pv 5) (pv 1) (nomark _)) (pw_and1 (pt_cmpR op_ltA (pv 1) pe_int (nomark _))))) (pss_one (ps_set (i := 5) sc_law_near.nd rfl (Or.inl rfl) (pe_op op_addA (pv 1) pe_int))) pss_nil)
  (pss_consC (ps_if (pt_cmpR (op_eqA hr.units) (pv 4) pe_int (nomark _)) (pss_one (ps_set (i := 5) sc_law_near.nd rfl (Or.inl rfl) (pv 1))) pss_nil)
  (pss_cons (ps_set (i := 6) sc_law_near.nd rfl (Or.inl rfl) (pe_cal G_law_cells (hr.mono (by decide)) pass0 (pa_cons (pv 5) pa_nil)))
  (pss_cons (ps_setLc (i := 7) (own := [("cell", 9)]) (g := (gName 9)) (tt := (tTest (tOp (rInD K) (tCall (spLCapped K) [] E0 (tCons (tVar 9) (tCons (tVar 1) tNil))) (tVar 2)))) (te := (tVar 9)) rfl sc_law_near.nd rfl rfl (sw_true rfl rfl rfl (by decide +kernel)) (pi_any (pv 6)) (blkOk_by (N := ["state", "left", "mine", "right", "kind", "reach", "cells", "yours", "point", "cell"]) (sc := defScope S_law_near) (by decide +kernel)) (fun _ _ _ _ _ => pg_name (i := 9) sc_law_near.nd rfl (Or.inl rfl)) (fun _ _ _ _ _ => (pts_one (pt_cmpR (op_inD (units65 hr)) (pe_cal G_law_capped (hr.mono (by decide)) pass0 (pa_cons (pv 9) (pa_cons (pv 1) pa_nil))) (pv 2) rfl))) (fun _ _ _ _ _ => (pv 9)))
  (pss_cons (ps_set (i := 8) sc_law_near.nd rfl (Or.inr rfl) (pe_ix ix_seq (pv 6) (pe_cal G_law_draw (hr.mono (by decide)) pass0 (pa_cons (pv 0) (pa_cons (pe_callB call_lenA (by rfl) T.b_len (by decide +kernel) (pa_cons (pv 6) pa_nil)) pa_nil))) (fun _ _ => rfl)))
  (pss_cons (ps_if (pt_cmpR op_gtA (pv 4) pe_int (nomark _)) (pss_one (ps_ret (pe_lst (pa_cons (pv 5) (pa_cons (pv 7) pa_nil))))) pss_nil)
  (pss_consC (ps_if (pt_cmpR (op_inD (units65 hr)) (pv 8) (pv 7) rfl) (pss_one (ps_setLc (i := 7) (own := [("cell", 9)]) (g := (gName 9)) (tt := (tTest (tOp (rNeA K) (tVar 9) (tVar 8)))) (te := (tVar 9)) rfl sc_law_near.nd rfl rfl (sw_true rfl rfl rfl (by decide +kernel)) (pi_any (pv 7)) (blkOk_by (N := ["state", "left", "mine", "right", "kind", "reach", "cells", "yours", "point", "cell"]) (sc := defScope S_law_near) (by decide +kernel)) (fun _ _ _ _ _ => pg_name (i := 9) sc_law_near.nd rfl (Or.inl rfl)) (fun _ _ _ _ _ => (pts_one (pt_cmpR (op_neA hr.units) (pv 9) (pv 8) (nomark _)))) (fun _ _ _ _ _ => (pv 9)))) (pss_one (ps_expr (pe_bm PySem.F.plainAttrs_list PySem.F.slot_list_append PySem.F.type_list_append mt_append (pv 7) (pa_cons (pv 8) pa_nil)))))
  (pss_one (ps_ret (pe_lst (pa_cons (pv 5) (pa_cons (pv 7) pa_nil)))))))))))))))
theorem ok_demand_reach {f : Addr} {fd : FuncData} (F : Fun K "demand_reach" "demand_reach" S_demand_reach f fd) (T : Txt P w K mg Z)  : FnOk P w K mg base (L2N.CX P w) 1 f fd ["reach"] (spDemR Z) := by
  refine okXN F sc_demand_reach (fun vs H Q E h => len_demand_reach K h) (fun cdv A outer s H vs Q E hr h => ⟨t_demand_reach K Z E, ?_, rd_demand_reach K Z T.cf vs H Q E h⟩)
  exact (pss_one (ps_if (pt_not (pt_chain op_leA op_leA (pe_globE (by rfl) T.m_LEAST_REACH) (pv 0) (pe_globE (by rfl) T.m_MOST_REACH))) (pss_one (ps_raiseE rfl T.e_BadReach (Room.er hr (by decide)) (by decide) (L2N.takes_of rfl rfl rfl rfl) (pa_cons (pv 0) pa_nil))) pss_nil))
theorem ok_Kin_is_self {f : Addr} {fd : FuncData} (F : Fun K "is_self" "Kin.is_self" S_Kin_is_self f fd) (T : Txt P w K mg Z)  : FnOk P w K mg base CX0 1 f fd ["self"] (spIsSelf Z) := by
  refine F.ok sc_Kin_is_self (fun vs H Q E h => len_Kin_is_self K h) (fun cdv A outer s H vs Q E hr h => ⟨t_Kin_is_self K Z, ?_, rd_Kin_is_self K Z T.cf vs H Q E h⟩)
  exact (pss_one (ps_ret (pe_cmpR (op_eqA hr.units) (pe_fld (pv 0) rfl) pe_int (nomark _))))
theorem ok_fits_side {f : Addr} {fd : FuncData} (F : Fun K "fits_side" "fits_side" S_fits_side f fd) (T : Txt P w K mg Z)  : FnOk P w K mg base CX0 1 f fd ["up", "down", "side"] (spFits) := by
  refine F.ok sc_fits_side (fun vs H Q E h => len_fits_side K h) (fun cdv A outer s H vs Q E hr h => ⟨t_fits_side K, ?_, rd_fits_side K vs H Q E h⟩)
  exact (pss_consC (ps_if (PW.pt (pw_or (pt_cmpR (op_eqA hr.units) (pv 0) pe_int (nomark _)) (pw_or1 (pt_cmpR (op_eqA hr.units) (pv 1) pe_int (nomark _))))) (pss_one (ps_ret (pe_cmpR (op_eqA hr.units) (pv 2) pe_str (nomark _)))) pss_nil)
  (pss_one (ps_ret (pe_or (pe_cmpR (op_eqA hr.units) (pv 2) pe_str (nomark _)) (pe_one (pe_cmpR (op_eqA hr.units) (pv 2) pe_str (nomark _)))))))
theorem ok_Kin__init_ {f : Addr} {fd : FuncData} (F : Fun K "__init__" "Kin.__init__" S_Kin__init_ f fd) (T : Txt P w K mg Z) (G_fits_side : Cal P w K mg base CX0 "fits_side" 1 ["up", "down", "side"] (spFits)) : FnOk P w K mg base (L2N.CX P w) 2 f fd ["self", "up", "down", "side"] (spKin K Z) := by
  refine okXN F sc_Kin__init_ (fun vs H Q E h => len_Kin__init_ K h) (fun cdv A outer s H vs Q E hr h => ⟨t_Kin__init_ K Z E, ?_, rd_Kin__init_ K Z T.cf vs H Q E h⟩)
  exact (pss_consC (ps_if (PW.pt (pw_or (pt_not (pt_chain op_leA op_leA pe_int (pv 1) (pe_con (pv 0) rfl))) (pw_or (pt_not (pt_chain op_leA op_leA pe_int (pv 2) (pe_con (pv 0) rfl))) (pw_or1 (pt_not (pt_tru (pe_cal G_fits_side (hr.mono (by decide)) pass0 (pa_cons (pv 1) (pa_cons (pv 2) (pa_cons (pv 3) pa_nil)))))))))) (pss_one (ps_raiseE rfl T.e_BadKin (Room.er hr (by decide)) (by decide) (L2N.takes_of rfl rfl rfl rfl) (pa_cons (pv 1) (pa_cons (pv 2) (pa_cons (pv 3) pa_nil))))) pss_nil)
  (pss_cons (ps_fld (pv 0) (pv 1) rfl)
  (pss_cons (ps_fld (pv 0) (pv 2) rfl)
  (pss_cons (ps_fld (pv 0) (pv 3) rfl)
  (pss_cons (ps_fld (pv 0) (pe_op op_addA (pv 1) (pv 2)) rfl)
  (pss_one (ps_fld (pv 0) (pe_bm PySem.F.plainAttrs_tuple PySem.F.slot_tuple_index PySem.F.type_tuple_index (mt_idxT T.t_SIDES) (pe_globE (by rfl) T.m_SIDES) (pa_cons (pv 3) pa_nil)) rfl)))))))
theorem ok_capped {f : Addr} {fd : FuncData} (F : Fun K "capped" "capped" S_capped f fd) (T : Txt P w K mg Z)  : FnOk P w K mg base CX0 1 f fd ["number", "reach"] (spCapped) := by
  refine F.ok sc_capped (fun vs H Q E h => len_capped K h) (fun cdv A outer s H vs Q E hr h => ⟨t_capped K, ?_, rd_capped K vs H Q E h⟩)
  exact (pss_cons (ps_if (pt_cmpR op_ltA (pv 0) (pv 1) (nomark _)) (pss_one (ps_ret (pv 0))) pss_nil)
  (pss_one (ps_ret (pv 1))))
theorem ok_Kin__mod_ {f : Addr} {fd : FuncData} (F : Fun K "__mod__" "Kin.__mod__" S_Kin__mod_ f fd) (T : Txt P w K mg Z) (G_Kin__init_ : CalK P w K mg base (L2N.CX P w) "Kin" Z.Kin 2 ["self", "up", "down", "side"] (spKin K Z)) (G_capped : Cal P w K mg base CX0 "capped" 1 ["number", "reach"] (spCapped)) : FnOk P w K mg base (L2N.CX P w) 4 f fd ["self", "reach"] (spMod K Z) := by
  refine okXN F sc_Kin__mod_ (fun vs H Q E h => len_Kin__mod_ K h) (fun cdv A outer s H vs Q E hr h => ⟨t_Kin__mod_ K Z E, ?_, rd_Kin__mod_ K Z T.cf vs H Q E h⟩)
  exact (pss_cons (ps_if (pt_cmpR op_ltA (pv 1) pe_int (nomark _)) (pss_one (ps_raiseE rfl T.e_BadReach (Room.er hr (by decide)) (by decide) (L2N.takes_of rfl rfl rfl rfl) (pa_cons (pv 1) pa_nil))) pss_nil)
  (pss_one (ps_ret (pe_calK G_Kin__init_ (hr.mono (by decide)) (fun σ => L2N.passAt (L2N.takes_of rfl rfl rfl rfl) σ) (pa_cons (pe_cal G_capped (hr.mono (by decide)) pass0 (pa_cons (pe_fld (pv 0) rfl) (pa_cons (pv 1) pa_nil))) (pa_cons (pe_cal G_capped (hr.mono (by decide)) pass0 (pa_cons (pe_fld (pv 0) rfl) (pa_cons (pv 1) pa_nil))) (pa_cons (pe_fld (pv 0) rfl) pa_nil)))))))
theorem ok_let_parts {f : Addr} {fd : FuncData} (F : Fun K "let_parts" "let_parts" S_let_parts f fd) (T : Txt P w K mg Z) (G_Kin_is_self : CalP P w K mg base Z.Kin "is_self" 1 (spIsSelf Z)) (G_Kin__mod_ : CalM P w K mg base (L2N.CX P w) Z.Kin "__mod__" 4 ["self", "reach"] (spMod K Z)) : FnOk P w K mg base (L2N.CX P w) 5 f fd ["reach", "kins"] (spLetParts Z) := by
  refine okXN F sc_let_parts (fun vs H Q E h => len_let_parts K h) (fun cdv A outer s H vs Q E hr h => ⟨t_let_parts K Z E, ?_, rd_let_parts K Z T.cf vs H Q E h⟩)
  exact (pss_cons (ps_set (i := 2) sc_let_parts.nd rfl (Or.inl rfl) pe_dnewT)
  (pss_cons (ps_for (passes_of rfl) rfl (pi_any (pv 1)) (pg_name (i := 3) sc_let_parts.nd rfl (Or.inl rfl)) (pss_cons (ps_if (pt_tru (pe_calP G_Kin_is_self (pv 3) (hr.mono (by decide)))) (pss_one (ps_raiseE rfl T.e_BadCell (Room.er hr (by decide)) (by decide) (L2N.takes_of rfl rfl rfl rfl) (pa_cons (pv 3) pa_nil))) pss_nil)
  (pss_cons (ps_set (i := 4) sc_let_parts.nd rfl (Or.inl rfl) (pe_opS (op_ownI intop_mod (by decide +kernel) T.cf.op_Kin_mod G_Kin__mod_ (hr.mono (by decide)) (fun σ => L2N.passAt (L2N.takes_of rfl rfl rfl rfl) σ)) (pv 3) (pv 0)))
  (pss_one (ps_dput (units1 hr) (pv 2) (pe_tup (pa_cons (pe_fld (pv 4) rfl) (pa_cons (pe_fld (pv 4) rfl) (pa_cons (pe_fld (pv 4) rfl) pa_nil)))) pe_bl (by rfl))))))
  (pss_one (ps_ret (pv 2)))))
theorem ok_all_cells {f : Addr} {fd : FuncData} (F : Fun K "all_cells" "all_cells" S_all_cells f fd) (T : Txt P w K mg Z) (G_demand_reach : Cal P w K mg base (L2N.CX P w) "demand_reach" 1 ["reach"] (spDemR Z)) (G_Kin__init_ : CalK P w K mg base (L2N.CX P w) "Kin" Z.Kin 2 ["self", "up", "down", "side"] (spKin K Z)) : FnOk P w K mg base (L2N.CX P w) 4 f fd ["reach"] (spAllCells Z) := by
  refine okXN F sc_all_cells (fun vs H Q E h => len_all_cells K h) (fun cdv A outer s H vs Q E hr h => ⟨t_all_cells K Z E, ?_, rd_all_cells K Z T.cf vs H Q E h⟩)
  exact (pss_cons (ps_expr (pe_calS G_demand_reach (hr.mono (by decide)) (fun σ => L2N.passAt (L2N.takes_of rfl rfl rfl rfl) σ) (pa_cons (pv 0) pa_nil)))
  (pss_cons (ps_set (i := 1) sc_all_cells.nd rfl (Or.inl rfl) (pe_lst pa_nil))
  (pss_cons (ps_for (passes_of rfl) rfl (pi_range2 (by rfl) T.b_range (pa_cons pe_int (pa_cons (pe_op op_addA (pe_op op_mulA pe_int (pv 0)) pe_int) pa_nil))) (pg_name (i := 2) sc_all_cells.nd rfl (Or.inl rfl)) (pss_one (ps_for (passes_of rfl) rfl (pi_range1 (by rfl) T.b_range (pa_cons (pe_op op_addA (pv 0) pe_int) pa_nil)) (pg_name (i := 3) sc_all_cells.nd rfl (Or.inl rfl)) (pss_cons (ps_set (i := 4) sc_all_cells.nd rfl (Or.inl rfl) (pe_op op_subA (pv 2) (pv 3)))
  (pss_consC (ps_if (PW.pt (pw_or (pt_cmpR op_ltA (pv 4) pe_int (nomark _)) (pw_or1 (pt_cmpR op_gtA (pv 4) (pv 0) (nomark _))))) (pss_one ps_continue) pss_nil)
  (pss_one (ps_if (PW.pt (pw_or (pt_cmpR (op_eqA hr.units) (pv 3) pe_int (nomark _)) (pw_or1 (pt_cmpR (op_eqA hr.units) (pv 4) pe_int (nomark _))))) (pss_one (ps_expr (pe_bm PySem.F.plainAttrs_list PySem.F.slot_list_append PySem.F.type_list_append mt_append (pv 1) (pa_cons (pe_calK G_Kin__init_ (hr.mono (by decide)) (fun σ => L2N.passAt (L2N.takes_of rfl rfl rfl rfl) σ) (pa_cons (pv 3) (pa_cons (pv 4) (pa_cons pe_str pa_nil)))) pa_nil)))) (pss_cons (ps_expr (pe_bm PySem.F.plainAttrs_list PySem.F.slot_list_append PySem.F.type_list_append mt_append (pv 1) (pa_cons (pe_calK G_Kin__init_ (hr.mono (by decide)) (fun σ => L2N.passAt (L2N.takes_of rfl rfl rfl rfl) σ) (pa_cons (pv 3) (pa_cons (pv 4) (pa_cons pe_str pa_nil)))) pa_nil)))
  (pss_one (ps_expr (pe_bm PySem.F.plainAttrs_list PySem.F.slot_list_append PySem.F.type_list_append mt_append (pv 1) (pa_cons (pe_calK G_Kin__init_ (hr.mono (by decide)) (fun σ => L2N.passAt (L2N.takes_of rfl rfl rfl rfl) σ) (pa_cons (pv 3) (pa_cons (pv 4) (pa_cons pe_str pa_nil)))) pa_nil))))))))))))
  (pss_one (ps_ret (pv 1))))))
theorem ok_Rule_lets {f : Addr} {fd : FuncData} (F : Fun K "lets" "Rule.lets" S_Rule_lets f fd) (T : Txt P w K mg Z) (G_capped : Cal P w K mg base CX0 "capped" 1 ["number", "reach"] (spCapped)) : FnOk P w K mg base CX0 2 f fd ["self", "up", "down", "side"] (spLets Z) := by
  refine F.ok sc_Rule_lets (fun vs H Q E h => len_Rule_lets K h) (fun cdv A outer s H vs Q E hr h => ⟨t_Rule_lets K Z, ?_, rd_Rule_lets K Z T.cf vs H Q E h⟩)
  exact (pss_one (ps_ret (pe_cmpR (op_inT (units1 hr)) (pe_tup (pa_cons (pe_cal G_capped (hr.mono (by decide)) pass0 (pa_cons (pv 1) (pa_cons (pe_fld (pv 0) rfl) pa_nil))) (pa_cons (pe_cal G_capped (hr.mono (by decide)) pass0 (pa_cons (pv 2) (pa_cons (pe_fld (pv 0) rfl) pa_nil))) (pa_cons (pv 3) pa_nil)))) (pe_fld (pv 0) rfl) rfl)))
theorem ok_Rule__init_ {f : Addr} {fd : FuncData} (F : Fun K "__init__" "Rule.__init__" S_Rule__init_ f fd) (T : Txt P w K mg Z) (G_demand_reach : Cal P w K mg base (L2N.CX P w) "demand_reach" 1 ["reach"] (spDemR Z)) (G_let_parts : Cal P w K mg base (L2N.CX P w) "let_parts" 5 ["reach", "kins"] (spLetParts Z)) (G_all_cells : Cal P w K mg base (L2N.CX P w) "all_cells" 4 ["reach"] (spAllCells Z)) (G_Rule_lets : CalM P w K mg base CX0 Z.Rule "lets" 2 ["self", "up", "down", "side"] (spLets Z)) : FnR P w K mg base (L2N.CX P w) 6 f (starSp 2 (spRule Z)) := by
  refine okStar (ps := ["self", "reach"]) (pv := "kins") F sc_Rule__init_ cxUpN (fun kV doc pm an cdv ct => StX.bind_star2 (B := fun us => bindArgs (PySem.W.fnOf "__init__" "Rule.__init__" (defArgs S_Rule__init_) (defBody S_Rule__init_) (defScope S_Rule__init_) .none kV doc pm an cdv ct) ⟨us, []⟩) (fun a b => by rfl) (fun a b r rs => by rfl)) (fun cdv A outer s H vs Q E hr h => ⟨t_Rule__init_ K Z E, ?_, rd_Rule__init_ K Z T.cf vs H Q E h⟩)
  exact (pss_cons (ps_expr (pe_calS G_demand_reach (hr.mono (by decide)) (fun σ => L2N.passAt (L2N.takes_of rfl rfl rfl rfl) σ) (pa_cons (pv 1) pa_nil)))
  (pss_cons (ps_fld (pv 0) (pv 1) rfl)
  (pss_cons (ps_fld (pv 0) (pe_calS G_let_parts (hr.mono (by decide)) (fun σ => L2N.passAt (L2N.takes_of rfl rfl rfl rfl) σ) (pa_cons (pv 1) (pa_cons (pv 2) pa_nil))) rfl)
  (pss_one (ps_fld (pv 0) (pe_lc (own := [("cell", 3)]) (g := (gName 3)) (tt := (tTru K (tMethT Z.Rule "lets" (spLets Z) (fun _ => E0) (tVar 0) (tCons (tFld K (tVar 3) "up") (tCons (tFld K (tVar 3) "down") (tCons (tFld K (tVar 3) "side") tNil)))))) (te := (tVar 3)) rfl sc_Rule__init_.nd (pi_any (pe_calS G_all_cells (hr.mono (by decide)) (fun σ => L2N.passAt (L2N.takes_of rfl rfl rfl rfl) σ) (pa_cons (pv 1) pa_nil))) (blkOk_by (N := ["self", "reach", "kins", "cell"]) (sc := defScope S_Rule__init_) (by decide +kernel)) (fun _ _ _ _ _ => pg_name (i := 3) sc_Rule__init_.nd rfl (Or.inl rfl)) (fun _ _ _ _ _ => (pts_one (pt_tru (pe_calM G_Rule_lets (pv 0) (hr.mono (by decide)) (fun σ => passH0) (pa_cons (pe_fld (pv 3) rfl) (pa_cons (pe_fld (pv 3) rfl) (pa_cons (pe_fld (pv 3) rfl) pa_nil))))))) (fun _ _ _ _ _ => (pv 3))) rfl)))))
theorem ok_Rule__getitem_ {f : Addr} {fd : FuncData} (F : Fun K "__getitem__" "Rule.__getitem__" S_Rule__getitem_ f fd) (T : Txt P w K mg Z) (G_Rule_lets : CalM P w K mg base CX0 Z.Rule "lets" 2 ["self", "up", "down", "side"] (spLets Z)) : FnOk P w K mg base CX0 3 f fd ["self", "kin"] (spRGet Z) := by
  refine F.ok sc_Rule__getitem_ (fun vs H Q E h => len_Rule__getitem_ K h) (fun cdv A outer s H vs Q E hr h => ⟨t_Rule__getitem_ K Z, ?_, rd_Rule__getitem_ K Z T.cf vs H Q E h⟩)
  exact (pss_one (ps_ret (pe_calM G_Rule_lets (pv 0) (hr.mono (by decide)) (fun σ => passH0) (pa_cons (pe_fld (pv 1) rfl) (pa_cons (pe_fld (pv 1) rfl) (pa_cons (pe_fld (pv 1) rfl) pa_nil))))))
theorem ok_Kin_measure {f : Addr} {fd : FuncData} (F : Fun K "measure" "Kin.measure" S_Kin_measure f fd) (T : Txt P w K mg Z)  : FnOk P w K mg base CX0 1 f fd ["self"] (spMeasure Z) := by
  refine F.ok sc_Kin_measure (fun vs H Q E h => len_Kin_measure K h) (fun cdv A outer s H vs Q E hr h => ⟨t_Kin_measure K Z, ?_, rd_Kin_measure K Z T.cf vs H Q E h⟩)
  exact (pss_one (ps_ret (pe_tup (pa_cons (pe_fld (pv 0) rfl) (pa_cons (pe_fld (pv 0) rfl) (pa_cons (pe_fld (pv 0) rfl) pa_nil))))))
theorem ok_Kin__lt_ {f : Addr} {fd : FuncData} (F : Fun K "__lt__" "Kin.__lt__" S_Kin__lt_ f fd) (T : Txt P w K mg Z) (G_Kin_measure : CalM P w K mg base CX0 Z.Kin "measure" 1 ["self"] (spMeasure Z)) : FnOk P w K mg base CX0 2 f fd ["self", "other"] (spKinLt Z) := by
  refine F.ok sc_Kin__lt_ (fun vs H Q E h => len_Kin__lt_ K h) (fun cdv A outer s H vs Q E hr h => ⟨t_Kin__lt_ K Z, ?_, rd_Kin__lt_ K Z T.cf vs H Q E h⟩)
  exact (pss_cons (ps_if (pt_not (pt_tru (pe_callB call_isA (by rfl) T.b_isinstance (by decide +kernel) (pa_cons (pv 1) (pa_cons (pe_glob (by rfl) T.g_Kin rfl) pa_nil))))) (pss_one (ps_ret pe_never)) pss_nil)
  (pss_one (ps_ret (pe_cmpR (op_lt3 hr.units0) (pe_calM0 G_Kin_measure (pv 0) (hr.mono (by decide)) (fun σ => passH0) ) (pe_calM0 G_Kin_measure (pv 1) (hr.mono (by decide)) (fun σ => passH0) ) (nomark _)))))
theorem ok_Rule_put {f : Addr} {fd : FuncData} (F : Fun K "put" "Rule.put" S_Rule_put f fd) (T : Txt P w K mg Z) (G_Rule__getitem_ : CalG P w K mg base CX0 Z.Rule "__getitem__" 3 ["self", "kin"] (spRGet Z)) (G_Kin__lt_ : CalM P w K mg base CX0 Z.Kin "__lt__" 2 ["self", "other"] (spKinLt Z)) : FnOk P w K mg base CX0 5 f fd ["self", "cell"] (spPut Z) := by
  refine F.ok sc_Rule_put (fun vs H Q E h => len_Rule_put K h) (fun cdv A outer s H vs Q E hr h => ⟨t_Rule_put K Z, ?_, rd_Rule_put K Z T.cf vs H Q E h⟩)
  exact (pss_cons (ps_if (pt_tru (pe_ixO G_Rule__getitem_ (hr.mono (by decide)) (fun σ => passH0) (pv 0) (pv 1))) (pss_one ps_retN) pss_nil)
  (pss_cons (ps_dput (units1 hr) (pe_fld (pv 0) rfl) (pe_tup (pa_cons (pe_fld (pv 1) rfl) (pa_cons (pe_fld (pv 1) rfl) (pa_cons (pe_fld (pv 1) rfl) pa_nil)))) pe_bl (by rfl))
  (pss_cons (ps_set (i := 2) sc_Rule_put.nd rfl (Or.inl rfl) pe_int)
  (pss_consC (ps_while PassesOwn.never (PW.pt (pw_and (pt_cmpR op_ltA (pv 2) (pe_callB call_lenA (by rfl) T.b_len (by decide +kernel) (pa_cons (pe_fld (pv 0) rfl) pa_nil)) (nomark _)) (pw_and1 (pt_cmpR (op_ownCmp (fun _ _ => rfl) (by decide +kernel) G_Kin__lt_ (hr.mono (by decide)) pass0) (pe_ix ix_seq (pe_fld (pv 0) rfl) (pv 2) (fun _ _ => rfl)) (pv 1) (nomark _))))) (pss_one (ps_aug (i := 2) sc_Rule_put.nd rfl (Or.inl rfl) pe_int ip_addA)))
  (pss_one (ps_expr (pe_bm PySem.F.plainAttrs_list PySem.F.slot_list_insert PySem.F.type_list_insert mt_insertA (pe_fld (pv 0) rfl) (pa_cons (pv 2) (pa_cons (pv 1) pa_nil)))))))))
theorem ok_Rule_take {f : Addr} {fd : FuncData} (F : Fun K "take" "Rule.take" S_Rule_take f fd) (T : Txt P w K mg Z)  : FnOk P w K mg base CX0 1 f fd ["self", "other"] (spTake Z) := by
  refine F.ok sc_Rule_take (fun vs H Q E h => len_Rule_take K h) (fun cdv A outer s H vs Q E hr h => ⟨t_Rule_take K Z, ?_, rd_Rule_take K Z T.cf vs H Q E h⟩)
  exact (pss_cons (ps_fld (pv 0) (pe_fld (pv 1) rfl) rfl)
  (pss_cons (ps_fld (pv 0) (pe_dcT (units1 hr) (own := [("cell", 2)]) (g := (gName 2)) (tt := tYes) (tk := (tTup (tCons (tFld K (tVar 2) "up") (tCons (tFld K (tVar 2) "down") (tCons (tFld K (tVar 2) "side") tNil))))) (tv := (tC (.bl true))) rfl sc_Rule_take.nd (pi_any (pe_fld (pv 1) rfl)) (blkOk_by (N := ["self", "other", "cell"]) (sc := defScope S_Rule_take) (by decide +kernel)) (fun _ _ _ _ _ => pg_name (i := 2) sc_Rule_take.nd rfl (Or.inl rfl)) (fun _ _ _ _ _ => pts_nil) (fun _ _ _ _ _ => (pe_tup (pa_cons (pe_fld (pv 2) rfl) (pa_cons (pe_fld (pv 2) rfl) (pa_cons (pe_fld (pv 2) rfl) pa_nil))))) (fun _ _ _ _ _ => pe_bl)) rfl)
  (pss_one (ps_fld (pv 0) (pe_callTy call_listA (by rfl) T.b_list (by decide +kernel) (pa_cons (pe_fld (pv 1) rfl) pa_nil)) rfl))))
theorem ok_Rule_reach {f : Addr} {fd : FuncData} (F : Fun K "reach" "Rule.reach" S_Rule_reach f fd) (T : Txt P w K mg Z)  : FnOk P w K mg base CX0 1 f fd ["self"] (spReach Z) := by
  refine F.ok sc_Rule_reach (fun vs H Q E h => len_Rule_reach K h) (fun cdv A outer s H vs Q E hr h => ⟨t_Rule_reach K Z, ?_, rd_Rule_reach K Z T.cf vs H Q E h⟩)
  exact (pss_one (ps_ret (pe_fld (pv 0) rfl)))
theorem ok_joined {f : Addr} {fd : FuncData} (F : Fun K "joined" "joined" S_joined f fd) (T : Txt P w K mg Z)  : FnOk P w K mg base CX0 1 f fd ["left", "right", "word"] (spJoined) := by
  refine F.ok sc_joined (fun vs H Q E h => len_joined K h) (fun cdv A outer s H vs Q E hr h => ⟨t_joined K, ?_, rd_joined K vs H Q E h⟩)
  exact (pss_cons (ps_if (pt_cmpR (op_eqA hr.units) (pv 2) pe_str (nomark _)) (pss_one (ps_ret (pe_or (pv 0) (pe_one (pv 1))))) pss_nil)
  (pss_cons (ps_if (pt_cmpR (op_eqA hr.units) (pv 2) pe_str (nomark _)) (pss_one (ps_ret (pe_and (pv 0) (pe_one (pv 1))))) pss_nil)
  (pss_cons (ps_if (pt_cmpR (op_eqA hr.units) (pv 2) pe_str (nomark _)) (pss_one (ps_ret (pe_and (pv 0) (pe_one (pe_not (pv 1)))))) pss_nil)
  (pss_one (ps_ret (pe_cmpR (op_neA hr.units) (pv 0) (pv 1) (nomark _)))))))
theorem ok_combined {f : Addr} {fd : FuncData} (F : Fun K "combined" "combined" S_combined f fd) (T : Txt P w K mg Z) (G_Rule_reach : CalP P w K mg base Z.Rule "reach" 1 (spReach Z)) (G_Rule__init_ : CalKR P w K mg base (L2N.CX P w) "Rule" Z.Rule 6 (starSp 2 (spRule Z))) (G_all_cells : Cal P w K mg base (L2N.CX P w) "all_cells" 4 ["reach"] (spAllCells Z)) (G_joined : Cal P w K mg base CX0 "joined" 1 ["left", "right", "word"] (spJoined)) (G_Rule__getitem_ : CalG P w K mg base CX0 Z.Rule "__getitem__" 3 ["self", "kin"] (spRGet Z)) : FnOk P w K mg base (L2N.CX P w) 8 f fd ["rule", "other", "word"] (spCombined Z) := by
  refine okXN F sc_combined (fun vs H Q E h => len_combined K h) (fun cdv A outer s H vs Q E hr h => ⟨t_combined K Z E, ?_, rd_combined K Z T.cf vs H Q E h⟩)
  exact (pss_consC (ps_if (pt_tru (pe_callB call_isA (by rfl) T.b_isinstance (by decide +kernel) (pa_cons (pv 1) (pa_cons (pe_glob (by rfl) T.g_Kin rfl) pa_nil)))) (pss_one (ps_set (i := 1) sc_combined.nd rfl (Or.inr rfl) (pe_calKR G_Rule__init_ (hr.mono (by decide)) (fun σ => L2N.passAt (L2N.takes_of rfl rfl rfl rfl) σ) (pa_cons (pe_calP G_Rule_reach (pv 0) (hr.mono (by decide))) (pa_cons (pv 1) pa_nil))))) pss_nil)
  (pss_cons (ps_set (i := 3) sc_combined.nd rfl (Or.inl rfl) (pe_calP G_Rule_reach (pv 0) (hr.mono (by decide))))
  (pss_consC (ps_if (pt_cmpR op_gtA (pe_calP G_Rule_reach (pv 1) (hr.mono (by decide))) (pv 3) (nomark _)) (pss_one (ps_set (i := 3) sc_combined.nd rfl (Or.inl rfl) (pe_calP G_Rule_reach (pv 1) (hr.mono (by decide))))) pss_nil)
  (pss_cons (ps_setLc (i := 4) (own := [("cell", 5)]) (g := (gName 5)) (tt := (tTru K (tCall (spJoined) [] E0 (tCons (tIxO Z.Rule (spRGet Z) (fun _ => E0) (tVar 0) (tVar 5)) (tCons (tIxO Z.Rule (spRGet Z) (fun _ => E0) (tVar 1) (tVar 5)) (tCons (tVar 2) tNil)))))) (te := (tVar 5)) rfl sc_combined.nd rfl rfl (sw_true rfl rfl rfl (by decide +kernel)) (pi_any (pe_calS G_all_cells (hr.mono (by decide)) (fun σ => L2N.passAt (L2N.takes_of rfl rfl rfl rfl) σ) (pa_cons (pv 3) pa_nil))) (blkOk_by (N := ["rule", "other", "word", "reach", "kins", "cell"]) (sc := defScope S_combined) (by decide +kernel)) (fun _ _ _ _ _ => pg_name (i := 5) sc_combined.nd rfl (Or.inl rfl)) (fun _ _ _ _ _ => (pts_one (pt_tru (pe_cal G_joined (hr.mono (by decide)) pass0 (pa_cons (pe_ixO G_Rule__getitem_ (hr.mono (by decide)) (fun σ => passH0) (pv 0) (pv 5)) (pa_cons (pe_ixO G_Rule__getitem_ (hr.mono (by decide)) (fun σ => passH0) (pv 1) (pv 5)) (pa_cons (pv 2) pa_nil))))))) (fun _ _ _ _ _ => (pv 5)))
  (pss_one (ps_ret (pe_calKRS G_Rule__init_ (hr.mono (by decide)) (fun σ => L2N.passAt (L2N.takes_of rfl rfl rfl rfl) σ) (pa_cons (pv 3) (StX.pa_star (pv 4) pa_nil)))))))))
theorem ok_Rule__sub_ {f : Addr} {fd : FuncData} (F : Fun K "__sub__" "Rule.__sub__" S_Rule__sub_ f fd) (T : Txt P w K mg Z) (G_combined : Cal P w K mg base (L2N.CX P w) "combined" 8 ["rule", "other", "word"] (spCombined Z)) : FnOk P w K mg base (L2N.CX P w) 9 f fd ["self", "other"] (spRSub Z) := by
  refine okXN F sc_Rule__sub_ (fun vs H Q E h => len_Rule__sub_ K h) (fun cdv A outer s H vs Q E hr h => ⟨t_Rule__sub_ K Z E, ?_, rd_Rule__sub_ K Z T.cf vs H Q E h⟩)
  exact (pss_cons (ps_if (pt_not (pt_tru (pe_callB call_isiT (by rfl) T.b_isinstance (by decide +kernel) (pa_cons (pv 1) (pa_cons (pe_tup (pa_cons (pe_glob (by rfl) T.g_Rule rfl) (pa_cons (pe_glob (by rfl) T.g_Kin rfl) pa_nil))) pa_nil))))) (pss_one (ps_ret pe_never)) pss_nil)
  (pss_one (ps_ret (pe_calS G_combined (hr.mono (by decide)) (fun σ => L2N.passAt (L2N.takes_of rfl rfl rfl rfl) σ) (pa_cons (pv 0) (pa_cons (pv 1) (pa_cons pe_str pa_nil)))))))
theorem ok_Rule__setitem_ {f : Addr} {fd : FuncData} (F : Fun K "__setitem__" "Rule.__setitem__" S_Rule__setitem_ f fd) (T : Txt P w K mg Z) (G_Kin_is_self : CalP P w K mg base Z.Kin "is_self" 1 (spIsSelf Z)) (G_Rule_put : CalM P w K mg base CX0 Z.Rule "put" 5 ["self", "cell"] (spPut Z)) (G_Rule_take : CalM P w K mg base CX0 Z.Rule "take" 1 ["self", "other"] (spTake Z)) (G_Kin__mod_ : CalM P w K mg base (L2N.CX P w) Z.Kin "__mod__" 4 ["self", "reach"] (spMod K Z)) (G_Rule__sub_ : CalM P w K mg base (L2N.CX P w) Z.Rule "__sub__" 9 ["self", "other"] (spRSub Z)) : FnOk P w K mg base (L2N.CX P w) 10 f fd ["self", "kin", "worth"] (spRSet Z) := by
  refine okXN F sc_Rule__setitem_ (fun vs H Q E h => len_Rule__setitem_ K h) (fun cdv A outer s H vs Q E hr h => ⟨t_Rule__setitem_ K Z E, ?_, rd_Rule__setitem_ K Z T.cf vs H Q E h⟩)
  exact (pss_cons (ps_if (pt_tru (pe_calP G_Kin_is_self (pv 1) (hr.mono (by decide)))) (pss_one (ps_raiseE rfl T.e_BadCell (Room.er hr (by decide)) (by decide) (L2N.takes_of rfl rfl rfl rfl) (pa_cons (pv 1) pa_nil))) pss_nil)
  (pss_one (ps_if (pt_tru (pv 2)) (pss_one (ps_expr (pe_calM G_Rule_put (pv 0) (hr.mono (by decide)) (fun σ => passH0) (pa_cons (pe_opS (op_ownI intop_mod (by decide +kernel) T.cf.op_Kin_mod G_Kin__mod_ (hr.mono (by decide)) (fun σ => L2N.passAt (L2N.takes_of rfl rfl rfl rfl) σ)) (pv 1) (pe_fld (pv 0) rfl)) pa_nil)))) (pss_one (ps_expr (pe_calM G_Rule_take (pv 0) (hr.mono (by decide)) (fun σ => passH0) (pa_cons (pe_opS (op_ownX objno_sub (by decide +kernel) T.cf.sf_Rule T.cf.on_Kin_sub T.cf.dq_Rule_Kin_sub G_Rule__sub_ (hr.mono (by decide)) (fun σ => L2N.passAt (L2N.takes_of rfl rfl rfl rfl) σ)) (pv 0) (pv 1)) pa_nil)))))))
theorem ok_law_kin {f : Addr} {fd : FuncData} (F : Fun K "_law_kin" "_law_kin" S_law_kin f fd) (T : Txt P w K mg Z) (G_Kin__init_ : CalK P w K mg base (L2N.CX P w) "Kin" Z.Kin 2 ["self", "up", "down", "side"] (spKin K Z)) : FnOk P w K mg base CX0 4 f fd ["parts"] (spMkKin K Z) := by
  refine F.ok sc_law_kin (fun vs H Q E h => len_law_kin K h) (fun cdv A outer s H vs Q E hr h => ⟨t_law_kin K Z, ?_, rd_law_kin K Z T.cf vs H Q E h⟩)
  exact (pss_one (ps_ret (pe_calK G_Kin__init_ (hr.mono (by decide)) (fun σ => L2N.passAt takes0N σ) (pa_cons (pe_ix ix_seq (pv 0) pe_int (fun _ _ => rfl)) (pa_cons (pe_ix ix_seq (pv 0) pe_int (fun _ _ => rfl)) (pa_cons (pe_ix ix_seq (pv 0) pe_int (fun _ _ => rfl)) pa_nil))))))
theorem ok_law_rule {f : Addr} {fd : FuncData} (F : Fun K "_law_rule" "_law_rule" S_law_rule f fd) (T : Txt P w K mg Z) (G_Rule__init_ : CalKR P w K mg base (L2N.CX P w) "Rule" Z.Rule 6 (starSp 2 (spRule Z))) (G_Rule__setitem_ : CalM P w K mg base (L2N.CX P w) Z.Rule "__setitem__" 10 ["self", "kin", "worth"] (spRSet Z)) (G_law_kin : Cal P w K mg base CX0 "_law_kin" 4 ["parts"] (spMkKin K Z)) : FnOk P w K mg base CX0 11 f fd ["reach", "cells"] (spLRule K Z) := by
  refine F.ok sc_law_rule (fun vs H Q E h => len_law_rule K h) (fun cdv A outer s H vs Q E hr h => ⟨t_law_rule K Z, ?_, rd_law_rule K Z T.cf vs H Q E h⟩)
  exact (pss_cons (ps_set (i := 2) sc_law_rule.nd rfl (Or.inl rfl) (pe_calKR G_Rule__init_ (hr.mono (by decide)) (fun σ => L2N.passAt takes0N σ) (pa_cons (pv 0) pa_nil)))
  (pss_cons (ps_for PassesOwn.never rfl (pi_any (pv 1)) (pg_name (i := 3) sc_law_rule.nd rfl (Or.inl rfl)) (pss_cons (ps_set (i := 4) sc_law_rule.nd rfl (Or.inl rfl) (pe_cal G_law_kin (hr.mono (by decide)) pass0 (pa_cons (pv 3) pa_nil)))
  (pss_one (ps_ixO G_Rule__setitem_ T.cf.nq_Rule (hr.mono (by decide)) (fun σ => L2N.passAt takes0N σ) (pv 2) (pv 4) pe_bl))))
  (pss_one (ps_ret (pv 2)))))
theorem ok_law_lets {f : Addr} {fd : FuncData} (F : Fun K "_law_lets" "_law_lets" S_law_lets f fd) (T : Txt P w K mg Z) (G_law_capped : Cal P w K mg base CX0 "_law_capped" 1 ["parts", "reach"] (spLCapped K)) : FnOk P w K mg base CX0 2 f fd ["reach", "cells", "parts"] (spLLets K) := by
  refine F.ok sc_law_lets (fun vs H Q E h => len_law_lets K h) (fun cdv A outer s H vs Q E hr h => ⟨t_law_lets K, ?_, rd_law_lets K vs H Q E h⟩)
  exact (pss_one (ps_ret (pe_cmpR (op_inD (units65 hr)) (pe_cal G_law_capped (hr.mono (by decide)) pass0 (pa_cons (pv 2) (pa_cons (pv 0) pa_nil))) (pv 1) rfl)))
theorem ok_law_lets_all {f : Addr} {fd : FuncData} (F : Fun K "_law_lets_all" "_law_lets_all" S_law_lets_all f fd) (T : Txt P w K mg Z) (G_law_lets : Cal P w K mg base CX0 "_law_lets" 2 ["reach", "cells", "parts"] (spLLets K)) : FnOk P w K mg base CX0 3 f fd ["reach", "cells", "kins"] (spLetsAll K) := by
  refine F.ok sc_law_lets_all (fun vs H Q E h => len_law_lets_all K h) (fun cdv A outer s H vs Q E hr h => ⟨t_law_lets_all K, ?_, rd_law_lets_all K vs H Q E h⟩)
  exact (pss_one (ps_ret (pe_lc (own := [("row", 3)]) (g := (gName 3)) (tt := tYes) (te := (tCall (spLLets K) [] E0 (tCons (tVar 0) (tCons (tVar 1) (tCons (tVar 3) tNil))))) rfl sc_law_lets_all.nd (pi_any (pv 2)) (blkOk_by (N := ["reach", "cells", "kins", "row"]) (sc := defScope S_law_lets_all) (by decide +kernel)) (fun _ _ _ _ _ => pg_name (i := 3) sc_law_lets_all.nd rfl (Or.inl rfl)) (fun _ _ _ _ _ => pts_nil) (fun _ _ _ _ _ => (pe_cal G_law_lets (hr.mono (by decide)) pass0 (pa_cons (pv 0) (pa_cons (pv 1) (pa_cons (pv 3) pa_nil))))))))
theorem ok_Rule_none {f : Addr} {fd : FuncData} (F : Fun K "none" "Rule.none" S_Rule_none f fd) (T : Txt P w K mg Z) (G_Rule__init_ : CalKR P w K mg base (L2N.CX P w) "Rule" Z.Rule 6 (starSp 2 (spRule Z))) : FnOk P w K mg base (L2N.CX P w) 8 f fd ["cls", "reach"] (spNoneR Z) := by
  refine okXN F sc_Rule_none (fun vs H Q E h => len_Rule_none K h) (fun cdv A outer s H vs Q E hr h => ⟨t_Rule_none K Z E, ?_, rd_Rule_none K Z T.cf vs H Q E h⟩)
  exact (pss_one (ps_ret (pe_calKvR G_Rule__init_ (pv 0) (hr.mono (by decide)) (fun σ => L2N.passAt (L2N.takes_of rfl rfl rfl rfl) σ) (pa_cons (pv 1) pa_nil))))
theorem ok_Rule__ior_ {f : Addr} {fd : FuncData} (F : Fun K "__ior__" "Rule.__ior__" S_Rule__ior_ f fd) (T : Txt P w K mg Z) (G_Rule_take : CalM P w K mg base CX0 Z.Rule "take" 1 ["self", "other"] (spTake Z)) (G_combined : Cal P w K mg base (L2N.CX P w) "combined" 8 ["rule", "other", "word"] (spCombined Z)) : FnOk P w K mg base (L2N.CX P w) 9 f fd ["self", "other"] (spRIor Z) := by
  refine okXN F sc_Rule__ior_ (fun vs H Q E h => len_Rule__ior_ K h) (fun cdv A outer s H vs Q E hr h => ⟨t_Rule__ior_ K Z E, ?_, rd_Rule__ior_ K Z T.cf vs H Q E h⟩)
  exact (pss_cons (ps_if (pt_not (pt_tru (pe_callB call_isiT (by rfl) T.b_isinstance (by decide +kernel) (pa_cons (pv 1) (pa_cons (pe_tup (pa_cons (pe_glob (by rfl) T.g_Rule rfl) (pa_cons (pe_glob (by rfl) T.g_Kin rfl) pa_nil))) pa_nil))))) (pss_one (ps_ret pe_never)) pss_nil)
  (pss_cons (ps_expr (pe_calM G_Rule_take (pv 0) (hr.mono (by decide)) (fun σ => passH0) (pa_cons (pe_calS G_combined (hr.mono (by decide)) (fun σ => L2N.passAt (L2N.takes_of rfl rfl rfl rfl) σ) (pa_cons (pv 0) (pa_cons (pv 1) (pa_cons pe_str pa_nil)))) pa_nil)))
  (pss_one (ps_ret (pv 0)))))
theorem ok_union {f : Addr} {fd : FuncData} (F : Fun K "union" "union" S_union f fd) (T : Txt P w K mg Z) (G_Rule_none : CalC P w K mg base (L2N.CX P w) Z.Rule "none" 8 ["cls", "reach"] (spNoneR Z)) (G_Rule__ior_ : CalM P w K mg base (L2N.CX P w) Z.Rule "__ior__" 9 ["self", "other"] (spRIor Z)) : FnR P w K mg base CX0 10 f (starSp 0 (spUnion Z)) := by
  refine okStar (ps := []) (pv := "rules") F sc_union StX.cxUp_none (fun kV doc pm an cdv ct => StX.bind_star0 (B := fun us => bindArgs (PySem.W.fnOf "union" "union" (defArgs S_union) (defBody S_union) (defScope S_union) .none kV doc pm an cdv ct) ⟨us, []⟩) (by rfl) (fun  r rs => by rfl)) (fun cdv A outer s H vs Q E hr h => ⟨t_union K Z, ?_, rd_union K Z T.cf vs H Q E h⟩)
  exact (pss_cons (ps_set (i := 1) sc_union.nd rfl (Or.inl rfl) (pe_calC G_Rule_none (pe_glob (by rfl) T.g_Rule rfl) (hr.mono (by decide)) (fun σ => L2N.passAt takes0N σ) (pa_cons pe_int pa_nil)))
  (pss_cons (ps_for PassesOwn.never rfl (pi_any (pv 0)) (pg_name (i := 2) sc_union.nd rfl (Or.inl rfl)) (pss_one (ps_augO (i := 1) rfl T.cf.sf_Rule G_Rule__ior_ (hr.mono (by decide)) (fun σ => L2N.passAt takes0N σ) sc_union.nd rfl (Or.inl rfl) (pv 2))))
  (pss_one (ps_ret (pv 1)))))
theorem ok_Rule_full {f : Addr} {fd : FuncData} (F : Fun K "full" "Rule.full" S_Rule_full f fd) (T : Txt P w K mg Z) (G_all_cells : Cal P w K mg base (L2N.CX P w) "all_cells" 4 ["reach"] (spAllCells Z)) (G_Rule__init_ : CalKR P w K mg base (L2N.CX P w) "Rule" Z.Rule 6 (starSp 2 (spRule Z))) : FnOk P w K mg base (L2N.CX P w) 8 f fd ["cls", "reach"] (spFullR Z) := by
  refine okXN F sc_Rule_full (fun vs H Q E h => len_Rule_full K h) (fun cdv A outer s H vs Q E hr h => ⟨t_Rule_full K Z E, ?_, rd_Rule_full K Z T.cf vs H Q E h⟩)
  exact (pss_cons (ps_set (i := 2) sc_Rule_full.nd rfl (Or.inl rfl) (pe_calS G_all_cells (hr.mono (by decide)) (fun σ => L2N.passAt (L2N.takes_of rfl rfl rfl rfl) σ) (pa_cons (pv 1) pa_nil)))
  (pss_one (ps_ret (pe_calKvRS G_Rule__init_ (pv 0) (hr.mono (by decide)) (fun σ => L2N.passAt (L2N.takes_of rfl rfl rfl rfl) σ) (pa_cons (pv 1) (StX.pa_star (pv 2) pa_nil))))))
theorem ok_Rule__iand_ {f : Addr} {fd : FuncData} (F : Fun K "__iand__" "Rule.__iand__" S_Rule__iand_ f fd) (T : Txt P w K mg Z) (G_Rule_take : CalM P w K mg base CX0 Z.Rule "take" 1 ["self", "other"] (spTake Z)) (G_combined : Cal P w K mg base (L2N.CX P w) "combined" 8 ["rule", "other", "word"] (spCombined Z)) : FnOk P w K mg base (L2N.CX P w) 9 f fd ["self", "other"] (spRIand Z) := by
  refine okXN F sc_Rule__iand_ (fun vs H Q E h => len_Rule__iand_ K h) (fun cdv A outer s H vs Q E hr h => ⟨t_Rule__iand_ K Z E, ?_, rd_Rule__iand_ K Z T.cf vs H Q E h⟩)
  exact (pss_cons (ps_if (pt_not (pt_tru (pe_callB call_isiT (by rfl) T.b_isinstance (by decide +kernel) (pa_cons (pv 1) (pa_cons (pe_tup (pa_cons (pe_glob (by rfl) T.g_Rule rfl) (pa_cons (pe_glob (by rfl) T.g_Kin rfl) pa_nil))) pa_nil))))) (pss_one (ps_ret pe_never)) pss_nil)
  (pss_cons (ps_expr (pe_calM G_Rule_take (pv 0) (hr.mono (by decide)) (fun σ => passH0) (pa_cons (pe_calS G_combined (hr.mono (by decide)) (fun σ => L2N.passAt (L2N.takes_of rfl rfl rfl rfl) σ) (pa_cons (pv 0) (pa_cons (pv 1) (pa_cons pe_str pa_nil)))) pa_nil)))
  (pss_one (ps_ret (pv 0)))))
theorem ok_cutR {f : Addr} {fd : FuncData} (F : Fun K "cut" "cut" S_cutR f fd) (T : Txt P w K mg Z) (G_Rule_full : CalC P w K mg base (L2N.CX P w) Z.Rule "full" 8 ["cls", "reach"] (spFullR Z)) (G_Rule__iand_ : CalM P w K mg base (L2N.CX P w) Z.Rule "__iand__" 9 ["self", "other"] (spRIand Z)) : FnR P w K mg base CX0 10 f (starSp 0 (spCut Z)) := by
  refine okStar (ps := []) (pv := "rules") F sc_cutR StX.cxUp_none (fun kV doc pm an cdv ct => StX.bind_star0 (B := fun us => bindArgs (PySem.W.fnOf "cut" "cut" (defArgs S_cutR) (defBody S_cutR) (defScope S_cutR) .none kV doc pm an cdv ct) ⟨us, []⟩) (by rfl) (fun  r rs => by rfl)) (fun cdv A outer s H vs Q E hr h => ⟨t_cutR K Z, ?_, rd_cutR K Z T.cf vs H Q E h⟩)
  exact (pss_cons (ps_set (i := 1) sc_cutR.nd rfl (Or.inl rfl) (pe_calC G_Rule_full (pe_glob (by rfl) T.g_Rule rfl) (hr.mono (by decide)) (fun σ => L2N.passAt takes0N σ) (pa_cons pe_int pa_nil)))
  (pss_cons (ps_for PassesOwn.never rfl (pi_any (pv 0)) (pg_name (i := 2) sc_cutR.nd rfl (Or.inl rfl)) (pss_one (ps_augO (i := 1) rfl T.cf.sf_Rule G_Rule__iand_ (hr.mono (by decide)) (fun σ => L2N.passAt takes0N σ) sc_cutR.nd rfl (Or.inl rfl) (pv 2))))
  (pss_one (ps_ret (pv 1)))))
theorem ok_law_any {f : Addr} {fd : FuncData} (F : Fun K "_law_any" "_law_any" S_law_any f fd) (T : Txt P w K mg Z)  : FnOk P w K mg base CX0 1 f fd ["rows"] (spAny K) := by
  refine F.ok sc_law_any (fun vs H Q E h => len_law_any K h) (fun cdv A outer s H vs Q E hr h => ⟨t_law_any K, ?_, rd_law_any K vs H Q E h⟩)
  exact (pss_one (ps_ret (pe_lc (own := [("k", 1)]) (g := (gName 1)) (tt := tYes) (te := (tOp (rInD K) (tC (.bl true)) (tLc (iAny K (tVar 0)) (gName 2) tYes (tOp (rIx K) (tVar 2) (tVar 1)) [2]))) rfl sc_law_any.nd (pi_range1 (by rfl) T.b_range (pa_cons (pe_callB call_lenA (by rfl) T.b_len (by decide +kernel) (pa_cons (pe_ix ix_seq (pv 0) pe_int (fun _ _ => rfl)) pa_nil)) pa_nil)) (blkOk_by (N := ["rows", "k", "row"]) (sc := defScope S_law_any) (by decide +kernel)) (fun _ _ _ _ _ => pg_name (i := 1) sc_law_any.nd rfl (Or.inl rfl)) (fun _ _ _ _ _ => pts_nil) (fun _ _ _ _ _ => (pe_cmpR (op_inD (units65 hr)) pe_bl (pe_lc (own := [("row", 2)]) (g := (gName 2)) (tt := tYes) (te := (tOp (rIx K) (tVar 2) (tVar 1))) rfl sc_law_any.nd (pi_any (pv 0)) (by refine blkOk_by ?_; kernel_rfl) (fun _ _ _ _ _ => pg_name (i := 2) sc_law_any.nd rfl (Or.inl rfl)) (fun _ _ _ _ _ => pts_nil) (fun _ _ _ _ _ => (pe_ix ix_seq (pv 2) (pv 1) (fun _ _ => rfl)))) rfl)))))
theorem ok_law_all {f : Addr} {fd : FuncData} (F : Fun K "_law_all" "_law_all" S_law_all f fd) (T : Txt P w K mg Z)  : FnOk P w K mg base CX0 1 f fd ["rows"] (spAll K) := by
  refine F.ok sc_law_all (fun vs H Q E h => len_law_all K h) (fun cdv A outer s H vs Q E hr h => ⟨t_law_all K, ?_, rd_law_all K vs H Q E h⟩)
  exact (pss_one (ps_ret (pe_lc (own := [("k", 1)]) (g := (gName 1)) (tt := tYes) (te := (tOp (rNotInD K) (tC (.bl false)) (tLc (iAny K (tVar 0)) (gName 2) tYes (tOp (rIx K) (tVar 2) (tVar 1)) [2]))) rfl sc_law_all.nd (pi_range1 (by rfl) T.b_range (pa_cons (pe_callB call_lenA (by rfl) T.b_len (by decide +kernel) (pa_cons (pe_ix ix_seq (pv 0) pe_int (fun _ _ => rfl)) pa_nil)) pa_nil)) (blkOk_by (N := ["rows", "k", "row"]) (sc := defScope S_law_all) (by decide +kernel)) (fun _ _ _ _ _ => pg_name (i := 1) sc_law_all.nd rfl (Or.inl rfl)) (fun _ _ _ _ _ => pts_nil) (fun _ _ _ _ _ => (pe_cmpR (op_notInD (units65 hr)) pe_bl (pe_lc (own := [("row", 2)]) (g := (gName 2)) (tt := tYes) (te := (tOp (rIx K) (tVar 2) (tVar 1))) rfl sc_law_all.nd (pi_any (pv 0)) (by refine blkOk_by ?_; kernel_rfl) (fun _ _ _ _ _ => pg_name (i := 2) sc_law_all.nd rfl (Or.inl rfl)) (fun _ _ _ _ _ => pts_nil) (fun _ _ _ _ _ => (pe_ix ix_seq (pv 2) (pv 1) (fun _ _ => rfl)))) rfl)))))
theorem ok_law_is_number {f : Addr} {fd : FuncData} (F : Fun K "_law_is_number" "_law_is_number" S_law_is_number f fd) (T : Txt P w K mg Z)  : FnOk P w K mg base CX0 1 f fd ["actual"] (spIsNum) := by
  refine F.ok sc_law_is_number (fun vs H Q E h => len_law_is_number K h) (fun cdv A outer s H vs Q E hr h => ⟨t_law_is_number K, ?_, rd_law_is_number K vs H Q E h⟩)
  exact (pss_one (ps_ret (pe_and (pe_callB call_isA (by rfl) T.b_isinstance (by decide +kernel) (pa_cons (pv 0) (pa_cons (pe_bltn (v := .ty "int") (by rfl) T.b_int (by decide +kernel) rfl) pa_nil))) (pe_one (pe_not (pe_callB call_isA (by rfl) T.b_isinstance (by decide +kernel) (pa_cons (pv 0) (pa_cons (pe_bltn (v := .ty "bool") (by rfl) T.b_bool (by decide +kernel) rfl) pa_nil))))))))
theorem ok_law_same {f : Addr} {fd : FuncData} (F : Fun K "_law_same" "_law_same" S_law_same f fd) (T : Txt P w K mg Z) (gm : mg "_law_same" = some (.ref f)) (B : Binds K fd ["actual", "expected"] []) (G_law_is_number : Cal P w K mg base CX0 "_law_is_number" 1 ["actual"] (spIsNum)) : ∀ d : Nat, FnOk P w K mg base CX0 (d + 2) f fd ["actual", "expected"] (spSm K d)
  | 0 => ⟨fun vs H Q E h => h.elim, fun A outer s H args us vs Q E _ _ _ _ h => h.elim⟩
  | d + 1 => by
    have G_self : Cal P w K mg base CX0 "_law_same" (d + 2) ["actual", "expected"] (spSm K d) := ⟨_, _, ok_law_same F T gm B G_law_is_number d, gm, F.kp, B⟩
    refine F.ok sc_law_same (fun vs H Q E h => len_law_same K h) (fun cdv A outer s H vs Q E hr h => ⟨t_law_same K (spSm K d), ?_, rd_law_same K d vs H Q E h⟩)
    exact (pss_cons (ps_if (pt_cmpR op_isNA (pv 1) pe_non (nomark _)) (pss_one (ps_ret (pe_cmpR op_isNA (pv 0) pe_non (nomark _)))) pss_nil)
  (pss_cons (ps_if (pt_tru (pe_callB call_isA (by rfl) T.b_isinstance (by decide +kernel) (pa_cons (pv 1) (pa_cons (pe_bltn (v := .ty "bool") (by rfl) T.b_bool (by decide +kernel) rfl) pa_nil)))) (pss_one (ps_ret (pe_and (pe_callB call_isA (by rfl) T.b_isinstance (by decide +kernel) (pa_cons (pv 0) (pa_cons (pe_bltn (v := .ty "bool") (by rfl) T.b_bool (by decide +kernel) rfl) pa_nil))) (pe_one (pe_cmpR (op_eqA hr.units) (pv 0) (pv 1) (nomark _)))))) pss_nil)
  (pss_cons (ps_if (pt_tru (pe_callB call_isA (by rfl) T.b_isinstance (by decide +kernel) (pa_cons (pv 1) (pa_cons (pe_bltn (v := .ty "int") (by rfl) T.b_int (by decide +kernel) rfl) pa_nil)))) (pss_one (ps_ret (pe_and (pe_cal G_law_is_number (hr.mono (by omega)) pass0 (pa_cons (pv 0) pa_nil)) (pe_one (pe_cmpR (op_eqA hr.units) (pv 0) (pv 1) (nomark _)))))) pss_nil)
  (pss_cons (ps_if (pt_tru (pe_callB call_isA (by rfl) T.b_isinstance (by decide +kernel) (pa_cons (pv 1) (pa_cons (pe_bltn (v := .ty "str") (by rfl) T.b_str (by decide +kernel) rfl) pa_nil)))) (pss_one (ps_ret (pe_and (pe_callB call_isA (by rfl) T.b_isinstance (by decide +kernel) (pa_cons (pv 0) (pa_cons (pe_bltn (v := .ty "str") (by rfl) T.b_str (by decide +kernel) rfl) pa_nil))) (pe_one (pe_cmpR (op_eqA hr.units) (pv 0) (pv 1) (nomark _)))))) pss_nil)
  (pss_consC (ps_if (pt_tru (pe_callB call_isA (by rfl) T.b_isinstance (by decide +kernel) (pa_cons (pv 1) (pa_cons (pe_bltn (v := .ty "list") (by rfl) T.b_list (by decide +kernel) rfl) pa_nil)))) (pss_one (ps_if (PW.pt (pw_or (pt_not (pt_tru (pe_callB call_isA (by rfl) T.b_isinstance (by decide +kernel) (pa_cons (pv 0) (pa_cons (pe_bltn (v := .ty "list") (by rfl) T.b_list (by decide +kernel) rfl) pa_nil))))) (pw_or1 (pt_cmpR (op_neA hr.units) (pe_callB call_lenA (by rfl) T.b_len (by decide +kernel) (pa_cons (pv 0) pa_nil)) (pe_callB call_lenA (by rfl) T.b_len (by decide +kernel) (pa_cons (pv 1) pa_nil)) (nomark _))))) (pss_one (ps_ret pe_bl)) pss_nil)) (pss_one (ps_if (PW.pt (pw_or (pt_not (pt_tru (pe_callB call_isA (by rfl) T.b_isinstance (by decide +kernel) (pa_cons (pv 1) (pa_cons (pe_bltn (v := .ty "tuple") (by rfl) T.b_tuple (by decide +kernel) rfl) pa_nil))))) (pw_or (pt_not (pt_tru (pe_callB call_isA (by rfl) T.b_isinstance (by decide +kernel) (pa_cons (pv 0) (pa_cons (pe_bltn (v := .ty "tuple") (by rfl) T.b_tuple (by decide +kernel) rfl) pa_nil))))) (pw_or1 (pt_cmpR (op_neA hr.units) (pe_callB call_lenA (by rfl) T.b_len (by decide +kernel) (pa_cons (pv 0) pa_nil)) (pe_callB call_lenA (by rfl) T.b_len (by decide +kernel) (pa_cons (pv 1) pa_nil)) (nomark _)))))) (pss_one (ps_ret pe_bl)) pss_nil)))
  (pss_cons (ps_for PassesOwn.never rfl (pi_range1 (by rfl) T.b_range (pa_cons (pe_callB call_lenA (by rfl) T.b_len (by decide +kernel) (pa_cons (pv 1) pa_nil)) pa_nil)) (pg_name (i := 2) sc_law_same.nd rfl (Or.inl rfl)) (pss_one (ps_if (pt_not (pt_tru (pe_cal G_self (hr.mono (by omega)) pass0 (pa_cons (pe_ix ix_seq (pv 0) (pv 2) (fun _ _ => rfl)) (pa_cons (pe_ix ix_seq (pv 1) (pv 2) (fun _ _ => rfl)) pa_nil))))) (pss_one (ps_ret pe_bl)) pss_nil)))
  (pss_one (ps_ret pe_bl))))))))
theorem ok_Rule__len_ {f : Addr} {fd : FuncData} (F : Fun K "__len__" "Rule.__len__" S_Rule__len_ f fd) (T : Txt P w K mg Z)  : FnOk P w K mg base CX0 1 f fd ["self"] (spRLen Z) := by
  refine F.ok sc_Rule__len_ (fun vs H Q E h => len_Rule__len_ K h) (fun cdv A outer s H vs Q E hr h => ⟨t_Rule__len_ K Z, ?_, rd_Rule__len_ K Z T.cf vs H Q E h⟩)
  exact (pss_one (ps_ret (pe_callB call_lenA (by rfl) T.b_len (by decide +kernel) (pa_cons (pe_fld (pv 0) rfl) pa_nil))))
theorem ok_Rule__le_ {f : Addr} {fd : FuncData} (F : Fun K "__le__" "Rule.__le__" S_Rule__le_ f fd) (T : Txt P w K mg Z) (G_Rule__len_ : CalM P w K mg base CX0 Z.Rule "__len__" 1 ["self"] (spRLen Z)) (G_combined : Cal P w K mg base (L2N.CX P w) "combined" 8 ["rule", "other", "word"] (spCombined Z)) : FnOk P w K mg base CX0 9 f fd ["self", "other"] (spRLe Z) := by
  refine F.ok sc_Rule__le_ (fun vs H Q E h => len_Rule__le_ K h) (fun cdv A outer s H vs Q E hr h => ⟨t_Rule__le_ K Z, ?_, rd_Rule__le_ K Z T.cf vs H Q E h⟩)
  exact (pss_cons (ps_if (pt_not (pt_tru (pe_callB call_isA (by rfl) T.b_isinstance (by decide +kernel) (pa_cons (pv 1) (pa_cons (pe_glob (by rfl) T.g_Rule rfl) pa_nil))))) (pss_one (ps_ret pe_never)) pss_nil)
  (pss_one (ps_ret (pe_cmpR (op_eqA hr.units) (pe_callB (call_lenO G_Rule__len_ (hr.mono (by decide)) pass0) (by rfl) T.b_len (by decide +kernel) (pa_cons (pe_calS G_combined (hr.mono (by decide)) (fun σ => L2N.passAt takes0N σ) (pa_cons (pv 0) (pa_cons (pv 1) (pa_cons pe_str pa_nil)))) pa_nil)) pe_int (nomark _)))))
theorem ok_Rule__lt_ {f : Addr} {fd : FuncData} (F : Fun K "__lt__" "Rule.__lt__" S_Rule__lt_ f fd) (T : Txt P w K mg Z) (G_Rule__len_ : CalM P w K mg base CX0 Z.Rule "__len__" 1 ["self"] (spRLen Z)) (G_combined : Cal P w K mg base (L2N.CX P w) "combined" 8 ["rule", "other", "word"] (spCombined Z)) : FnOk P w K mg base CX0 9 f fd ["self", "other"] (spRLt Z) := by
  refine F.ok sc_Rule__lt_ (fun vs H Q E h => len_Rule__lt_ K h) (fun cdv A outer s H vs Q E hr h => ⟨t_Rule__lt_ K Z, ?_, rd_Rule__lt_ K Z T.cf vs H Q E h⟩)
  exact (pss_cons (ps_if (pt_not (pt_tru (pe_callB call_isA (by rfl) T.b_isinstance (by decide +kernel) (pa_cons (pv 1) (pa_cons (pe_glob (by rfl) T.g_Rule rfl) pa_nil))))) (pss_one (ps_ret pe_never)) pss_nil)
  (pss_one (ps_ret (pe_and (pe_cmpR (op_eqA hr.units) (pe_callB (call_lenO G_Rule__len_ (hr.mono (by decide)) pass0) (by rfl) T.b_len (by decide +kernel) (pa_cons (pe_calS G_combined (hr.mono (by decide)) (fun σ => L2N.passAt takes0N σ) (pa_cons (pv 0) (pa_cons (pv 1) (pa_cons pe_str pa_nil)))) pa_nil)) pe_int (nomark _)) (pe_one (pe_cmpR op_gtA (pe_callB (call_lenO G_Rule__len_ (hr.mono (by decide)) pass0) (by rfl) T.b_len (by decide +kernel) (pa_cons (pe_calS G_combined (hr.mono (by decide)) (fun σ => L2N.passAt takes0N σ) (pa_cons (pv 1) (pa_cons (pv 0) (pa_cons pe_str pa_nil)))) pa_nil)) pe_int (nomark _)))))))
theorem ok_Rule__eq_ {f : Addr} {fd : FuncData} (F : Fun K "__eq__" "Rule.__eq__" S_Rule__eq_ f fd) (T : Txt P w K mg Z) (G_Rule__len_ : CalM P w K mg base CX0 Z.Rule "__len__" 1 ["self"] (spRLen Z)) (G_combined : Cal P w K mg base (L2N.CX P w) "combined" 8 ["rule", "other", "word"] (spCombined Z)) : FnOk P w K mg base CX0 9 f fd ["self", "other"] (spREq Z) := by
  refine F.ok sc_Rule__eq_ (fun vs H Q E h => len_Rule__eq_ K h) (fun cdv A outer s H vs Q E hr h => ⟨t_Rule__eq_ K Z, ?_, rd_Rule__eq_ K Z T.cf vs H Q E h⟩)
  exact (pss_cons (ps_if (pt_not (pt_tru (pe_callB call_isA (by rfl) T.b_isinstance (by decide +kernel) (pa_cons (pv 1) (pa_cons (pe_glob (by rfl) T.g_Rule rfl) pa_nil))))) (pss_one (ps_ret pe_never)) pss_nil)
  (pss_one (ps_ret (pe_cmpR (op_eqA hr.units) (pe_callB (call_lenO G_Rule__len_ (hr.mono (by decide)) pass0) (by rfl) T.b_len (by decide +kernel) (pa_cons (pe_calS G_combined (hr.mono (by decide)) (fun σ => L2N.passAt takes0N σ) (pa_cons (pv 0) (pa_cons (pv 1) (pa_cons pe_str pa_nil)))) pa_nil)) pe_int (nomark _)))))
theorem ok_law_compared {f : Addr} {fd : FuncData} (F : Fun K "_law_compared" "_law_compared" S_law_compared f fd) (T : Txt P w K mg Z) (G_law_same : Cal P w K mg base CX0 "_law_same" 5 ["actual", "expected"] (spSm K 3)) (G_Rule__le_ : CalM P w K mg base CX0 Z.Rule "__le__" 9 ["self", "other"] (spRLe Z)) (G_Rule__lt_ : CalM P w K mg base CX0 Z.Rule "__lt__" 9 ["self", "other"] (spRLt Z)) (G_Rule__eq_ : CalM P w K mg base CX0 Z.Rule "__eq__" 9 ["self", "other"] (spREq Z)) : FnOk P w K mg base CX0 11 f fd ["rule", "other", "one", "two"] (spCompared K Z) := by
  refine F.ok sc_law_compared (fun vs H Q E h => len_law_compared K h) (fun cdv A outer s H vs Q E hr h => ⟨t_law_compared K Z, ?_, rd_law_compared K Z T.cf vs H Q E h⟩)
  exact (pss_cons (ps_set (i := 4) sc_law_compared.nd rfl (Or.inl rfl) pe_bl)
  (pss_cons (ps_set (i := 5) sc_law_compared.nd rfl (Or.inl rfl) pe_bl)
  (pss_cons (ps_for PassesOwn.never rfl (pi_range1 (by rfl) T.b_range (pa_cons (pe_callB call_lenA (by rfl) T.b_len (by decide +kernel) (pa_cons (pv 2) pa_nil)) pa_nil)) (pg_name (i := 6) sc_law_compared.nd rfl (Or.inl rfl)) (pss_consC (ps_if (PW.pt (pw_and (pt_tru (pe_ix ix_seq (pv 2) (pv 6) (fun _ _ => rfl))) (pw_and1 (pt_not (pt_tru (pe_ix ix_seq (pv 3) (pv 6) (fun _ _ => rfl))))))) (pss_one (ps_set (i := 4) sc_law_compared.nd rfl (Or.inl rfl) pe_bl)) pss_nil)
  (pss_one (ps_if (PW.pt (pw_and (pt_tru (pe_ix ix_seq (pv 3) (pv 6) (fun _ _ => rfl))) (pw_and1 (pt_not (pt_tru (pe_ix ix_seq (pv 2) (pv 6) (fun _ _ => rfl))))))) (pss_one (ps_set (i := 5) sc_law_compared.nd rfl (Or.inl rfl) pe_bl)) pss_nil))))
  (pss_cons (ps_set (i := 7) sc_law_compared.nd rfl (Or.inl rfl) (pe_lst (pa_cons (pe_cmpR (op_ownCmp (fun _ _ => rfl) (by decide +kernel) G_Rule__le_ (hr.mono (by decide)) pass0) (pv 0) (pv 1) (nomark _)) (pa_cons (pe_cmpR (op_ownCmp (fun _ _ => rfl) (by decide +kernel) G_Rule__lt_ (hr.mono (by decide)) pass0) (pv 0) (pv 1) (nomark _)) (pa_cons (pe_cmpR (op_geO T.cf.gt_Rule G_Rule__le_ (hr.mono (by decide)) pass0) (pv 0) (pv 1) (nomark _)) (pa_cons (pe_cmpR (op_gtO T.cf.gt_Rule G_Rule__lt_ (hr.mono (by decide)) pass0) (pv 0) (pv 1) (nomark _)) (pa_cons (pe_cmpR (op_ownCmp (fun _ _ => rfl) (by decide +kernel) G_Rule__eq_ (hr.mono (by decide)) pass0) (pv 0) (pv 1) (nomark _)) (pa_cons (pe_cmpR (op_neO T.cf.ne_Rule G_Rule__eq_ (hr.mono (by decide)) pass0) (pv 0) (pv 1) (nomark _)) pa_nil))))))))
  (pss_cons (ps_set (i := 8) sc_law_compared.nd rfl (Or.inl rfl) (pe_and (pv 4) (pe_one (pv 5))))
  (pss_one (ps_ret (pe_cal G_law_same (hr.mono (by decide)) pass0 (pa_cons (pv 7) (pa_cons (pe_lst (pa_cons (pv 4) (pa_cons (pe_and (pv 4) (pe_one (pe_not (pv 5)))) (pa_cons (pv 5) (pa_cons (pe_and (pv 5) (pe_one (pe_not (pv 4)))) (pa_cons (pv 8) (pa_cons (pe_not (pv 8)) pa_nil))))))) pa_nil))))))))))
theorem ok_law_is_rule {f : Addr} {fd : FuncData} (F : Fun K "_law_is_rule" "_law_is_rule" S_law_is_rule f fd) (T : Txt P w K mg Z) (G_law_same : Cal P w K mg base CX0 "_law_same" 5 ["actual", "expected"] (spSm K 3)) (G_Rule_lets : CalM P w K mg base CX0 Z.Rule "lets" 2 ["self", "up", "down", "side"] (spLets Z)) : FnOk P w K mg base CX0 6 f fd ["rule", "kins", "due"] (spIsRule K Z) := by
  refine F.ok sc_law_is_rule (fun vs H Q E h => len_law_is_rule K h) (fun cdv A outer s H vs Q E hr h => ⟨t_law_is_rule K Z, ?_, rd_law_is_rule K Z T.cf vs H Q E h⟩)
  exact (pss_cons (ps_if (pt_not (pt_tru (pe_callB call_isA (by rfl) T.b_isinstance (by decide +kernel) (pa_cons (pv 0) (pa_cons (pe_glob (by rfl) T.g_Rule rfl) pa_nil))))) (pss_one (ps_ret pe_bl)) pss_nil)
  (pss_cons (ps_for PassesOwn.never rfl (pi_range1 (by rfl) T.b_range (pa_cons (pe_callB call_lenA (by rfl) T.b_len (by decide +kernel) (pa_cons (pv 1) pa_nil)) pa_nil)) (pg_name (i := 3) sc_law_is_rule.nd rfl (Or.inl rfl)) (pss_one (ps_if (pt_not (pt_tru (pe_cal G_law_same (hr.mono (by decide)) pass0 (pa_cons (pe_calM G_Rule_lets (pv 0) (hr.mono (by decide)) (fun σ => passH0) (pa_cons (pe_ix ix_seq (pe_ix ix_seq (pv 1) (pv 3) (fun _ _ => rfl)) pe_int (fun _ _ => rfl)) (pa_cons (pe_ix ix_seq (pe_ix ix_seq (pv 1) (pv 3) (fun _ _ => rfl)) pe_int (fun _ _ => rfl)) (pa_cons (pe_ix ix_seq (pe_ix ix_seq (pv 1) (pv 3) (fun _ _ => rfl)) pe_int (fun _ _ => rfl)) pa_nil)))) (pa_cons (pe_ix ix_seq (pv 2) (pv 3) (fun _ _ => rfl)) pa_nil))))) (pss_one (ps_ret pe_bl)) pss_nil)))
  (pss_one (ps_ret pe_bl))))
theorem ok_law_parts {f : Addr} {fd : FuncData} (F : Fun K "_law_parts" "_law_parts" S_law_parts f fd) (T : Txt P w K mg Z) (G_law_draw : Cal P w K mg base CX0 "_law_draw" 1 ["state", "many"] (spDraw)) (G_law_sides : Cal P w K mg base CX0 "_law_sides" 1 ["up", "down"] (spSides)) : FnOk P w K mg base CX0 2 f fd ["state", "most"] (spParts) := by
  refine F.ok sc_law_parts (fun vs H Q E h => len_law_parts K h) (fun cdv A outer s H vs Q E hr h => ⟨t_law_parts K, ?_, rd_law_parts K vs H Q E h⟩)
  exact (pss_cons (ps_set (i := 2) sc_law_parts.nd rfl (Or.inl rfl) (pe_cal G_law_draw (hr.mono (by decide)) pass0 (pa_cons (pv 0) (pa_cons (pe_op op_addA (pv 1) pe_int) pa_nil))))
  (pss_cons (ps_set (i := 3) sc_law_parts.nd rfl (Or.inl rfl) (pe_cal G_law_draw (hr.mono (by decide)) pass0 (pa_cons (pv 0) (pa_cons (pe_op op_addA (pv 1) pe_int) pa_nil))))
  (pss_cons (ps_set (i := 4) sc_law_parts.nd rfl (Or.inl rfl) (pe_cal G_law_sides (hr.mono (by decide)) pass0 (pa_cons (pv 2) (pa_cons (pv 3) pa_nil))))
  (pss_one (ps_ret (pe_tup (pa_cons (pv 2) (pa_cons (pv 3) (pa_cons (pe_ix ix_seq (pv 4) (pe_cal G_law_draw (hr.mono (by decide)) pass0 (pa_cons (pv 0) (pa_cons (pe_callB call_lenA (by rfl) T.b_len (by decide +kernel) (pa_cons (pv 4) pa_nil)) pa_nil))) (fun _ _ => rfl)) pa_nil)))))))))
theorem ok_law_of_none {f : Addr} {fd : FuncData} (F : Fun K "_law_of_none" "_law_of_none" S_law_of_none f fd) (T : Txt P w K mg Z) (G_law_same : Cal P w K mg base CX0 "_law_same" 5 ["actual", "expected"] (spSm K 3)) (G_law_is_rule : Cal P w K mg base CX0 "_law_is_rule" 6 ["rule", "kins", "due"] (spIsRule K Z)) (G_Rule_reach : CalP P w K mg base Z.Rule "reach" 1 (spReach Z)) (G_Rule__len_ : CalM P w K mg base CX0 Z.Rule "__len__" 1 ["self"] (spRLen Z)) (G_union : CalV P w K mg base CX0 "union" 10 (starSp 0 (spUnion Z))) (G_cutR : CalV P w K mg base CX0 "cut" 10 (starSp 0 (spCut Z))) : FnOk P w K mg base CX0 11 f fd ["kins"] (spOfNone K Z) := by
  refine F.ok sc_law_of_none (fun vs H Q E h => len_law_of_none K h) (fun cdv A outer s H vs Q E hr h => ⟨t_law_of_none K Z, ?_, rd_law_of_none K Z T.cf vs H Q E h⟩)
  exact (pss_cons (ps_setLc (i := 1) (own := [("row", 2)]) (g := (gName 2)) (tt := tYes) (te := (tOp rGtI (tOp (rAddA K) (tOp (rIx K) (tVar 2) (tC (.int 0))) (tOp (rIx K) (tVar 2) (tC (.int 1)))) (tC (.int 0)))) rfl sc_law_of_none.nd rfl rfl (sw_true rfl rfl rfl (by decide +kernel)) (pi_any (pv 0)) (blkOk_by (N := ["kins", "full", "row"]) (sc := defScope S_law_of_none) (by decide +kernel)) (fun _ _ _ _ _ => pg_name (i := 2) sc_law_of_none.nd rfl (Or.inl rfl)) (fun _ _ _ _ _ => pts_nil) (fun _ _ _ _ _ => (pe_cmpR op_gtA (pe_op op_addA (pe_ix ix_seq (pv 2) pe_int (fun _ _ => rfl)) (pe_ix ix_seq (pv 2) pe_int (fun _ _ => rfl))) pe_int (nomark _))))
  (pss_consC (ps_if (PW.pt (pw_or (pt_not (pt_tru (pe_cal G_law_is_rule (hr.mono (by decide)) pass0 (pa_cons (pe_calV0 G_union (hr.mono (by decide)) (fun σ => passH0) ) (pa_cons (pv 0) (pa_cons (pe_op op_mulA (pe_lst (pa_cons pe_bl pa_nil)) (pe_callB call_lenA (by rfl) T.b_len (by decide +kernel) (pa_cons (pv 0) pa_nil))) pa_nil)))))) (pw_or1 (pt_not (pt_tru (pe_cal G_law_is_rule (hr.mono (by decide)) pass0 (pa_cons (pe_calV0 G_cutR (hr.mono (by decide)) (fun σ => passH0) ) (pa_cons (pv 0) (pa_cons (pv 1) pa_nil))))))))) (pss_one (ps_ret pe_bl)) pss_nil)
  (pss_one (ps_ret (pe_cal G_law_same (hr.mono (by decide)) pass0 (pa_cons (pe_lst (pa_cons (pe_calP G_Rule_reach (pe_calV0 G_union (hr.mono (by decide)) (fun σ => passH0) ) (hr.mono (by decide))) (pa_cons (pe_calP G_Rule_reach (pe_calV0 G_cutR (hr.mono (by decide)) (fun σ => passH0) ) (hr.mono (by decide))) (pa_cons (pe_callB (call_lenO G_Rule__len_ (hr.mono (by decide)) pass0) (by rfl) T.b_len (by decide +kernel) (pa_cons (pe_calV0 G_union (hr.mono (by decide)) (fun σ => passH0) ) pa_nil)) (pa_cons (pe_callB (call_lenO G_Rule__len_ (hr.mono (by decide)) pass0) (by rfl) T.b_len (by decide +kernel) (pa_cons (pe_calV0 G_cutR (hr.mono (by decide)) (fun σ => passH0) ) pa_nil)) pa_nil))))) (pa_cons (pe_lst (pa_cons pe_int (pa_cons pe_int (pa_cons pe_int (pa_cons pe_int pa_nil))))) pa_nil)))))))
theorem ok_law {f : Addr} {fd : FuncData} (F : Fun K "law" "law" S_law f fd) (T : Txt P w K mg Z) (G_law_start : Cal P w K mg base CX0 "_law_start" 1 ["script"] (spStart K)) (G_law_reach : Cal P w K mg base CX0 "_law_reach" 2 ["state"] (spLReach)) (G_law_rule_cells : Cal P w K mg base CX0 "_law_rule_cells" 3 ["state", "reach"] (spRuleCells)) (G_law_near : Cal P w K mg base CX0 "_law_near" 4 ["state", "left", "mine", "right"] (spNear K)) (G_law_rule : Cal P w K mg base CX0 "_law_rule" 11 ["reach", "cells"] (spLRule K Z)) (G_law_lets_all : Cal P w K mg base CX0 "_law_lets_all" 3 ["reach", "cells", "kins"] (spLetsAll K)) (G_union : CalV P w K mg base CX0 "union" 10 (starSp 0 (spUnion Z))) (G_cutR : CalV P w K mg base CX0 "cut" 10 (starSp 0 (spCut Z))) (G_law_any : Cal P w K mg base CX0 "_law_any" 1 ["rows"] (spAny K)) (G_law_all : Cal P w K mg base CX0 "_law_all" 1 ["rows"] (spAll K)) (G_law_same : Cal P w K mg base CX0 "_law_same" 5 ["actual", "expected"] (spSm K 3)) (G_law_cells : Cal P w K mg base CX0 "_law_cells" 2 ["reach"] (spCells)) (G_law_compared : Cal P w K mg base CX0 "_law_compared" 11 ["rule", "other", "one", "two"] (spCompared K Z)) (G_law_is_rule : Cal P w K mg base CX0 "_law_is_rule" 6 ["rule", "kins", "due"] (spIsRule K Z)) (G_law_parts : Cal P w K mg base CX0 "_law_parts" 2 ["state", "most"] (spParts)) (G_law_of_none : Cal P w K mg base CX0 "_law_of_none" 11 ["kins"] (spOfNone K Z)) (G_Rule_reach : CalP P w K mg base Z.Rule "reach" 1 (spReach Z)) : FnOk P w K mg base CX0 12 f fd ["script"] (spLaw K) := by
  refine F.ok sc_law (fun vs H Q E h => len_law K h) (fun cdv A outer s H vs Q E hr h => ⟨t_law K Z, ?_, rd_law K Z T.cf vs H Q E h⟩)
  exact (pss_cons (ps_set (i := 1) sc_law.nd rfl (Or.inl rfl) (pe_cal G_law_start (hr.mono (by decide)) pass0 (pa_cons (pv 0) pa_nil)))
  (pss_cons (ps_set (i := 2) sc_law.nd rfl (Or.inl rfl) (pe_cal G_law_reach (hr.mono (by decide)) pass0 (pa_cons (pv 1) pa_nil)))
  (pss_cons (ps_set (i := 3) sc_law.nd rfl (Or.inl rfl) (pe_cal G_law_reach (hr.mono (by decide)) pass0 (pa_cons (pv 1) pa_nil)))
  (pss_cons (ps_set (i := 4) sc_law.nd rfl (Or.inl rfl) (pe_cal G_law_reach (hr.mono (by decide)) pass0 (pa_cons (pv 1) pa_nil)))
  (pss_cons (ps_set (i := 5) sc_law.nd rfl (Or.inl rfl) (pe_cal G_law_rule_cells (hr.mono (by decide)) pass0 (pa_cons (pv 1) (pa_cons (pv 2) pa_nil))))
  (pss_cons (ps_set (i := 6) sc_law.nd rfl (Or.inl rfl) (pe_cal G_law_near (hr.mono (by decide)) pass0 (pa_cons (pv 1) (pa_cons (pv 2) (pa_cons (pv 5) (pa_cons (pv 3) pa_nil))))))
  (pss_cons (ps_set (i := 7) sc_law.nd rfl (Or.inl rfl) (pe_cal G_law_rule_cells (hr.mono (by decide)) pass0 (pa_cons (pv 1) (pa_cons (pv 4) pa_nil))))
  (pss_cons (ps_set (i := 8) sc_law.nd rfl (Or.inl rfl) (pe_callB (call_maxA rfl) (by rfl) T.b_max (by decide +kernel) (pa_cons (pv 2) (pa_cons (pe_callTy call_intA (by rfl) T.b_int (by decide +kernel) (pa_cons (pe_ix ix_seq (pv 6) pe_int (fun _ _ => rfl)) pa_nil)) pa_nil))))
  (pss_cons (ps_set (i := 9) sc_law.nd rfl (Or.inl rfl) (pe_callB (call_maxA rfl) (by rfl) T.b_max (by decide +kernel) (pa_cons (pv 8) (pa_cons (pe_callTy call_intA (by rfl) T.b_int (by decide +kernel) (pa_cons (pv 4) pa_nil)) pa_nil))))
  (pss_cons (ps_set (i := 10) sc_law.nd rfl (Or.inl rfl) (pe_op op_addA (pe_cal G_law_cells (hr.mono (by decide)) pass0 (pa_cons (pv 9) pa_nil)) (pe_lst (pa_cons (pe_tup (pa_cons pe_int (pa_cons pe_int (pa_cons pe_str pa_nil)))) (pa_cons (pe_cal G_law_parts (hr.mono (by decide)) pass0 (pa_cons (pv 1) (pa_cons pe_int pa_nil))) pa_nil)))))
  (pss_cons (ps_set (i := 11) sc_law.nd rfl (Or.inl rfl) (pe_cal G_law_rule (hr.mono (by decide)) pass0 (pa_cons (pv 2) (pa_cons (pv 5) pa_nil))))
  (pss_cons (ps_set (i := 12) sc_law.nd rfl (Or.inl rfl) (pe_cal G_law_rule (hr.mono (by decide)) pass0 (pa_cons (pe_ix ix_seq (pv 6) pe_int (fun _ _ => rfl)) (pa_cons (pe_ix ix_seq (pv 6) pe_int (fun _ _ => rfl)) pa_nil))))
  (pss_cons (ps_set (i := 13) sc_law.nd rfl (Or.inl rfl) (pe_cal G_law_rule (hr.mono (by decide)) pass0 (pa_cons (pv 4) (pa_cons (pv 7) pa_nil))))
  (pss_cons (ps_set (i := 14) sc_law.nd rfl (Or.inl rfl) (pe_cal G_law_lets_all (hr.mono (by decide)) pass0 (pa_cons (pv 2) (pa_cons (pv 5) (pa_cons (pv 10) pa_nil)))))
  (pss_cons (ps_set (i := 15) sc_law.nd rfl (Or.inl rfl) (pe_cal G_law_lets_all (hr.mono (by decide)) pass0 (pa_cons (pe_ix ix_seq (pv 6) pe_int (fun _ _ => rfl)) (pa_cons (pe_ix ix_seq (pv 6) pe_int (fun _ _ => rfl)) (pa_cons (pv 10) pa_nil)))))
  (pss_cons (ps_set (i := 16) sc_law.nd rfl (Or.inl rfl) (pe_cal G_law_lets_all (hr.mono (by decide)) pass0 (pa_cons (pv 4) (pa_cons (pv 7) (pa_cons (pv 10) pa_nil)))))
  (pss_cons (ps_if (pt_not (pt_tru (pe_cal G_law_compared (hr.mono (by decide)) pass0 (pa_cons (pv 11) (pa_cons (pv 12) (pa_cons (pv 14) (pa_cons (pv 15) pa_nil))))))) (pss_one (ps_ret pe_bl)) pss_nil)
  (pss_consC (ps_if (PW.pt (pw_or (pt_not (pt_tru (pe_cal G_law_of_none (hr.mono (by decide)) pass0 (pa_cons (pv 10) pa_nil)))) (pw_or (pt_not (pt_tru (pe_cal G_law_is_rule (hr.mono (by decide)) pass0 (pa_cons (pe_calV G_union (hr.mono (by decide)) (fun σ => passH0) (pa_cons (pv 12) pa_nil)) (pa_cons (pv 10) (pa_cons (pv 15) pa_nil)))))) (pw_or1 (pt_not (pt_tru (pe_cal G_law_is_rule (hr.mono (by decide)) pass0 (pa_cons (pe_calV G_cutR (hr.mono (by decide)) (fun σ => passH0) (pa_cons (pv 12) pa_nil)) (pa_cons (pv 10) (pa_cons (pv 15) pa_nil)))))))))) (pss_one (ps_ret pe_bl)) pss_nil)
  (pss_cons (ps_set (i := 17) sc_law.nd rfl (Or.inl rfl) (pe_calV G_union (hr.mono (by decide)) (fun σ => passH0) (pa_cons (pv 11) (pa_cons (pv 12) pa_nil))))
  (pss_cons (ps_set (i := 18) sc_law.nd rfl (Or.inl rfl) (pe_calV G_cutR (hr.mono (by decide)) (fun σ => passH0) (pa_cons (pv 11) (pa_cons (pv 12) pa_nil))))
  (pss_cons (ps_set (i := 19) sc_law.nd rfl (Or.inl rfl) (pe_cal G_law_any (hr.mono (by decide)) pass0 (pa_cons (pe_lst (pa_cons (pv 14) (pa_cons (pv 15) pa_nil))) pa_nil)))
  (pss_cons (ps_set (i := 20) sc_law.nd rfl (Or.inl rfl) (pe_cal G_law_all (hr.mono (by decide)) pass0 (pa_cons (pe_lst (pa_cons (pv 14) (pa_cons (pv 15) pa_nil))) pa_nil)))
  (pss_consC (ps_if (PW.pt (pw_or (pt_not (pt_tru (pe_cal G_law_is_rule (hr.mono (by decide)) pass0 (pa_cons (pv 17) (pa_cons (pv 10) (pa_cons (pv 19) pa_nil)))))) (pw_or1 (pt_not (pt_tru (pe_cal G_law_is_rule (hr.mono (by decide)) pass0 (pa_cons (pv 18) (pa_cons (pv 10) (pa_cons (pv 20) pa_nil))))))))) (pss_one (ps_ret pe_bl)) pss_nil)
  (pss_cons (ps_if (pt_not (pt_tru (pe_cal G_law_same (hr.mono (by decide)) pass0 (pa_cons (pe_lst (pa_cons (pe_calP G_Rule_reach (pv 17) (hr.mono (by decide))) (pa_cons (pe_calP G_Rule_reach (pv 18) (hr.mono (by decide))) pa_nil))) (pa_cons (pe_lst (pa_cons (pv 8) (pa_cons (pv 8) pa_nil))) pa_nil))))) (pss_one (ps_ret pe_bl)) pss_nil)
  (pss_cons (ps_if (pt_not (pt_tru (pe_cal G_law_compared (hr.mono (by decide)) pass0 (pa_cons (pv 13) (pa_cons (pv 17) (pa_cons (pv 16) (pa_cons (pv 19) pa_nil))))))) (pss_one (ps_ret pe_bl)) pss_nil)
  (pss_cons (ps_set (i := 17) sc_law.nd rfl (Or.inl rfl) (pe_calV G_union (hr.mono (by decide)) (fun σ => passH0) (pa_cons (pv 11) (pa_cons (pv 12) (pa_cons (pv 13) pa_nil)))))
  (pss_cons (ps_set (i := 18) sc_law.nd rfl (Or.inl rfl) (pe_calV G_cutR (hr.mono (by decide)) (fun σ => passH0) (pa_cons (pv 11) (pa_cons (pv 12) (pa_cons (pv 13) pa_nil)))))
  (pss_cons (ps_if (pt_not (pt_tru (pe_cal G_law_is_rule (hr.mono (by decide)) pass0 (pa_cons (pv 17) (pa_cons (pv 10) (pa_cons (pe_cal G_law_any (hr.mono (by decide)) pass0 (pa_cons (pe_lst (pa_cons (pv 14) (pa_cons (pv 15) (pa_cons (pv 16) pa_nil)))) pa_nil)) pa_nil)))))) (pss_one (ps_ret pe_bl)) pss_nil)
  (pss_cons (ps_if (pt_not (pt_tru (pe_cal G_law_is_rule (hr.mono (by decide)) pass0 (pa_cons (pv 18) (pa_cons (pv 10) (pa_cons (pe_cal G_law_all (hr.mono (by decide)) pass0 (pa_cons (pe_lst (pa_cons (pv 14) (pa_cons (pv 15) (pa_cons (pv 16) pa_nil)))) pa_nil)) pa_nil)))))) (pss_one (ps_ret pe_bl)) pss_nil)
  (pss_cons (ps_if (pt_not (pt_tru (pe_cal G_law_same (hr.mono (by decide)) pass0 (pa_cons (pe_lst (pa_cons (pe_calP G_Rule_reach (pv 17) (hr.mono (by decide))) (pa_cons (pe_calP G_Rule_reach (pv 18) (hr.mono (by decide))) pa_nil))) (pa_cons (pe_lst (pa_cons (pv 9) (pa_cons (pv 9) pa_nil))) pa_nil))))) (pss_one (ps_ret pe_bl)) pss_nil)
  (pss_consC (ps_if (PW.pt (pw_or (pt_not (pt_tru (pe_cal G_law_is_rule (hr.mono (by decide)) pass0 (pa_cons (pv 11) (pa_cons (pv 10) (pa_cons (pv 14) pa_nil)))))) (pw_or (pt_not (pt_tru (pe_cal G_law_is_rule (hr.mono (by decide)) pass0 (pa_cons (pv 12) (pa_cons (pv 10) (pa_cons (pv 15) pa_nil)))))) (pw_or1 (pt_not (pt_tru (pe_cal G_law_is_rule (hr.mono (by decide)) pass0 (pa_cons (pv 13) (pa_cons (pv 10) (pa_cons (pv 16) pa_nil)))))))))) (pss_one (ps_ret pe_bl)) pss_nil)
  (pss_one (ps_ret (pe_cal G_law_same (hr.mono (by decide)) pass0 (pa_cons (pe_lst (pa_cons (pe_calP G_Rule_reach (pv 11) (hr.mono (by decide))) (pa_cons (pe_calP G_Rule_reach (pv 12) (hr.mono (by decide))) (pa_cons (pe_calP G_Rule_reach (pv 13) (hr.mono (by decide))) pa_nil)))) (pa_cons (pe_lst (pa_cons (pv 2) (pa_cons (pe_ix ix_seq (pv 6) pe_int (fun _ _ => rfl)) (pa_cons (pv 4) pa_nil)))) pa_nil))))))))))))))))))))))))))))))))))))
end
theorem all_mk {l : PySem.W.OpenLaw} {w : World} {K : PySem.W.Frag} {h : Heap} {mg : Str → Option Value} {fa CKin CRule p_SIDES f0 f1 f2 f3 f4 f5 f6 f7 f8 f9 f10 p10 f11 f12 f13 f14 f15 f16 f17 f18 f19 f20 f21 f22 f23 f24 p24 f25 f26 f27 f28 f29 f30 f31 f32 f33 p33 f34 f35 f36 p36 f37 f38 f39 f40 f41 f42 f43 f44 f45 f46 f47 f48 f49 f50 f51 : Addr} (X : K.In h) (G : h.Ns mainGlobals mg) (hfa : mg "law" = some (.ref fa))
    {od0 an0 od1 an1 od2 an2 od3 an3 od4 an4 od5 an5 od6 an6 od7 an7 od8 an8 od9 an9 od10 an10 od11 an11 od12 an12 od13 an13 od14 an14 od15 an15 od16 an16 od17 an17 od18 an18 od19 an19 od20 an20 od21 an21 od22 an22 od23 an23 od24 an24 od25 an25 od26 an26 od27 an27 od28 an28 od29 an29 od30 an30 od31 an31 od32 an32 od33 an33 od34 an34 od35 an35 od36 an36 od37 an37 od38 an38 od39 an39 od40 an40 od41 an41 od42 an42 od43 an43 od44 an44 od45 an45 od46 an46 od47 an47 od48 an48 od49 an49 od50 an50 od51 an51 : Option Addr} {sl0 sl1 sl2 sl3 sl4 sl5 sl6 sl7 sl8 sl9 sl10 sl11 sl12 sl13 sl14 sl15 sl16 sl17 sl18 sl19 sl20 sl21 sl22 sl23 sl24 sl25 sl26 sl27 sl28 sl29 sl30 sl31 sl32 sl33 sl34 sl35 sl36 sl37 sl38 sl39 sl40 sl41 sl42 sl43 sl44 sl45 sl46 sl47 sl48 sl49 sl50 sl51 : Array (Option Value)} {oc0 kV0 dc0 pm0 cd0 ct0 oc1 kV1 dc1 pm1 cd1 ct1 oc2 kV2 dc2 pm2 cd2 ct2 oc3 kV3 dc3 pm3 cd3 ct3 oc4 kV4 dc4 pm4 cd4 ct4 oc5 kV5 dc5 pm5 cd5 ct5 oc6 kV6 dc6 pm6 cd6 ct6 oc7 kV7 dc7 pm7 cd7 ct7 oc8 kV8 dc8 pm8 cd8 ct8 oc9 kV9 dc9 pm9 cd9 ct9 oc10 kV10 dc10 pm10 cd10 ct10 oc11 kV11 dc11 pm11 cd11 ct11 oc12 kV12 dc12 pm12 cd12 ct12 oc13 kV13 dc13 pm13 cd13 ct13 oc14 kV14 dc14 pm14 cd14 ct14 oc15 kV15 dc15 pm15 cd15 ct15 oc16 kV16 dc16 pm16 cd16 ct16 oc17 kV17 dc17 pm17 cd17 ct17 oc18 kV18 dc18 pm18 cd18 ct18 oc19 kV19 dc19 pm19 cd19 ct19 oc20 kV20 dc20 pm20 cd20 ct20 oc21 kV21 dc21 pm21 cd21 ct21 oc22 kV22 dc22 pm22 cd22 ct22 oc23 kV23 dc23 pm23 cd23 ct23 oc24 kV24 dc24 pm24 cd24 ct24 oc25 kV25 dc25 pm25 cd25 ct25 oc26 kV26 dc26 pm26 cd26 ct26 oc27 kV27 dc27 pm27 cd27 ct27 oc28 kV28 dc28 pm28 cd28 ct28 oc29 kV29 dc29 pm29 cd29 ct29 oc30 kV30 dc30 pm30 cd30 ct30 oc31 kV31 dc31 pm31 cd31 ct31 oc32 kV32 dc32 pm32 cd32 ct32 oc33 kV33 dc33 pm33 cd33 ct33 oc34 kV34 dc34 pm34 cd34 ct34 oc35 kV35 dc35 pm35 cd35 ct35 oc36 kV36 dc36 pm36 cd36 ct36 oc37 kV37 dc37 pm37 cd37 ct37 oc38 kV38 dc38 pm38 cd38 ct38 oc39 kV39 dc39 pm39 cd39 ct39 oc40 kV40 dc40 pm40 cd40 ct40 oc41 kV41 dc41 pm41 cd41 ct41 oc42 kV42 dc42 pm42 cd42 ct42 oc43 kV43 dc43 pm43 cd43 ct43 oc44 kV44 dc44 pm44 cd44 ct44 oc45 kV45 dc45 pm45 cd45 ct45 oc46 kV46 dc46 pm46 cd46 ct46 oc47 kV47 dc47 pm47 cd47 ct47 oc48 kV48 dc48 pm48 cd48 ct48 oc49 kV49 dc49 pm49 cd49 ct49 oc50 kV50 dc50 pm50 cd50 ct50 oc51 kV51 dc51 pm51 cd51 ct51 : Value}
    {Cz0 gz0 Nz0 ccz0 cdz0 Cz1 gz1 Nz1 ccz1 cdz1 Cz2 gz2 Nz2 ccz2 cdz2 Cz3 gz3 Nz3 ccz3 cdz3 Cz4 gz4 Nz4 ccz4 cdz4 Cz5 gz5 Nz5 ccz5 cdz5 : Addr} {odz0 anz0 ddz0 cddz0 cldz0 odz1 anz1 ddz1 cddz1 cldz1 odz2 anz2 ddz2 cddz2 cldz2 odz3 anz3 ddz3 cddz3 cldz3 odz4 anz4 ddz4 cddz4 cldz4 odz5 anz5 ddz5 cddz5 cldz5 : Option Addr} {slz0 ccsz0 cslz0 slz1 ccsz1 cslz1 slz2 ccsz2 cslz2 slz3 ccsz3 cslz3 slz4 ccsz4 cslz4 slz5 ccsz5 cslz5 : Array (Option Value)} {kVz0 dcz0 pmz0 ctz0 cclz0 clz0 kVz1 dcz1 pmz1 ctz1 cclz1 clz1 kVz2 dcz2 pmz2 ctz2 cclz2 clz2 kVz3 dcz3 pmz3 ctz3 cclz3 clz3 kVz4 dcz4 pmz4 ctz4 cclz4 clz4 kVz5 dcz5 pmz5 ctz5 cclz5 clz5 : Value} {nmz0 qz0 filez0 nmz1 qz1 filez1 nmz2 qz2 filez2 nmz3 qz3 filez3 nmz4 qz4 filez4 nmz5 qz5 filez5 : Str} {tfz0 tfz1 tfz2 tfz3 tfz4 tfz5 tcKinMOST tcRuleMOST_REACH tmLEAST_REACH tmMOST_REACH : Tok} {bsz0 subz0 bsz1 subz1 bsz2 subz2 bsz3 subz3 bsz4 subz4 bsz5 subz5 rest10 rest24 rest33 rest36 : List Value} {snz0 snz1 snz2 snz3 snz4 snz5 : List Str} {abz0 abz1 abz2 abz3 abz4 abz5 : Bool} {colz0 colz1 colz2 colz3 colz4 colz5 : Option Bool} {m0z0 m1z0 m2z0 m3z0 m5z0 m0z1 m1z1 m2z1 m3z1 m5z1 m0z2 m1z2 m2z2 m3z2 m5z2 m0z3 m1z3 m2z3 m3z3 m5z3 m0z4 m1z4 m2z4 m3z4 m5z4 m0z5 m1z5 m2z5 m3z5 m5z5 : Option Value} {vsz0 vsz1 vsz2 vsz3 vsz4 vsz5 : Array Value}
    (a_Kin : PySem.W.nsIn K mainGlobals "Kin" = some (some (.ref CKin)))
    (a_Rule : PySem.W.nsIn K mainGlobals "Rule" = some (some (.ref CRule)))
    (a0 : PySem.W.nsIn K mainGlobals "_law_start" = some (some (.ref f0))) (l0 : K.lookup f0 = some ⟨oc0, od0, .func (PySem.W.fnOf "_law_start" "_law_start" (defArgs S_law_start) (defBody S_law_start) (defScope S_law_start) .none kV0 dc0 pm0 an0 cd0 ct0), sl0⟩) (c0 : PySem.W.codeIn K cd0 "_law_start" = true) (k0 : PySem.W.keepIn K (.ref f0) = true)
    (a1 : PySem.W.nsIn K mainGlobals "_law_draw" = some (some (.ref f1))) (l1 : K.lookup f1 = some ⟨oc1, od1, .func (PySem.W.fnOf "_law_draw" "_law_draw" (defArgs S_law_draw) (defBody S_law_draw) (defScope S_law_draw) .none kV1 dc1 pm1 an1 cd1 ct1), sl1⟩) (c1 : PySem.W.codeIn K cd1 "_law_draw" = true) (k1 : PySem.W.keepIn K (.ref f1) = true)
    (a2 : PySem.W.nsIn K mainGlobals "_law_reach" = some (some (.ref f2))) (l2 : K.lookup f2 = some ⟨oc2, od2, .func (PySem.W.fnOf "_law_reach" "_law_reach" (defArgs S_law_reach) (defBody S_law_reach) (defScope S_law_reach) .none kV2 dc2 pm2 an2 cd2 ct2), sl2⟩) (c2 : PySem.W.codeIn K cd2 "_law_reach" = true) (k2 : PySem.W.keepIn K (.ref f2) = true)
    (a3 : PySem.W.nsIn K mainGlobals "_law_sides" = some (some (.ref f3))) (l3 : K.lookup f3 = some ⟨oc3, od3, .func (PySem.W.fnOf "_law_sides" "_law_sides" (defArgs S_law_sides) (defBody S_law_sides) (defScope S_law_sides) .none kV3 dc3 pm3 an3 cd3 ct3), sl3⟩) (c3 : PySem.W.codeIn K cd3 "_law_sides" = true) (k3 : PySem.W.keepIn K (.ref f3) = true)
    (a4 : PySem.W.nsIn K mainGlobals "_law_cells" = some (some (.ref f4))) (l4 : K.lookup f4 = some ⟨oc4, od4, .func (PySem.W.fnOf "_law_cells" "_law_cells" (defArgs S_law_cells) (defBody S_law_cells) (defScope S_law_cells) .none kV4 dc4 pm4 an4 cd4 ct4), sl4⟩) (c4 : PySem.W.codeIn K cd4 "_law_cells" = true) (k4 : PySem.W.keepIn K (.ref f4) = true)
    (a5 : PySem.W.nsIn K mainGlobals "_law_wanted" = some (some (.ref f5))) (l5 : K.lookup f5 = some ⟨oc5, od5, .func (PySem.W.fnOf "_law_wanted" "_law_wanted" (defArgs S_law_wanted) (defBody S_law_wanted) (defScope S_law_wanted) .none kV5 dc5 pm5 an5 cd5 ct5), sl5⟩) (c5 : PySem.W.codeIn K cd5 "_law_wanted" = true) (k5 : PySem.W.keepIn K (.ref f5) = true)
    (a6 : PySem.W.nsIn K mainGlobals "_law_rule_cells" = some (some (.ref f6))) (l6 : K.lookup f6 = some ⟨oc6, od6, .func (PySem.W.fnOf "_law_rule_cells" "_law_rule_cells" (defArgs S_law_rule_cells) (defBody S_law_rule_cells) (defScope S_law_rule_cells) .none kV6 dc6 pm6 an6 cd6 ct6), sl6⟩) (c6 : PySem.W.codeIn K cd6 "_law_rule_cells" = true) (k6 : PySem.W.keepIn K (.ref f6) = true)
    (a7 : PySem.W.nsIn K mainGlobals "_law_capped" = some (some (.ref f7))) (l7 : K.lookup f7 = some ⟨oc7, od7, .func (PySem.W.fnOf "_law_capped" "_law_capped" (defArgs S_law_capped) (defBody S_law_capped) (defScope S_law_capped) .none kV7 dc7 pm7 an7 cd7 ct7), sl7⟩) (c7 : PySem.W.codeIn K cd7 "_law_capped" = true) (k7 : PySem.W.keepIn K (.ref f7) = true)
    (a8 : PySem.W.nsIn K mainGlobals "_law_near" = some (some (.ref f8))) (l8 : K.lookup f8 = some ⟨oc8, od8, .func (PySem.W.fnOf "_law_near" "_law_near" (defArgs S_law_near) (defBody S_law_near) (defScope S_law_near) .none kV8 dc8 pm8 an8 cd8 ct8), sl8⟩) (c8 : PySem.W.codeIn K cd8 "_law_near" = true) (k8 : PySem.W.keepIn K (.ref f8) = true)
    (a9 : PySem.W.nsIn K mainGlobals "demand_reach" = some (some (.ref f9))) (l9 : K.lookup f9 = some ⟨oc9, od9, .func (PySem.W.fnOf "demand_reach" "demand_reach" (defArgs S_demand_reach) (defBody S_demand_reach) (defScope S_demand_reach) .none kV9 dc9 pm9 an9 cd9 ct9), sl9⟩) (c9 : PySem.W.codeIn K cd9 "demand_reach" = true) (k9 : PySem.W.keepIn K (.ref f9) = true)
    (a10 : PySem.W.findIn K (.ref CKin) "is_self" = some (some (.ref p10))) (pg10 : PySem.W.specialIn K (.ref p10) "__get__" = some (some (.builtin "property.__get__"))) (pt10 : PySem.W.takesIn K (.ref p10) = some true) (pr10 : PySem.W.recIn K p10 "property" = some (.ref f10 :: rest10))
    (l10 : K.lookup f10 = some ⟨oc10, od10, .func (PySem.W.fnOf "is_self" "Kin.is_self" (defArgs S_Kin_is_self) (defBody S_Kin_is_self) (defScope S_Kin_is_self) .none kV10 dc10 pm10 an10 cd10 ct10), sl10⟩) (c10 : PySem.W.codeIn K cd10 "Kin.is_self" = true) (k10 : PySem.W.keepIn K (.ref f10) = true)
    (a11 : PySem.W.nsIn K mainGlobals "fits_side" = some (some (.ref f11))) (l11 : K.lookup f11 = some ⟨oc11, od11, .func (PySem.W.fnOf "fits_side" "fits_side" (defArgs S_fits_side) (defBody S_fits_side) (defScope S_fits_side) .none kV11 dc11 pm11 an11 cd11 ct11), sl11⟩) (c11 : PySem.W.codeIn K cd11 "fits_side" = true) (k11 : PySem.W.keepIn K (.ref f11) = true)
    (a12 : PySem.W.findIn K (.ref CKin) "__init__" = some (some (.ref f12))) (i12 : PySem.W.isFn K (.ref f12) = true)
    (l12 : K.lookup f12 = some ⟨oc12, od12, .func (PySem.W.fnOf "__init__" "Kin.__init__" (defArgs S_Kin__init_) (defBody S_Kin__init_) (defScope S_Kin__init_) .none kV12 dc12 pm12 an12 cd12 ct12), sl12⟩) (c12 : PySem.W.codeIn K cd12 "Kin.__init__" = true) (k12 : PySem.W.keepIn K (.ref f12) = true)
    (a13 : PySem.W.nsIn K mainGlobals "capped" = some (some (.ref f13))) (l13 : K.lookup f13 = some ⟨oc13, od13, .func (PySem.W.fnOf "capped" "capped" (defArgs S_capped) (defBody S_capped) (defScope S_capped) .none kV13 dc13 pm13 an13 cd13 ct13), sl13⟩) (c13 : PySem.W.codeIn K cd13 "capped" = true) (k13 : PySem.W.keepIn K (.ref f13) = true)
    (a14 : PySem.W.findIn K (.ref CKin) "__mod__" = some (some (.ref f14))) (i14 : PySem.W.isFn K (.ref f14) = true)
    (l14 : K.lookup f14 = some ⟨oc14, od14, .func (PySem.W.fnOf "__mod__" "Kin.__mod__" (defArgs S_Kin__mod_) (defBody S_Kin__mod_) (defScope S_Kin__mod_) .none kV14 dc14 pm14 an14 cd14 ct14), sl14⟩) (c14 : PySem.W.codeIn K cd14 "Kin.__mod__" = true) (k14 : PySem.W.keepIn K (.ref f14) = true)
    (a15 : PySem.W.nsIn K mainGlobals "let_parts" = some (some (.ref f15))) (l15 : K.lookup f15 = some ⟨oc15, od15, .func (PySem.W.fnOf "let_parts" "let_parts" (defArgs S_let_parts) (defBody S_let_parts) (defScope S_let_parts) .none kV15 dc15 pm15 an15 cd15 ct15), sl15⟩) (c15 : PySem.W.codeIn K cd15 "let_parts" = true) (k15 : PySem.W.keepIn K (.ref f15) = true)
    (a16 : PySem.W.nsIn K mainGlobals "all_cells" = some (some (.ref f16))) (l16 : K.lookup f16 = some ⟨oc16, od16, .func (PySem.W.fnOf "all_cells" "all_cells" (defArgs S_all_cells) (defBody S_all_cells) (defScope S_all_cells) .none kV16 dc16 pm16 an16 cd16 ct16), sl16⟩) (c16 : PySem.W.codeIn K cd16 "all_cells" = true) (k16 : PySem.W.keepIn K (.ref f16) = true)
    (a17 : PySem.W.findIn K (.ref CRule) "lets" = some (some (.ref f17))) (i17 : PySem.W.isFn K (.ref f17) = true)
    (l17 : K.lookup f17 = some ⟨oc17, od17, .func (PySem.W.fnOf "lets" "Rule.lets" (defArgs S_Rule_lets) (defBody S_Rule_lets) (defScope S_Rule_lets) .none kV17 dc17 pm17 an17 cd17 ct17), sl17⟩) (c17 : PySem.W.codeIn K cd17 "Rule.lets" = true) (k17 : PySem.W.keepIn K (.ref f17) = true)
    (a18 : PySem.W.findIn K (.ref CRule) "__init__" = some (some (.ref f18))) (i18 : PySem.W.isFn K (.ref f18) = true)
    (l18 : K.lookup f18 = some ⟨oc18, od18, .func (PySem.W.fnOf "__init__" "Rule.__init__" (defArgs S_Rule__init_) (defBody S_Rule__init_) (defScope S_Rule__init_) .none kV18 dc18 pm18 an18 cd18 ct18), sl18⟩) (c18 : PySem.W.codeIn K cd18 "Rule.__init__" = true) (k18 : PySem.W.keepIn K (.ref f18) = true)
    (a19 : PySem.W.findIn K (.ref CRule) "__getitem__" = some (some (.ref f19))) (i19 : PySem.W.isFn K (.ref f19) = true)
    (l19 : K.lookup f19 = some ⟨oc19, od19, .func (PySem.W.fnOf "__getitem__" "Rule.__getitem__" (defArgs S_Rule__getitem_) (defBody S_Rule__getitem_) (defScope S_Rule__getitem_) .none kV19 dc19 pm19 an19 cd19 ct19), sl19⟩) (c19 : PySem.W.codeIn K cd19 "Rule.__getitem__" = true) (k19 : PySem.W.keepIn K (.ref f19) = true)
    (a20 : PySem.W.findIn K (.ref CKin) "measure" = some (some (.ref f20))) (i20 : PySem.W.isFn K (.ref f20) = true)
    (l20 : K.lookup f20 = some ⟨oc20, od20, .func (PySem.W.fnOf "measure" "Kin.measure" (defArgs S_Kin_measure) (defBody S_Kin_measure) (defScope S_Kin_measure) .none kV20 dc20 pm20 an20 cd20 ct20), sl20⟩) (c20 : PySem.W.codeIn K cd20 "Kin.measure" = true) (k20 : PySem.W.keepIn K (.ref f20) = true)
    (a21 : PySem.W.findIn K (.ref CKin) "__lt__" = some (some (.ref f21))) (i21 : PySem.W.isFn K (.ref f21) = true)
    (l21 : K.lookup f21 = some ⟨oc21, od21, .func (PySem.W.fnOf "__lt__" "Kin.__lt__" (defArgs S_Kin__lt_) (defBody S_Kin__lt_) (defScope S_Kin__lt_) .none kV21 dc21 pm21 an21 cd21 ct21), sl21⟩) (c21 : PySem.W.codeIn K cd21 "Kin.__lt__" = true) (k21 : PySem.W.keepIn K (.ref f21) = true)
    (a22 : PySem.W.findIn K (.ref CRule) "put" = some (some (.ref f22))) (i22 : PySem.W.isFn K (.ref f22) = true)
    (l22 : K.lookup f22 = some ⟨oc22, od22, .func (PySem.W.fnOf "put" "Rule.put" (defArgs S_Rule_put) (defBody S_Rule_put) (defScope S_Rule_put) .none kV22 dc22 pm22 an22 cd22 ct22), sl22⟩) (c22 : PySem.W.codeIn K cd22 "Rule.put" = true) (k22 : PySem.W.keepIn K (.ref f22) = true)
    (a23 : PySem.W.findIn K (.ref CRule) "take" = some (some (.ref f23))) (i23 : PySem.W.isFn K (.ref f23) = true)
    (l23 : K.lookup f23 = some ⟨oc23, od23, .func (PySem.W.fnOf "take" "Rule.take" (defArgs S_Rule_take) (defBody S_Rule_take) (defScope S_Rule_take) .none kV23 dc23 pm23 an23 cd23 ct23), sl23⟩) (c23 : PySem.W.codeIn K cd23 "Rule.take" = true) (k23 : PySem.W.keepIn K (.ref f23) = true)
    (a24 : PySem.W.findIn K (.ref CRule) "reach" = some (some (.ref p24))) (pg24 : PySem.W.specialIn K (.ref p24) "__get__" = some (some (.builtin "property.__get__"))) (pt24 : PySem.W.takesIn K (.ref p24) = some true) (pr24 : PySem.W.recIn K p24 "property" = some (.ref f24 :: rest24))
    (l24 : K.lookup f24 = some ⟨oc24, od24, .func (PySem.W.fnOf "reach" "Rule.reach" (defArgs S_Rule_reach) (defBody S_Rule_reach) (defScope S_Rule_reach) .none kV24 dc24 pm24 an24 cd24 ct24), sl24⟩) (c24 : PySem.W.codeIn K cd24 "Rule.reach" = true) (k24 : PySem.W.keepIn K (.ref f24) = true)
    (a25 : PySem.W.nsIn K mainGlobals "joined" = some (some (.ref f25))) (l25 : K.lookup f25 = some ⟨oc25, od25, .func (PySem.W.fnOf "joined" "joined" (defArgs S_joined) (defBody S_joined) (defScope S_joined) .none kV25 dc25 pm25 an25 cd25 ct25), sl25⟩) (c25 : PySem.W.codeIn K cd25 "joined" = true) (k25 : PySem.W.keepIn K (.ref f25) = true)
    (a26 : PySem.W.nsIn K mainGlobals "combined" = some (some (.ref f26))) (l26 : K.lookup f26 = some ⟨oc26, od26, .func (PySem.W.fnOf "combined" "combined" (defArgs S_combined) (defBody S_combined) (defScope S_combined) .none kV26 dc26 pm26 an26 cd26 ct26), sl26⟩) (c26 : PySem.W.codeIn K cd26 "combined" = true) (k26 : PySem.W.keepIn K (.ref f26) = true)
    (a27 : PySem.W.findIn K (.ref CRule) "__sub__" = some (some (.ref f27))) (i27 : PySem.W.isFn K (.ref f27) = true)
    (l27 : K.lookup f27 = some ⟨oc27, od27, .func (PySem.W.fnOf "__sub__" "Rule.__sub__" (defArgs S_Rule__sub_) (defBody S_Rule__sub_) (defScope S_Rule__sub_) .none kV27 dc27 pm27 an27 cd27 ct27), sl27⟩) (c27 : PySem.W.codeIn K cd27 "Rule.__sub__" = true) (k27 : PySem.W.keepIn K (.ref f27) = true)
    (a28 : PySem.W.findIn K (.ref CRule) "__setitem__" = some (some (.ref f28))) (i28 : PySem.W.isFn K (.ref f28) = true)
    (l28 : K.lookup f28 = some ⟨oc28, od28, .func (PySem.W.fnOf "__setitem__" "Rule.__setitem__" (defArgs S_Rule__setitem_) (defBody S_Rule__setitem_) (defScope S_Rule__setitem_) .none kV28 dc28 pm28 an28 cd28 ct28), sl28⟩) (c28 : PySem.W.codeIn K cd28 "Rule.__setitem__" = true) (k28 : PySem.W.keepIn K (.ref f28) = true)
    (a29 : PySem.W.nsIn K mainGlobals "_law_kin" = some (some (.ref f29))) (l29 : K.lookup f29 = some ⟨oc29, od29, .func (PySem.W.fnOf "_law_kin" "_law_kin" (defArgs S_law_kin) (defBody S_law_kin) (defScope S_law_kin) .none kV29 dc29 pm29 an29 cd29 ct29), sl29⟩) (c29 : PySem.W.codeIn K cd29 "_law_kin" = true) (k29 : PySem.W.keepIn K (.ref f29) = true)
    (a30 : PySem.W.nsIn K mainGlobals "_law_rule" = some (some (.ref f30))) (l30 : K.lookup f30 = some ⟨oc30, od30, .func (PySem.W.fnOf "_law_rule" "_law_rule" (defArgs S_law_rule) (defBody S_law_rule) (defScope S_law_rule) .none kV30 dc30 pm30 an30 cd30 ct30), sl30⟩) (c30 : PySem.W.codeIn K cd30 "_law_rule" = true) (k30 : PySem.W.keepIn K (.ref f30) = true)
    (a31 : PySem.W.nsIn K mainGlobals "_law_lets" = some (some (.ref f31))) (l31 : K.lookup f31 = some ⟨oc31, od31, .func (PySem.W.fnOf "_law_lets" "_law_lets" (defArgs S_law_lets) (defBody S_law_lets) (defScope S_law_lets) .none kV31 dc31 pm31 an31 cd31 ct31), sl31⟩) (c31 : PySem.W.codeIn K cd31 "_law_lets" = true) (k31 : PySem.W.keepIn K (.ref f31) = true)
    (a32 : PySem.W.nsIn K mainGlobals "_law_lets_all" = some (some (.ref f32))) (l32 : K.lookup f32 = some ⟨oc32, od32, .func (PySem.W.fnOf "_law_lets_all" "_law_lets_all" (defArgs S_law_lets_all) (defBody S_law_lets_all) (defScope S_law_lets_all) .none kV32 dc32 pm32 an32 cd32 ct32), sl32⟩) (c32 : PySem.W.codeIn K cd32 "_law_lets_all" = true) (k32 : PySem.W.keepIn K (.ref f32) = true)
    (a33 : PySem.W.findIn K (.ref CRule) "none" = some (some (.ref p33))) (am33 : PySem.W.findIn K (.type "type") "none" = some none) (pt33 : PySem.W.typeIn K (.ref p33) = some (.type "classmethod")) (pg33 : PySem.W.specialIn K (.ref p33) "__get__" = some (some (.builtin "classmethod.__get__"))) (pr33 : PySem.W.recIn K p33 "classmethod" = some (.ref f33 :: rest33)) (cr33 : PySem.W.readsIn K CRule (.type "type") = true) (cq33 : PySem.W.specialIn K (.ref CRule) "__getattribute__" = some (some (.builtin "type.__getattribute__"))) (fi33 : PySem.W.fnIn K f33 = true)
    (l33 : K.lookup f33 = some ⟨oc33, od33, .func (PySem.W.fnOf "none" "Rule.none" (defArgs S_Rule_none) (defBody S_Rule_none) (defScope S_Rule_none) .none kV33 dc33 pm33 an33 cd33 ct33), sl33⟩) (c33 : PySem.W.codeIn K cd33 "Rule.none" = true) (k33 : PySem.W.keepIn K (.ref f33) = true)
    (a34 : PySem.W.findIn K (.ref CRule) "__ior__" = some (some (.ref f34))) (i34 : PySem.W.isFn K (.ref f34) = true)
    (l34 : K.lookup f34 = some ⟨oc34, od34, .func (PySem.W.fnOf "__ior__" "Rule.__ior__" (defArgs S_Rule__ior_) (defBody S_Rule__ior_) (defScope S_Rule__ior_) .none kV34 dc34 pm34 an34 cd34 ct34), sl34⟩) (c34 : PySem.W.codeIn K cd34 "Rule.__ior__" = true) (k34 : PySem.W.keepIn K (.ref f34) = true)
    (a35 : PySem.W.nsIn K mainGlobals "union" = some (some (.ref f35))) (l35 : K.lookup f35 = some ⟨oc35, od35, .func (PySem.W.fnOf "union" "union" (defArgs S_union) (defBody S_union) (defScope S_union) .none kV35 dc35 pm35 an35 cd35 ct35), sl35⟩) (c35 : PySem.W.codeIn K cd35 "union" = true) (k35 : PySem.W.keepIn K (.ref f35) = true)
    (a36 : PySem.W.findIn K (.ref CRule) "full" = some (some (.ref p36))) (am36 : PySem.W.findIn K (.type "type") "full" = some none) (pt36 : PySem.W.typeIn K (.ref p36) = some (.type "classmethod")) (pg36 : PySem.W.specialIn K (.ref p36) "__get__" = some (some (.builtin "classmethod.__get__"))) (pr36 : PySem.W.recIn K p36 "classmethod" = some (.ref f36 :: rest36)) (cr36 : PySem.W.readsIn K CRule (.type "type") = true) (cq36 : PySem.W.specialIn K (.ref CRule) "__getattribute__" = some (some (.builtin "type.__getattribute__"))) (fi36 : PySem.W.fnIn K f36 = true)
    (l36 : K.lookup f36 = some ⟨oc36, od36, .func (PySem.W.fnOf "full" "Rule.full" (defArgs S_Rule_full) (defBody S_Rule_full) (defScope S_Rule_full) .none kV36 dc36 pm36 an36 cd36 ct36), sl36⟩) (c36 : PySem.W.codeIn K cd36 "Rule.full" = true) (k36 : PySem.W.keepIn K (.ref f36) = true)
    (a37 : PySem.W.findIn K (.ref CRule) "__iand__" = some (some (.ref f37))) (i37 : PySem.W.isFn K (.ref f37) = true)
    (l37 : K.lookup f37 = some ⟨oc37, od37, .func (PySem.W.fnOf "__iand__" "Rule.__iand__" (defArgs S_Rule__iand_) (defBody S_Rule__iand_) (defScope S_Rule__iand_) .none kV37 dc37 pm37 an37 cd37 ct37), sl37⟩) (c37 : PySem.W.codeIn K cd37 "Rule.__iand__" = true) (k37 : PySem.W.keepIn K (.ref f37) = true)
    (a38 : PySem.W.nsIn K mainGlobals "cut" = some (some (.ref f38))) (l38 : K.lookup f38 = some ⟨oc38, od38, .func (PySem.W.fnOf "cut" "cut" (defArgs S_cutR) (defBody S_cutR) (defScope S_cutR) .none kV38 dc38 pm38 an38 cd38 ct38), sl38⟩) (c38 : PySem.W.codeIn K cd38 "cut" = true) (k38 : PySem.W.keepIn K (.ref f38) = true)
    (a39 : PySem.W.nsIn K mainGlobals "_law_any" = some (some (.ref f39))) (l39 : K.lookup f39 = some ⟨oc39, od39, .func (PySem.W.fnOf "_law_any" "_law_any" (defArgs S_law_any) (defBody S_law_any) (defScope S_law_any) .none kV39 dc39 pm39 an39 cd39 ct39), sl39⟩) (c39 : PySem.W.codeIn K cd39 "_law_any" = true) (k39 : PySem.W.keepIn K (.ref f39) = true)
    (a40 : PySem.W.nsIn K mainGlobals "_law_all" = some (some (.ref f40))) (l40 : K.lookup f40 = some ⟨oc40, od40, .func (PySem.W.fnOf "_law_all" "_law_all" (defArgs S_law_all) (defBody S_law_all) (defScope S_law_all) .none kV40 dc40 pm40 an40 cd40 ct40), sl40⟩) (c40 : PySem.W.codeIn K cd40 "_law_all" = true) (k40 : PySem.W.keepIn K (.ref f40) = true)
    (a41 : PySem.W.nsIn K mainGlobals "_law_is_number" = some (some (.ref f41))) (l41 : K.lookup f41 = some ⟨oc41, od41, .func (PySem.W.fnOf "_law_is_number" "_law_is_number" (defArgs S_law_is_number) (defBody S_law_is_number) (defScope S_law_is_number) .none kV41 dc41 pm41 an41 cd41 ct41), sl41⟩) (c41 : PySem.W.codeIn K cd41 "_law_is_number" = true) (k41 : PySem.W.keepIn K (.ref f41) = true)
    (a42 : PySem.W.nsIn K mainGlobals "_law_same" = some (some (.ref f42))) (l42 : K.lookup f42 = some ⟨oc42, od42, .func (PySem.W.fnOf "_law_same" "_law_same" (defArgs S_law_same) (defBody S_law_same) (defScope S_law_same) .none kV42 dc42 pm42 an42 cd42 ct42), sl42⟩) (c42 : PySem.W.codeIn K cd42 "_law_same" = true) (k42 : PySem.W.keepIn K (.ref f42) = true)
    (a43 : PySem.W.findIn K (.ref CRule) "__len__" = some (some (.ref f43))) (i43 : PySem.W.isFn K (.ref f43) = true)
    (l43 : K.lookup f43 = some ⟨oc43, od43, .func (PySem.W.fnOf "__len__" "Rule.__len__" (defArgs S_Rule__len_) (defBody S_Rule__len_) (defScope S_Rule__len_) .none kV43 dc43 pm43 an43 cd43 ct43), sl43⟩) (c43 : PySem.W.codeIn K cd43 "Rule.__len__" = true) (k43 : PySem.W.keepIn K (.ref f43) = true)
    (a44 : PySem.W.findIn K (.ref CRule) "__le__" = some (some (.ref f44))) (i44 : PySem.W.isFn K (.ref f44) = true)
    (l44 : K.lookup f44 = some ⟨oc44, od44, .func (PySem.W.fnOf "__le__" "Rule.__le__" (defArgs S_Rule__le_) (defBody S_Rule__le_) (defScope S_Rule__le_) .none kV44 dc44 pm44 an44 cd44 ct44), sl44⟩) (c44 : PySem.W.codeIn K cd44 "Rule.__le__" = true) (k44 : PySem.W.keepIn K (.ref f44) = true)
    (a45 : PySem.W.findIn K (.ref CRule) "__lt__" = some (some (.ref f45))) (i45 : PySem.W.isFn K (.ref f45) = true)
    (l45 : K.lookup f45 = some ⟨oc45, od45, .func (PySem.W.fnOf "__lt__" "Rule.__lt__" (defArgs S_Rule__lt_) (defBody S_Rule__lt_) (defScope S_Rule__lt_) .none kV45 dc45 pm45 an45 cd45 ct45), sl45⟩) (c45 : PySem.W.codeIn K cd45 "Rule.__lt__" = true) (k45 : PySem.W.keepIn K (.ref f45) = true)
    (a46 : PySem.W.findIn K (.ref CRule) "__eq__" = some (some (.ref f46))) (i46 : PySem.W.isFn K (.ref f46) = true)
    (l46 : K.lookup f46 = some ⟨oc46, od46, .func (PySem.W.fnOf "__eq__" "Rule.__eq__" (defArgs S_Rule__eq_) (defBody S_Rule__eq_) (defScope S_Rule__eq_) .none kV46 dc46 pm46 an46 cd46 ct46), sl46⟩) (c46 : PySem.W.codeIn K cd46 "Rule.__eq__" = true) (k46 : PySem.W.keepIn K (.ref f46) = true)
    (a47 : PySem.W.nsIn K mainGlobals "_law_compared" = some (some (.ref f47))) (l47 : K.lookup f47 = some ⟨oc47, od47, .func (PySem.W.fnOf "_law_compared" "_law_compared" (defArgs S_law_compared) (defBody S_law_compared) (defScope S_law_compared) .none kV47 dc47 pm47 an47 cd47 ct47), sl47⟩) (c47 : PySem.W.codeIn K cd47 "_law_compared" = true) (k47 : PySem.W.keepIn K (.ref f47) = true)
    (a48 : PySem.W.nsIn K mainGlobals "_law_is_rule" = some (some (.ref f48))) (l48 : K.lookup f48 = some ⟨oc48, od48, .func (PySem.W.fnOf "_law_is_rule" "_law_is_rule" (defArgs S_law_is_rule) (defBody S_law_is_rule) (defScope S_law_is_rule) .none kV48 dc48 pm48 an48 cd48 ct48), sl48⟩) (c48 : PySem.W.codeIn K cd48 "_law_is_rule" = true) (k48 : PySem.W.keepIn K (.ref f48) = true)
    (a49 : PySem.W.nsIn K mainGlobals "_law_parts" = some (some (.ref f49))) (l49 : K.lookup f49 = some ⟨oc49, od49, .func (PySem.W.fnOf "_law_parts" "_law_parts" (defArgs S_law_parts) (defBody S_law_parts) (defScope S_law_parts) .none kV49 dc49 pm49 an49 cd49 ct49), sl49⟩) (c49 : PySem.W.codeIn K cd49 "_law_parts" = true) (k49 : PySem.W.keepIn K (.ref f49) = true)
    (a50 : PySem.W.nsIn K mainGlobals "_law_of_none" = some (some (.ref f50))) (l50 : K.lookup f50 = some ⟨oc50, od50, .func (PySem.W.fnOf "_law_of_none" "_law_of_none" (defArgs S_law_of_none) (defBody S_law_of_none) (defScope S_law_of_none) .none kV50 dc50 pm50 an50 cd50 ct50), sl50⟩) (c50 : PySem.W.codeIn K cd50 "_law_of_none" = true) (k50 : PySem.W.keepIn K (.ref f50) = true)
    (a51 : PySem.W.nsIn K mainGlobals "law" = some (some (.ref f51))) (l51 : K.lookup f51 = some ⟨oc51, od51, .func (PySem.W.fnOf "law" "law" (defArgs S_law) (defBody S_law) (defScope S_law) .none kV51 dc51 pm51 an51 cd51 ct51), sl51⟩) (c51 : PySem.W.codeIn K cd51 "law" = true) (k51 : PySem.W.keepIn K (.ref f51) = true)
    (z_bool : PySem.W.nsIn K mainGlobals "bool" = some none)
    (z_int : PySem.W.nsIn K mainGlobals "int" = some none)
    (z_isinstance : PySem.W.nsIn K mainGlobals "isinstance" = some none)
    (z_len : PySem.W.nsIn K mainGlobals "len" = some none)
    (z_list : PySem.W.nsIn K mainGlobals "list" = some none)
    (z_max : PySem.W.nsIn K mainGlobals "max" = some none)
    (z_min : PySem.W.nsIn K mainGlobals "min" = some none)
    (z_range : PySem.W.nsIn K mainGlobals "range" = some none)
    (z_str : PySem.W.nsIn K mainGlobals "str" = some none)
    (z_tuple : PySem.W.nsIn K mainGlobals "tuple" = some none)
    (az0 : PySem.W.nsIn K mainGlobals "ForkError" = some (some (.ref Cz0)))
    (xz0 : K.lookup Cz0 = some (PySem.excClassObj nmz0 qz0 Cz0 Nz0 bsz0 [.type "ValueError", .type "Exception", .type "BaseException", .type "object"] true snz0 subz0 abz0 colz0 ddz0 m0z0 m1z0 m2z0 m3z0 m5z0 "ValueError.__new__"))
    (ez0 : ExL.ecB K Cz0 ["reason"] = true)
    (iz0 : PySem.W.findIn K (.ref Cz0) "__init__" = some (some (.ref gz0)))
    (tgz0 : PySem.W.typeIn K (.ref gz0) = some (.type "function"))
    (lgz0 : K.lookup gz0 = some ⟨.type "function", odz0, .func (PySem.W.fnX "__init__" "ForkError.__init__" (defArgs M_ForkError) (defBody M_ForkError) (defScope M_ForkError) [("__class__", ccz0)] .none kVz0 dcz0 pmz0 anz0 (.ref cdz0) ctz0), slz0⟩)
    (cgz0 : PySem.W.codeIn K (.ref cdz0) "ForkError.__init__" = true)
    (lcz0 : K.lookup cdz0 = some ⟨cclz0, cddz0, .fields vsz0, ccsz0⟩)
    (hvz0 : vsz0[2]? = some (.str filez0 tfz0))
    (hfz0 : (l.prog.main.file == filez0) = true)
    (cez0 : K.lookup ccz0 = some ⟨clz0, cldz0, .cell (some (.ref Cz0)), cslz0⟩)
    (az1 : PySem.W.nsIn K mainGlobals "BadKin" = some (some (.ref Cz1)))
    (xz1 : K.lookup Cz1 = some (PySem.excClassObj nmz1 qz1 Cz1 Nz1 bsz1 [.ref Cz0, .type "ValueError", .type "Exception", .type "BaseException", .type "object"] true snz1 subz1 abz1 colz1 ddz1 m0z1 m1z1 m2z1 m3z1 m5z1 "ValueError.__new__"))
    (ez1 : ExL.ecB K Cz1 ["reason", "up", "down", "side"] = true)
    (iz1 : PySem.W.findIn K (.ref Cz1) "__init__" = some (some (.ref gz1)))
    (tgz1 : PySem.W.typeIn K (.ref gz1) = some (.type "function"))
    (lgz1 : K.lookup gz1 = some ⟨.type "function", odz1, .func (PySem.W.fnX "__init__" "BadKin.__init__" (defArgs M_BadKin) (defBody M_BadKin) (defScope M_BadKin) [("__class__", ccz1)] .none kVz1 dcz1 pmz1 anz1 (.ref cdz1) ctz1), slz1⟩)
    (cgz1 : PySem.W.codeIn K (.ref cdz1) "BadKin.__init__" = true)
    (lcz1 : K.lookup cdz1 = some ⟨cclz1, cddz1, .fields vsz1, ccsz1⟩)
    (hvz1 : vsz1[2]? = some (.str filez1 tfz1))
    (hfz1 : (l.prog.main.file == filez1) = true)
    (cez1 : K.lookup ccz1 = some ⟨clz1, cldz1, .cell (some (.ref Cz1)), cslz1⟩)
    (spz1 : PySem.W.ks_superIn K Cz1 Cz1 "__init__" = some (some (.ref gz0)))
    (s0z1 : PySem.W.ks_superIn K Cz1 Cz0 "__init__" = some (some (.builtin "ValueError.__init__")))
    (mrz1 : PySem.W.mroIn K Cz1 (.ref Cz0) = some true)
    (az2 : PySem.W.nsIn K mainGlobals "BadReach" = some (some (.ref Cz2)))
    (xz2 : K.lookup Cz2 = some (PySem.excClassObj nmz2 qz2 Cz2 Nz2 bsz2 [.ref Cz0, .type "ValueError", .type "Exception", .type "BaseException", .type "object"] true snz2 subz2 abz2 colz2 ddz2 m0z2 m1z2 m2z2 m3z2 m5z2 "ValueError.__new__"))
    (ez2 : ExL.ecB K Cz2 ["reason", "number"] = true)
    (iz2 : PySem.W.findIn K (.ref Cz2) "__init__" = some (some (.ref gz2)))
    (tgz2 : PySem.W.typeIn K (.ref gz2) = some (.type "function"))
    (lgz2 : K.lookup gz2 = some ⟨.type "function", odz2, .func (PySem.W.fnX "__init__" "BadReach.__init__" (defArgs M_BadReach) (defBody M_BadReach) (defScope M_BadReach) [("__class__", ccz2)] .none kVz2 dcz2 pmz2 anz2 (.ref cdz2) ctz2), slz2⟩)
    (cgz2 : PySem.W.codeIn K (.ref cdz2) "BadReach.__init__" = true)
    (lcz2 : K.lookup cdz2 = some ⟨cclz2, cddz2, .fields vsz2, ccsz2⟩)
    (hvz2 : vsz2[2]? = some (.str filez2 tfz2))
    (hfz2 : (l.prog.main.file == filez2) = true)
    (cez2 : K.lookup ccz2 = some ⟨clz2, cldz2, .cell (some (.ref Cz2)), cslz2⟩)
    (spz2 : PySem.W.ks_superIn K Cz2 Cz2 "__init__" = some (some (.ref gz0)))
    (s0z2 : PySem.W.ks_superIn K Cz2 Cz0 "__init__" = some (some (.builtin "ValueError.__init__")))
    (mrz2 : PySem.W.mroIn K Cz2 (.ref Cz0) = some true)
    (az3 : PySem.W.nsIn K mainGlobals "TooNarrow" = some (some (.ref Cz3)))
    (xz3 : K.lookup Cz3 = some (PySem.excClassObj nmz3 qz3 Cz3 Nz3 bsz3 [.ref Cz0, .type "ValueError", .type "Exception", .type "BaseException", .type "object"] true snz3 subz3 abz3 colz3 ddz3 m0z3 m1z3 m2z3 m3z3 m5z3 "ValueError.__new__"))
    (ez3 : ExL.ecB K Cz3 ["reason", "number"] = true)
    (iz3 : PySem.W.findIn K (.ref Cz3) "__init__" = some (some (.ref gz3)))
    (tgz3 : PySem.W.typeIn K (.ref gz3) = some (.type "function"))
    (lgz3 : K.lookup gz3 = some ⟨.type "function", odz3, .func (PySem.W.fnX "__init__" "TooNarrow.__init__" (defArgs M_TooNarrow) (defBody M_TooNarrow) (defScope M_TooNarrow) [("__class__", ccz3)] .none kVz3 dcz3 pmz3 anz3 (.ref cdz3) ctz3), slz3⟩)
    (cgz3 : PySem.W.codeIn K (.ref cdz3) "TooNarrow.__init__" = true)
    (lcz3 : K.lookup cdz3 = some ⟨cclz3, cddz3, .fields vsz3, ccsz3⟩)
    (hvz3 : vsz3[2]? = some (.str filez3 tfz3))
    (hfz3 : (l.prog.main.file == filez3) = true)
    (cez3 : K.lookup ccz3 = some ⟨clz3, cldz3, .cell (some (.ref Cz3)), cslz3⟩)
    (spz3 : PySem.W.ks_superIn K Cz3 Cz3 "__init__" = some (some (.ref gz0)))
    (s0z3 : PySem.W.ks_superIn K Cz3 Cz0 "__init__" = some (some (.builtin "ValueError.__init__")))
    (mrz3 : PySem.W.mroIn K Cz3 (.ref Cz0) = some true)
    (az4 : PySem.W.nsIn K mainGlobals "BadCell" = some (some (.ref Cz4)))
    (xz4 : K.lookup Cz4 = some (PySem.excClassObj nmz4 qz4 Cz4 Nz4 bsz4 [.ref Cz0, .type "ValueError", .type "Exception", .type "BaseException", .type "object"] true snz4 subz4 abz4 colz4 ddz4 m0z4 m1z4 m2z4 m3z4 m5z4 "ValueError.__new__"))
    (ez4 : ExL.ecB K Cz4 ["reason", "kin"] = true)
    (iz4 : PySem.W.findIn K (.ref Cz4) "__init__" = some (some (.ref gz4)))
    (tgz4 : PySem.W.typeIn K (.ref gz4) = some (.type "function"))
    (lgz4 : K.lookup gz4 = some ⟨.type "function", odz4, .func (PySem.W.fnX "__init__" "BadCell.__init__" (defArgs M_BadCell) (defBody M_BadCell) (defScope M_BadCell) [("__class__", ccz4)] .none kVz4 dcz4 pmz4 anz4 (.ref cdz4) ctz4), slz4⟩)
    (cgz4 : PySem.W.codeIn K (.ref cdz4) "BadCell.__init__" = true)
    (lcz4 : K.lookup cdz4 = some ⟨cclz4, cddz4, .fields vsz4, ccsz4⟩)
    (hvz4 : vsz4[2]? = some (.str filez4 tfz4))
    (hfz4 : (l.prog.main.file == filez4) = true)
    (cez4 : K.lookup ccz4 = some ⟨clz4, cldz4, .cell (some (.ref Cz4)), cslz4⟩)
    (spz4 : PySem.W.ks_superIn K Cz4 Cz4 "__init__" = some (some (.ref gz0)))
    (s0z4 : PySem.W.ks_superIn K Cz4 Cz0 "__init__" = some (some (.builtin "ValueError.__init__")))
    (mrz4 : PySem.W.mroIn K Cz4 (.ref Cz0) = some true)
    (az5 : PySem.W.nsIn K mainGlobals "BadText" = some (some (.ref Cz5)))
    (xz5 : K.lookup Cz5 = some (PySem.excClassObj nmz5 qz5 Cz5 Nz5 bsz5 [.ref Cz0, .type "ValueError", .type "Exception", .type "BaseException", .type "object"] true snz5 subz5 abz5 colz5 ddz5 m0z5 m1z5 m2z5 m3z5 m5z5 "ValueError.__new__"))
    (ez5 : ExL.ecB K Cz5 ["reason", "line"] = true)
    (iz5 : PySem.W.findIn K (.ref Cz5) "__init__" = some (some (.ref gz5)))
    (tgz5 : PySem.W.typeIn K (.ref gz5) = some (.type "function"))
    (lgz5 : K.lookup gz5 = some ⟨.type "function", odz5, .func (PySem.W.fnX "__init__" "BadText.__init__" (defArgs M_BadText) (defBody M_BadText) (defScope M_BadText) [("__class__", ccz5)] .none kVz5 dcz5 pmz5 anz5 (.ref cdz5) ctz5), slz5⟩)
    (cgz5 : PySem.W.codeIn K (.ref cdz5) "BadText.__init__" = true)
    (lcz5 : K.lookup cdz5 = some ⟨cclz5, cddz5, .fields vsz5, ccsz5⟩)
    (hvz5 : vsz5[2]? = some (.str filez5 tfz5))
    (hfz5 : (l.prog.main.file == filez5) = true)
    (cez5 : K.lookup ccz5 = some ⟨clz5, cldz5, .cell (some (.ref Cz5)), cslz5⟩)
    (spz5 : PySem.W.ks_superIn K Cz5 Cz5 "__init__" = some (some (.ref gz0)))
    (s0z5 : PySem.W.ks_superIn K Cz5 Cz0 "__init__" = some (some (.builtin "ValueError.__init__")))
    (mrz5 : PySem.W.mroIn K Cz5 (.ref Cz0) = some true)
    (ob_Kin : objB K CKin ["up", "down", "side", "far", "rank"] = true)
    (cv_Kin_MOST : PySem.W.findIn K (.ref CKin) "MOST" = some (some (.int 999 tcKinMOST)))
    (cg_Kin_MOST : PySem.W.specialIn K (.int 999 tcKinMOST) "__get__" = some none)
    (ob_Rule : objB K CRule ["_reach", "_let", "_rows"] = true)
    (gf_Rule : gtB K CRule = true)
    (nf_Rule : PySem.W.findIn K (.ref CRule) "__ne__" = some (some (.builtin "object.__ne__")))
    (no_Rule : PySem.W.subIn K (.ref CRule) (.type "object") = some true)
    (nq_Rule : PySem.W.noSeq K CRule = true)
    (sf_Rule : PySem.W.selfFirst K CRule = true)
    (cv_Rule_MOST_REACH : PySem.W.findIn K (.ref CRule) "MOST_REACH" = some (some (.int 4 tcRuleMOST_REACH)))
    (cg_Rule_MOST_REACH : PySem.W.specialIn K (.int 4 tcRuleMOST_REACH) "__get__" = some none)
    (of_Kin_mod : opB K CKin "mod" = true)
    (ks_Kin : (PySem.W.clsIn K CKin).isSome = true)
    (kt_Kin : PySem.W.typeIn K (.ref CKin) = some (.type "type"))
    (kr_Kin : PySem.W.subIn K (.ref CKin) (.ref CKin) = some true)
    (ks_Rule : (PySem.W.clsIn K CRule).isSome = true)
    (kt_Rule : PySem.W.typeIn K (.ref CRule) = some (.type "type"))
    (kr_Rule : PySem.W.subIn K (.ref CRule) (.ref CRule) = some true)
    (kn_Rule_Kin : PySem.W.subIn K (.ref CRule) (.ref CKin) = some false)
    (kn_Kin_Rule : PySem.W.subIn K (.ref CKin) (.ref CRule) = some false)
    (nb_Kin_sub : opNoB K CKin "sub" = true)
    (nd_Rule_Kin_sub : (CRule == CKin) = false)
    (m_SIDES : PySem.W.nsIn K mainGlobals "SIDES" = some (some (.ref p_SIDES)))
    (tq_SIDES : (∀ H, SqT K H p_SIDES ((["line", "elder", "younger"] : List Str).map V.str)) ∧ ∃ o, K.lookup p_SIDES = some o ∧ o.cls = .type "tuple" ∧ o.dict = none)
    (mmLEAST_REACH : PySem.W.nsIn K mainGlobals "LEAST_REACH" = some (some (.int 1 tmLEAST_REACH)))
    (mmMOST_REACH : PySem.W.nsIn K mainGlobals "MOST_REACH" = some (some (.int 4 tmMOST_REACH)))
    (zsup : PySem.W.nsIn K mainGlobals "super" = some none)
    (zopq : PySem.W.nsIn K cStatics "thirdparty.any" = some none)
    (ztop : (l.prog.main.scope.names.lookup ("super" : Str)).isSome = false) :
    ∃ fd : FuncData, (∀ (s : Shared) (v : Value), BindsTo s fd ⟨[v], []⟩ [("script", v)]) ∧ ∀ base : Heap, K.In base → base.Ns mainGlobals mg → FnOk l.prog w K mg base CX0 12 fa fd ["script"] (spLaw K) := by
  have e := hfa.symm.trans (PySem.W.mg_of X G a51)
  cases e
  have ebz0 := ExL.ecB_ok ez0
  have ecz0 : ExL.Ec K Cz0 := ExL.ec_mk ebz0 xz0 rfl
  have idz0 := ExL.idef_mk (ps := ["reason"]) lgz0 cgz0 lcz0 hvz0 hfz0 cez0 (ExL.ec_cls ecz0) ztop rfl ⟨_, rfl, rfl⟩ (fun s x us hl => match us, hl with | [_], _ => .of_eq (by first | rfl | with_unfolding_all rfl)) (by decide +kernel)
  have ebz1 := ExL.ecB_ok ez1
  have ecz1 : ExL.Ec K Cz1 := ExL.ec_mk ebz1 xz1 rfl
  have idz1 := ExL.idef_mk (ps := ["up", "down", "side"]) lgz1 cgz1 lcz1 hvz1 hfz1 cez1 (ExL.ec_cls ecz1) ztop rfl ⟨_, rfl, rfl⟩ (fun s x us hl => match us, hl with | [_, _, _], _ => .of_eq (by first | rfl | with_unfolding_all rfl)) (by decide +kernel)
  have erz1 : Err l.prog w K mg "BadKin" Cz1 2 3 (ExL.errF ["up", "down", "side"] "bad kin") := err_mk (PySem.W.mg_of X G az1) ecz1 ebz1 idz0 fm_ForkError mrz1 s0z1 idz1 fm_BadKin spz1 iz1 tgz1 zsup zopq (by decide)
  have ebz2 := ExL.ecB_ok ez2
  have ecz2 : ExL.Ec K Cz2 := ExL.ec_mk ebz2 xz2 rfl
  have idz2 := ExL.idef_mk (ps := ["number"]) lgz2 cgz2 lcz2 hvz2 hfz2 cez2 (ExL.ec_cls ecz2) ztop rfl ⟨_, rfl, rfl⟩ (fun s x us hl => match us, hl with | [_], _ => .of_eq (by first | rfl | with_unfolding_all rfl)) (by decide +kernel)
  have erz2 : Err l.prog w K mg "BadReach" Cz2 2 1 (ExL.errF ["number"] "bad reach") := err_mk (PySem.W.mg_of X G az2) ecz2 ebz2 idz0 fm_ForkError mrz2 s0z2 idz2 fm_BadReach spz2 iz2 tgz2 zsup zopq (by decide)
  have ebz3 := ExL.ecB_ok ez3
  have ecz3 : ExL.Ec K Cz3 := ExL.ec_mk ebz3 xz3 rfl
  have idz3 := ExL.idef_mk (ps := ["number"]) lgz3 cgz3 lcz3 hvz3 hfz3 cez3 (ExL.ec_cls ecz3) ztop rfl ⟨_, rfl, rfl⟩ (fun s x us hl => match us, hl with | [_], _ => .of_eq (by first | rfl | with_unfolding_all rfl)) (by decide +kernel)
  have erz3 : Err l.prog w K mg "TooNarrow" Cz3 2 1 (ExL.errF ["number"] "too narrow") := err_mk (PySem.W.mg_of X G az3) ecz3 ebz3 idz0 fm_ForkError mrz3 s0z3 idz3 fm_TooNarrow spz3 iz3 tgz3 zsup zopq (by decide)
  have ebz4 := ExL.ecB_ok ez4
  have ecz4 : ExL.Ec K Cz4 := ExL.ec_mk ebz4 xz4 rfl
  have idz4 := ExL.idef_mk (ps := ["kin"]) lgz4 cgz4 lcz4 hvz4 hfz4 cez4 (ExL.ec_cls ecz4) ztop rfl ⟨_, rfl, rfl⟩ (fun s x us hl => match us, hl with | [_], _ => .of_eq (by first | rfl | with_unfolding_all rfl)) (by decide +kernel)
  have erz4 : Err l.prog w K mg "BadCell" Cz4 2 1 (ExL.errF ["kin"] "bad cell") := err_mk (PySem.W.mg_of X G az4) ecz4 ebz4 idz0 fm_ForkError mrz4 s0z4 idz4 fm_BadCell spz4 iz4 tgz4 zsup zopq (by decide)
  have ebz5 := ExL.ecB_ok ez5
  have ecz5 : ExL.Ec K Cz5 := ExL.ec_mk ebz5 xz5 rfl
  have idz5 := ExL.idef_mk (ps := ["line"]) lgz5 cgz5 lcz5 hvz5 hfz5 cez5 (ExL.ec_cls ecz5) ztop rfl ⟨_, rfl, rfl⟩ (fun s x us hl => match us, hl with | [_], _ => .of_eq (by first | rfl | with_unfolding_all rfl)) (by decide +kernel)
  have erz5 : Err l.prog w K mg "BadText" Cz5 2 1 (ExL.errF ["line"] "bad text") := err_mk (PySem.W.mg_of X G az5) ecz5 ebz5 idz0 fm_ForkError mrz5 s0z5 idz5 fm_BadText spz5 iz5 tgz5 zsup zopq (by decide)
  have tt_SIDES := tq_SIDES.1
  have oo_Kin := objB_ok ob_Kin
  have oo_Rule := objB_ok ob_Rule
  have CF : Cf K ⟨Cz0, Cz1, Cz2, Cz3, Cz4, Cz5, CKin, CRule, p_SIDES⟩ := ⟨⟨tt_SIDES, ⟨tq_SIDES.2⟩⟩, oo_Kin, ⟨oo_Kin.cl, _, ⟨cv_Kin_MOST, ⟨_, rfl⟩, cg_Kin_MOST, by decide⟩⟩, oo_Rule, ⟨nf_Rule, no_Rule⟩, (gtB_ok gf_Rule), sf_Rule, nq_Rule, ⟨oo_Rule.cl, _, ⟨cv_Rule_MOST_REACH, ⟨_, rfl⟩, cg_Rule_MOST_REACH, by decide⟩⟩, (opB_ok of_Kin_mod), (PySem.W.kit_ref ks_Kin kt_Kin kr_Rule kn_Rule_Kin), (PySem.W.kit_ref ks_Rule kt_Rule kr_Kin kn_Kin_Rule), (opNoB_ok nb_Kin_sub), (ne_of_beq nd_Rule_Kin_sub), ebz1.xf, (ebz1.no _ (by decide)), (ebz1.no _ (by decide)), (ebz1.no _ (by decide)), (ebz1.no _ (by decide)), ebz2.xf, (ebz2.no _ (by decide)), (ebz2.no _ (by decide)), ebz3.xf, (ebz3.no _ (by decide)), (ebz3.no _ (by decide)), ebz4.xf, (ebz4.no _ (by decide)), (ebz4.no _ (by decide)), ebz5.xf, (ebz5.no _ (by decide)), (ebz5.no _ (by decide))⟩
  have T : Txt l.prog w K mg ⟨Cz0, Cz1, Cz2, Cz3, Cz4, Cz5, CKin, CRule, p_SIDES⟩ := ⟨PySem.W.mg_none_of X G z_bool, PySem.W.mg_none_of X G z_int, PySem.W.mg_none_of X G z_isinstance, PySem.W.mg_none_of X G z_len, PySem.W.mg_none_of X G z_list, PySem.W.mg_none_of X G z_max, PySem.W.mg_none_of X G z_min, PySem.W.mg_none_of X G z_range, PySem.W.mg_none_of X G z_str, PySem.W.mg_none_of X G z_tuple, ⟨_, PySem.W.mg_of X G mmLEAST_REACH, ⟨_, rfl⟩⟩, ⟨_, PySem.W.mg_of X G mmMOST_REACH, ⟨_, rfl⟩⟩, ⟨_, PySem.W.mg_of X G m_SIDES, rfl⟩, tt_SIDES, PySem.W.mg_of X G az0, PySem.W.mg_of X G az1, PySem.W.mg_of X G az2, PySem.W.mg_of X G az3, PySem.W.mg_of X G az4, PySem.W.mg_of X G az5, PySem.W.mg_of X G a_Kin, PySem.W.mg_of X G a_Rule, erz1, erz2, erz3, erz4, erz5, CF⟩
  obtain ⟨Z, hZ⟩ : ∃ Z : Cs, Z = ⟨Cz0, Cz1, Cz2, Cz3, Cz4, Cz5, CKin, CRule, p_SIDES⟩ := ⟨_, rfl⟩
  rw [← hZ] at T
  have F_law_start := fun_mk (st := S_law_start) l0 c0 k0
  have B_law_start := F_law_start.binds (ps := ["script"]) fun _ _ _ _ _ _ us hl => match us, hl with | [_], _ => rfl
  have F_law_draw := fun_mk (st := S_law_draw) l1 c1 k1
  have B_law_draw := F_law_draw.binds (ps := ["state", "many"]) fun _ _ _ _ _ _ us hl => match us, hl with | [_, _], _ => rfl
  have F_law_reach := fun_mk (st := S_law_reach) l2 c2 k2
  have B_law_reach := F_law_reach.binds (ps := ["state"]) fun _ _ _ _ _ _ us hl => match us, hl with | [_], _ => rfl
  have F_law_sides := fun_mk (st := S_law_sides) l3 c3 k3
  have B_law_sides := F_law_sides.binds (ps := ["up", "down"]) fun _ _ _ _ _ _ us hl => match us, hl with | [_, _], _ => rfl
  have F_law_cells := fun_mk (st := S_law_cells) l4 c4 k4
  have B_law_cells := F_law_cells.binds (ps := ["reach"]) fun _ _ _ _ _ _ us hl => match us, hl with | [_], _ => rfl
  have F_law_wanted := fun_mk (st := S_law_wanted) l5 c5 k5
  have B_law_wanted := F_law_wanted.binds (ps := ["mode", "digit", "up", "down", "side"]) fun _ _ _ _ _ _ us hl => match us, hl with | [_, _, _, _, _], _ => rfl
  have F_law_rule_cells := fun_mk (st := S_law_rule_cells) l6 c6 k6
  have B_law_rule_cells := F_law_rule_cells.binds (ps := ["state", "reach"]) fun _ _ _ _ _ _ us hl => match us, hl with | [_, _], _ => rfl
  have F_law_capped := fun_mk (st := S_law_capped) l7 c7 k7
  have B_law_capped := F_law_capped.binds (ps := ["parts", "reach"]) fun _ _ _ _ _ _ us hl => match us, hl with | [_, _], _ => rfl
  have F_law_near := fun_mk (st := S_law_near) l8 c8 k8
  have B_law_near := F_law_near.binds (ps := ["state", "left", "mine", "right"]) fun _ _ _ _ _ _ us hl => match us, hl with | [_, _, _, _], _ => rfl
  have F_demand_reach := fun_mk (st := S_demand_reach) l9 c9 k9
  have B_demand_reach := F_demand_reach.binds (ps := ["reach"]) fun _ _ _ _ _ _ us hl => match us, hl with | [_], _ => rfl
  have F_Kin_is_self := fun_mk (st := S_Kin_is_self) l10 c10 k10
  have ZC_Kin_is_self : Z.Kin = CKin := by rw [hZ]
  have B_Kin_is_self := F_Kin_is_self.binds (ps := ["self"]) fun _ _ _ _ _ _ us hl => match us, hl with | [_], _ => rfl
  have F_fits_side := fun_mk (st := S_fits_side) l11 c11 k11
  have B_fits_side := F_fits_side.binds (ps := ["up", "down", "side"]) fun _ _ _ _ _ _ us hl => match us, hl with | [_, _, _], _ => rfl
  have F_Kin__init_ := fun_mk (st := S_Kin__init_) l12 c12 k12
  have ZC_Kin__init_ : Z.Kin = CKin := by rw [hZ]
  have B_Kin__init_ := F_Kin__init_.binds (ps := ["self", "up", "down", "side"]) fun _ _ _ _ _ _ us hl => match us, hl with | [_, _, _, _], _ => rfl
  have F_capped := fun_mk (st := S_capped) l13 c13 k13
  have B_capped := F_capped.binds (ps := ["number", "reach"]) fun _ _ _ _ _ _ us hl => match us, hl with | [_, _], _ => rfl
  have F_Kin__mod_ := fun_mk (st := S_Kin__mod_) l14 c14 k14
  have ZC_Kin__mod_ : Z.Kin = CKin := by rw [hZ]
  have B_Kin__mod_ := F_Kin__mod_.binds (ps := ["self", "reach"]) fun _ _ _ _ _ _ us hl => match us, hl with | [_, _], _ => rfl
  have F_let_parts := fun_mk (st := S_let_parts) l15 c15 k15
  have B_let_parts := F_let_parts.binds (ps := ["reach", "kins"]) fun _ _ _ _ _ _ us hl => match us, hl with | [_, _], _ => rfl
  have F_all_cells := fun_mk (st := S_all_cells) l16 c16 k16
  have B_all_cells := F_all_cells.binds (ps := ["reach"]) fun _ _ _ _ _ _ us hl => match us, hl with | [_], _ => rfl
  have F_Rule_lets := fun_mk (st := S_Rule_lets) l17 c17 k17
  have ZC_Rule_lets : Z.Rule = CRule := by rw [hZ]
  have B_Rule_lets := F_Rule_lets.binds (ps := ["self", "up", "down", "side"]) fun _ _ _ _ _ _ us hl => match us, hl with | [_, _, _, _], _ => rfl
  have F_Rule__init_ := fun_mk (st := S_Rule__init_) l18 c18 k18
  have ZC_Rule__init_ : Z.Rule = CRule := by rw [hZ]
  have F_Rule__getitem_ := fun_mk (st := S_Rule__getitem_) l19 c19 k19
  have ZC_Rule__getitem_ : Z.Rule = CRule := by rw [hZ]
  have B_Rule__getitem_ := F_Rule__getitem_.binds (ps := ["self", "kin"]) fun _ _ _ _ _ _ us hl => match us, hl with | [_, _], _ => rfl
  have F_Kin_measure := fun_mk (st := S_Kin_measure) l20 c20 k20
  have ZC_Kin_measure : Z.Kin = CKin := by rw [hZ]
  have B_Kin_measure := F_Kin_measure.binds (ps := ["self"]) fun _ _ _ _ _ _ us hl => match us, hl with | [_], _ => rfl
  have F_Kin__lt_ := fun_mk (st := S_Kin__lt_) l21 c21 k21
  have ZC_Kin__lt_ : Z.Kin = CKin := by rw [hZ]
  have B_Kin__lt_ := F_Kin__lt_.binds (ps := ["self", "other"]) fun _ _ _ _ _ _ us hl => match us, hl with | [_, _], _ => rfl
  have F_Rule_put := fun_mk (st := S_Rule_put) l22 c22 k22
  have ZC_Rule_put : Z.Rule = CRule := by rw [hZ]
  have B_Rule_put := F_Rule_put.binds (ps := ["self", "cell"]) fun _ _ _ _ _ _ us hl => match us, hl with | [_, _], _ => rfl
  have F_Rule_take := fun_mk (st := S_Rule_take) l23 c23 k23
  have ZC_Rule_take : Z.Rule = CRule := by rw [hZ]
  have B_Rule_take := F_Rule_take.binds (ps := ["self", "other"]) fun _ _ _ _ _ _ us hl => match us, hl with | [_, _], _ => rfl
  have F_Rule_reach := fun_mk (st := S_Rule_reach) l24 c24 k24
  have ZC_Rule_reach : Z.Rule = CRule := by rw [hZ]
  have B_Rule_reach := F_Rule_reach.binds (ps := ["self"]) fun _ _ _ _ _ _ us hl => match us, hl with | [_], _ => rfl
  have F_joined := fun_mk (st := S_joined) l25 c25 k25
  have B_joined := F_joined.binds (ps := ["left", "right", "word"]) fun _ _ _ _ _ _ us hl => match us, hl with | [_, _, _], _ => rfl
  have F_combined := fun_mk (st := S_combined) l26 c26 k26
  have B_combined := F_combined.binds (ps := ["rule", "other", "word"]) fun _ _ _ _ _ _ us hl => match us, hl with | [_, _, _], _ => rfl
  have F_Rule__sub_ := fun_mk (st := S_Rule__sub_) l27 c27 k27
  have ZC_Rule__sub_ : Z.Rule = CRule := by rw [hZ]
  have B_Rule__sub_ := F_Rule__sub_.binds (ps := ["self", "other"]) fun _ _ _ _ _ _ us hl => match us, hl with | [_, _], _ => rfl
  have F_Rule__setitem_ := fun_mk (st := S_Rule__setitem_) l28 c28 k28
  have ZC_Rule__setitem_ : Z.Rule = CRule := by rw [hZ]
  have B_Rule__setitem_ := F_Rule__setitem_.binds (ps := ["self", "kin", "worth"]) fun _ _ _ _ _ _ us hl => match us, hl with | [_, _, _], _ => rfl
  have F_law_kin := fun_mk (st := S_law_kin) l29 c29 k29
  have B_law_kin := F_law_kin.binds (ps := ["parts"]) fun _ _ _ _ _ _ us hl => match us, hl with | [_], _ => rfl
  have F_law_rule := fun_mk (st := S_law_rule) l30 c30 k30
  have B_law_rule := F_law_rule.binds (ps := ["reach", "cells"]) fun _ _ _ _ _ _ us hl => match us, hl with | [_, _], _ => rfl
  have F_law_lets := fun_mk (st := S_law_lets) l31 c31 k31
  have B_law_lets := F_law_lets.binds (ps := ["reach", "cells", "parts"]) fun _ _ _ _ _ _ us hl => match us, hl with | [_, _, _], _ => rfl
  have F_law_lets_all := fun_mk (st := S_law_lets_all) l32 c32 k32
  have B_law_lets_all := F_law_lets_all.binds (ps := ["reach", "cells", "kins"]) fun _ _ _ _ _ _ us hl => match us, hl with | [_, _, _], _ => rfl
  have F_Rule_none := fun_mk (st := S_Rule_none) l33 c33 k33
  have ZC_Rule_none : Z.Rule = CRule := by rw [hZ]
  have B_Rule_none := F_Rule_none.binds (ps := ["cls", "reach"]) fun _ _ _ _ _ _ us hl => match us, hl with | [_, _], _ => rfl
  have F_Rule__ior_ := fun_mk (st := S_Rule__ior_) l34 c34 k34
  have ZC_Rule__ior_ : Z.Rule = CRule := by rw [hZ]
  have B_Rule__ior_ := F_Rule__ior_.binds (ps := ["self", "other"]) fun _ _ _ _ _ _ us hl => match us, hl with | [_, _], _ => rfl
  have F_union := fun_mk (st := S_union) l35 c35 k35
  have F_Rule_full := fun_mk (st := S_Rule_full) l36 c36 k36
  have ZC_Rule_full : Z.Rule = CRule := by rw [hZ]
  have B_Rule_full := F_Rule_full.binds (ps := ["cls", "reach"]) fun _ _ _ _ _ _ us hl => match us, hl with | [_, _], _ => rfl
  have F_Rule__iand_ := fun_mk (st := S_Rule__iand_) l37 c37 k37
  have ZC_Rule__iand_ : Z.Rule = CRule := by rw [hZ]
  have B_Rule__iand_ := F_Rule__iand_.binds (ps := ["self", "other"]) fun _ _ _ _ _ _ us hl => match us, hl with | [_, _], _ => rfl
  have F_cutR := fun_mk (st := S_cutR) l38 c38 k38
  have F_law_any := fun_mk (st := S_law_any) l39 c39 k39
  have B_law_any := F_law_any.binds (ps := ["rows"]) fun _ _ _ _ _ _ us hl => match us, hl with | [_], _ => rfl
  have F_law_all := fun_mk (st := S_law_all) l40 c40 k40
  have B_law_all := F_law_all.binds (ps := ["rows"]) fun _ _ _ _ _ _ us hl => match us, hl with | [_], _ => rfl
  have F_law_is_number := fun_mk (st := S_law_is_number) l41 c41 k41
  have B_law_is_number := F_law_is_number.binds (ps := ["actual"]) fun _ _ _ _ _ _ us hl => match us, hl with | [_], _ => rfl
  have F_law_same := fun_mk (st := S_law_same) l42 c42 k42
  have B_law_same := F_law_same.binds (ps := ["actual", "expected"]) fun _ _ _ _ _ _ us hl => match us, hl with | [_, _], _ => rfl
  have F_Rule__len_ := fun_mk (st := S_Rule__len_) l43 c43 k43
  have ZC_Rule__len_ : Z.Rule = CRule := by rw [hZ]
  have B_Rule__len_ := F_Rule__len_.binds (ps := ["self"]) fun _ _ _ _ _ _ us hl => match us, hl with | [_], _ => rfl
  have F_Rule__le_ := fun_mk (st := S_Rule__le_) l44 c44 k44
  have ZC_Rule__le_ : Z.Rule = CRule := by rw [hZ]
  have B_Rule__le_ := F_Rule__le_.binds (ps := ["self", "other"]) fun _ _ _ _ _ _ us hl => match us, hl with | [_, _], _ => rfl
  have F_Rule__lt_ := fun_mk (st := S_Rule__lt_) l45 c45 k45
  have ZC_Rule__lt_ : Z.Rule = CRule := by rw [hZ]
  have B_Rule__lt_ := F_Rule__lt_.binds (ps := ["self", "other"]) fun _ _ _ _ _ _ us hl => match us, hl with | [_, _], _ => rfl
  have F_Rule__eq_ := fun_mk (st := S_Rule__eq_) l46 c46 k46
  have ZC_Rule__eq_ : Z.Rule = CRule := by rw [hZ]
  have B_Rule__eq_ := F_Rule__eq_.binds (ps := ["self", "other"]) fun _ _ _ _ _ _ us hl => match us, hl with | [_, _], _ => rfl
  have F_law_compared := fun_mk (st := S_law_compared) l47 c47 k47
  have B_law_compared := F_law_compared.binds (ps := ["rule", "other", "one", "two"]) fun _ _ _ _ _ _ us hl => match us, hl with | [_, _, _, _], _ => rfl
  have F_law_is_rule := fun_mk (st := S_law_is_rule) l48 c48 k48
  have B_law_is_rule := F_law_is_rule.binds (ps := ["rule", "kins", "due"]) fun _ _ _ _ _ _ us hl => match us, hl with | [_, _, _], _ => rfl
  have F_law_parts := fun_mk (st := S_law_parts) l49 c49 k49
  have B_law_parts := F_law_parts.binds (ps := ["state", "most"]) fun _ _ _ _ _ _ us hl => match us, hl with | [_, _], _ => rfl
  have F_law_of_none := fun_mk (st := S_law_of_none) l50 c50 k50
  have B_law_of_none := F_law_of_none.binds (ps := ["kins"]) fun _ _ _ _ _ _ us hl => match us, hl with | [_], _ => rfl
  have F_law := fun_mk (st := S_law) l51 c51 k51
  have B_law := F_law.binds (ps := ["script"]) fun _ _ _ _ _ _ us hl => match us, hl with | [_], _ => rfl
  refine ⟨PySem.W.fnOf "law" "law" (defArgs S_law) (defBody S_law) (defScope S_law) .none kV51 dc51 pm51 an51 cd51 ct51, fun s v => .of_eq rfl, fun base _ _ => ?_⟩
  have G_law_start : Cal l.prog w K mg base CX0 "_law_start" 1 ["script"] (spStart K) := ⟨_, _, ok_law_start F_law_start T , PySem.W.mg_of X G a0, F_law_start.kp, B_law_start⟩
  have G_law_draw : Cal l.prog w K mg base CX0 "_law_draw" 1 ["state", "many"] (spDraw) := ⟨_, _, ok_law_draw F_law_draw T , PySem.W.mg_of X G a1, F_law_draw.kp, B_law_draw⟩
  have G_law_reach : Cal l.prog w K mg base CX0 "_law_reach" 2 ["state"] (spLReach) := ⟨_, _, ok_law_reach F_law_reach T G_law_draw, PySem.W.mg_of X G a2, F_law_reach.kp, B_law_reach⟩
  have G_law_sides : Cal l.prog w K mg base CX0 "_law_sides" 1 ["up", "down"] (spSides) := ⟨_, _, ok_law_sides F_law_sides T , PySem.W.mg_of X G a3, F_law_sides.kp, B_law_sides⟩
  have G_law_cells : Cal l.prog w K mg base CX0 "_law_cells" 2 ["reach"] (spCells) := ⟨_, _, ok_law_cells F_law_cells T G_law_sides, PySem.W.mg_of X G a4, F_law_cells.kp, B_law_cells⟩
  have G_law_wanted : Cal l.prog w K mg base CX0 "_law_wanted" 1 ["mode", "digit", "up", "down", "side"] (spWanted) := ⟨_, _, ok_law_wanted F_law_wanted T , PySem.W.mg_of X G a5, F_law_wanted.kp, B_law_wanted⟩
  have G_law_rule_cells : Cal l.prog w K mg base CX0 "_law_rule_cells" 3 ["state", "reach"] (spRuleCells) := ⟨_, _, ok_law_rule_cells F_law_rule_cells T G_law_draw G_law_cells G_law_wanted, PySem.W.mg_of X G a6, F_law_rule_cells.kp, B_law_rule_cells⟩
  have G_law_capped : Cal l.prog w K mg base CX0 "_law_capped" 1 ["parts", "reach"] (spLCapped K) := ⟨_, _, ok_law_capped F_law_capped T , PySem.W.mg_of X G a7, F_law_capped.kp, B_law_capped⟩
  have G_law_near : Cal l.prog w K mg base CX0 "_law_near" 4 ["state", "left", "mine", "right"] (spNear K) := ⟨_, _, ok_law_near F_law_near T G_law_draw G_law_cells G_law_rule_cells G_law_capped, PySem.W.mg_of X G a8, F_law_near.kp, B_law_near⟩
  have G_demand_reach : Cal l.prog w K mg base (L2N.CX l.prog w) "demand_reach" 1 ["reach"] (spDemR Z) := ⟨_, _, ok_demand_reach F_demand_reach T , PySem.W.mg_of X G a9, F_demand_reach.kp, B_demand_reach⟩
  have G_Kin_is_self : CalP l.prog w K mg base Z.Kin "is_self" 1 (spIsSelf Z) := ⟨by rw [ZC_Kin_is_self]; exact oo_Kin.cl, _, _, _, ok_Kin_is_self F_Kin_is_self T , by rw [ZC_Kin_is_self]; exact ⟨a10, pg10, pt10, ⟨_, pr10⟩⟩, B_Kin_is_self⟩
  have G_fits_side : Cal l.prog w K mg base CX0 "fits_side" 1 ["up", "down", "side"] (spFits) := ⟨_, _, ok_fits_side F_fits_side T , PySem.W.mg_of X G a11, F_fits_side.kp, B_fits_side⟩
  have G_Kin__init_ : CalK l.prog w K mg base (L2N.CX l.prog w) "Kin" Z.Kin 2 ["self", "up", "down", "side"] (spKin K Z) := ⟨by rw [ZC_Kin__init_]; exact PySem.W.mg_of X G a_Kin, _, _, ok_Kin__init_ F_Kin__init_ T G_fits_side, by rw [ZC_Kin__init_]; exact ⟨oo_Kin.mkO, a12, i12, oo_Kin.kpO⟩, B_Kin__init_⟩
  have G_capped : Cal l.prog w K mg base CX0 "capped" 1 ["number", "reach"] (spCapped) := ⟨_, _, ok_capped F_capped T , PySem.W.mg_of X G a13, F_capped.kp, B_capped⟩
  have G_Kin__mod_ : CalM l.prog w K mg base (L2N.CX l.prog w) Z.Kin "__mod__" 4 ["self", "reach"] (spMod K Z) := ⟨by rw [ZC_Kin__mod_]; exact oo_Kin.cl, _, _, ok_Kin__mod_ F_Kin__mod_ T G_Kin__init_ G_capped, by rw [ZC_Kin__mod_]; exact ⟨a14, i14, k14⟩, B_Kin__mod_⟩
  have G_let_parts : Cal l.prog w K mg base (L2N.CX l.prog w) "let_parts" 5 ["reach", "kins"] (spLetParts Z) := ⟨_, _, ok_let_parts F_let_parts T G_Kin_is_self G_Kin__mod_, PySem.W.mg_of X G a15, F_let_parts.kp, B_let_parts⟩
  have G_all_cells : Cal l.prog w K mg base (L2N.CX l.prog w) "all_cells" 4 ["reach"] (spAllCells Z) := ⟨_, _, ok_all_cells F_all_cells T G_demand_reach G_Kin__init_, PySem.W.mg_of X G a16, F_all_cells.kp, B_all_cells⟩
  have G_Rule_lets : CalM l.prog w K mg base CX0 Z.Rule "lets" 2 ["self", "up", "down", "side"] (spLets Z) := ⟨by rw [ZC_Rule_lets]; exact oo_Rule.cl, _, _, ok_Rule_lets F_Rule_lets T G_capped, by rw [ZC_Rule_lets]; exact ⟨a17, i17, k17⟩, B_Rule_lets⟩
  have G_Rule__init_ : CalKR l.prog w K mg base (L2N.CX l.prog w) "Rule" Z.Rule 6 (starSp 2 (spRule Z)) := ⟨by rw [ZC_Rule__init_]; exact PySem.W.mg_of X G a_Rule, _, ok_Rule__init_ F_Rule__init_ T G_demand_reach G_let_parts G_all_cells G_Rule_lets, by rw [ZC_Rule__init_]; exact ⟨oo_Rule.mkO, a18, i18, oo_Rule.kpO⟩⟩
  have G_Rule__getitem_ : CalG l.prog w K mg base CX0 Z.Rule "__getitem__" 3 ["self", "kin"] (spRGet Z) := ⟨by rw [ZC_Rule__getitem_]; exact oo_Rule.cl, _, _, ok_Rule__getitem_ F_Rule__getitem_ T G_Rule_lets, by rw [ZC_Rule__getitem_]; exact ⟨a19, i19, k19⟩, B_Rule__getitem_, fnIn_of F_Rule__getitem_⟩
  have G_Kin_measure : CalM l.prog w K mg base CX0 Z.Kin "measure" 1 ["self"] (spMeasure Z) := ⟨by rw [ZC_Kin_measure]; exact oo_Kin.cl, _, _, ok_Kin_measure F_Kin_measure T , by rw [ZC_Kin_measure]; exact ⟨a20, i20, k20⟩, B_Kin_measure⟩
  have G_Kin__lt_ : CalM l.prog w K mg base CX0 Z.Kin "__lt__" 2 ["self", "other"] (spKinLt Z) := ⟨by rw [ZC_Kin__lt_]; exact oo_Kin.cl, _, _, ok_Kin__lt_ F_Kin__lt_ T G_Kin_measure, by rw [ZC_Kin__lt_]; exact ⟨a21, i21, k21⟩, B_Kin__lt_⟩
  have G_Rule_put : CalM l.prog w K mg base CX0 Z.Rule "put" 5 ["self", "cell"] (spPut Z) := ⟨by rw [ZC_Rule_put]; exact oo_Rule.cl, _, _, ok_Rule_put F_Rule_put T G_Rule__getitem_ G_Kin__lt_, by rw [ZC_Rule_put]; exact ⟨a22, i22, k22⟩, B_Rule_put⟩
  have G_Rule_take : CalM l.prog w K mg base CX0 Z.Rule "take" 1 ["self", "other"] (spTake Z) := ⟨by rw [ZC_Rule_take]; exact oo_Rule.cl, _, _, ok_Rule_take F_Rule_take T , by rw [ZC_Rule_take]; exact ⟨a23, i23, k23⟩, B_Rule_take⟩
  have G_Rule_reach : CalP l.prog w K mg base Z.Rule "reach" 1 (spReach Z) := ⟨by rw [ZC_Rule_reach]; exact oo_Rule.cl, _, _, _, ok_Rule_reach F_Rule_reach T , by rw [ZC_Rule_reach]; exact ⟨a24, pg24, pt24, ⟨_, pr24⟩⟩, B_Rule_reach⟩
  have G_joined : Cal l.prog w K mg base CX0 "joined" 1 ["left", "right", "word"] (spJoined) := ⟨_, _, ok_joined F_joined T , PySem.W.mg_of X G a25, F_joined.kp, B_joined⟩
  have G_combined : Cal l.prog w K mg base (L2N.CX l.prog w) "combined" 8 ["rule", "other", "word"] (spCombined Z) := ⟨_, _, ok_combined F_combined T G_Rule_reach G_Rule__init_ G_all_cells G_joined G_Rule__getitem_, PySem.W.mg_of X G a26, F_combined.kp, B_combined⟩
  have G_Rule__sub_ : CalM l.prog w K mg base (L2N.CX l.prog w) Z.Rule "__sub__" 9 ["self", "other"] (spRSub Z) := ⟨by rw [ZC_Rule__sub_]; exact oo_Rule.cl, _, _, ok_Rule__sub_ F_Rule__sub_ T G_combined, by rw [ZC_Rule__sub_]; exact ⟨a27, i27, k27⟩, B_Rule__sub_⟩
  have G_Rule__setitem_ : CalM l.prog w K mg base (L2N.CX l.prog w) Z.Rule "__setitem__" 10 ["self", "kin", "worth"] (spRSet Z) := ⟨by rw [ZC_Rule__setitem_]; exact oo_Rule.cl, _, _, ok_Rule__setitem_ F_Rule__setitem_ T G_Kin_is_self G_Rule_put G_Rule_take G_Kin__mod_ G_Rule__sub_, by rw [ZC_Rule__setitem_]; exact ⟨a28, i28, k28⟩, B_Rule__setitem_⟩
  have G_law_kin : Cal l.prog w K mg base CX0 "_law_kin" 4 ["parts"] (spMkKin K Z) := ⟨_, _, ok_law_kin F_law_kin T G_Kin__init_, PySem.W.mg_of X G a29, F_law_kin.kp, B_law_kin⟩
  have G_law_rule : Cal l.prog w K mg base CX0 "_law_rule" 11 ["reach", "cells"] (spLRule K Z) := ⟨_, _, ok_law_rule F_law_rule T G_Rule__init_ G_Rule__setitem_ G_law_kin, PySem.W.mg_of X G a30, F_law_rule.kp, B_law_rule⟩
  have G_law_lets : Cal l.prog w K mg base CX0 "_law_lets" 2 ["reach", "cells", "parts"] (spLLets K) := ⟨_, _, ok_law_lets F_law_lets T G_law_capped, PySem.W.mg_of X G a31, F_law_lets.kp, B_law_lets⟩
  have G_law_lets_all : Cal l.prog w K mg base CX0 "_law_lets_all" 3 ["reach", "cells", "kins"] (spLetsAll K) := ⟨_, _, ok_law_lets_all F_law_lets_all T G_law_lets, PySem.W.mg_of X G a32, F_law_lets_all.kp, B_law_lets_all⟩
  have G_Rule_none : CalC l.prog w K mg base (L2N.CX l.prog w) Z.Rule "none" 8 ["cls", "reach"] (spNoneR Z) := ⟨by rw [ZC_Rule_none]; exact ⟨cr33, cq33⟩, _, _, _, ok_Rule_none F_Rule_none T G_Rule__init_, by rw [ZC_Rule_none]; exact ⟨cls_find a33 am33 pt33 pg33, ⟨_, pr33⟩, fi33⟩, B_Rule_none⟩
  have G_Rule__ior_ : CalM l.prog w K mg base (L2N.CX l.prog w) Z.Rule "__ior__" 9 ["self", "other"] (spRIor Z) := ⟨by rw [ZC_Rule__ior_]; exact oo_Rule.cl, _, _, ok_Rule__ior_ F_Rule__ior_ T G_Rule_take G_combined, by rw [ZC_Rule__ior_]; exact ⟨a34, i34, k34⟩, B_Rule__ior_⟩
  have G_union : CalV l.prog w K mg base CX0 "union" 10 (starSp 0 (spUnion Z)) := ⟨⟨_, ok_union F_union T G_Rule_none G_Rule__ior_, PySem.W.mg_of X G a35, F_union.kp⟩⟩
  have G_Rule_full : CalC l.prog w K mg base (L2N.CX l.prog w) Z.Rule "full" 8 ["cls", "reach"] (spFullR Z) := ⟨by rw [ZC_Rule_full]; exact ⟨cr36, cq36⟩, _, _, _, ok_Rule_full F_Rule_full T G_all_cells G_Rule__init_, by rw [ZC_Rule_full]; exact ⟨cls_find a36 am36 pt36 pg36, ⟨_, pr36⟩, fi36⟩, B_Rule_full⟩
  have G_Rule__iand_ : CalM l.prog w K mg base (L2N.CX l.prog w) Z.Rule "__iand__" 9 ["self", "other"] (spRIand Z) := ⟨by rw [ZC_Rule__iand_]; exact oo_Rule.cl, _, _, ok_Rule__iand_ F_Rule__iand_ T G_Rule_take G_combined, by rw [ZC_Rule__iand_]; exact ⟨a37, i37, k37⟩, B_Rule__iand_⟩
  have G_cutR : CalV l.prog w K mg base CX0 "cut" 10 (starSp 0 (spCut Z)) := ⟨⟨_, ok_cutR F_cutR T G_Rule_full G_Rule__iand_, PySem.W.mg_of X G a38, F_cutR.kp⟩⟩
  have G_law_any : Cal l.prog w K mg base CX0 "_law_any" 1 ["rows"] (spAny K) := ⟨_, _, ok_law_any F_law_any T , PySem.W.mg_of X G a39, F_law_any.kp, B_law_any⟩
  have G_law_all : Cal l.prog w K mg base CX0 "_law_all" 1 ["rows"] (spAll K) := ⟨_, _, ok_law_all F_law_all T , PySem.W.mg_of X G a40, F_law_all.kp, B_law_all⟩
  have G_law_is_number : Cal l.prog w K mg base CX0 "_law_is_number" 1 ["actual"] (spIsNum) := ⟨_, _, ok_law_is_number F_law_is_number T , PySem.W.mg_of X G a41, F_law_is_number.kp, B_law_is_number⟩
  have G_law_same : Cal l.prog w K mg base CX0 "_law_same" 5 ["actual", "expected"] (spSm K 3) := ⟨_, _, ok_law_same F_law_same T (PySem.W.mg_of X G a42) B_law_same G_law_is_number 3, PySem.W.mg_of X G a42, F_law_same.kp, B_law_same⟩
  have G_Rule__len_ : CalM l.prog w K mg base CX0 Z.Rule "__len__" 1 ["self"] (spRLen Z) := ⟨by rw [ZC_Rule__len_]; exact oo_Rule.cl, _, _, ok_Rule__len_ F_Rule__len_ T , by rw [ZC_Rule__len_]; exact ⟨a43, i43, k43⟩, B_Rule__len_⟩
  have G_Rule__le_ : CalM l.prog w K mg base CX0 Z.Rule "__le__" 9 ["self", "other"] (spRLe Z) := ⟨by rw [ZC_Rule__le_]; exact oo_Rule.cl, _, _, ok_Rule__le_ F_Rule__le_ T G_Rule__len_ G_combined, by rw [ZC_Rule__le_]; exact ⟨a44, i44, k44⟩, B_Rule__le_⟩
  have G_Rule__lt_ : CalM l.prog w K mg base CX0 Z.Rule "__lt__" 9 ["self", "other"] (spRLt Z) := ⟨by rw [ZC_Rule__lt_]; exact oo_Rule.cl, _, _, ok_Rule__lt_ F_Rule__lt_ T G_Rule__len_ G_combined, by rw [ZC_Rule__lt_]; exact ⟨a45, i45, k45⟩, B_Rule__lt_⟩
  have G_Rule__eq_ : CalM l.prog w K mg base CX0 Z.Rule "__eq__" 9 ["self", "other"] (spREq Z) := ⟨by rw [ZC_Rule__eq_]; exact oo_Rule.cl, _, _, ok_Rule__eq_ F_Rule__eq_ T G_Rule__len_ G_combined, by rw [ZC_Rule__eq_]; exact ⟨a46, i46, k46⟩, B_Rule__eq_⟩
  have G_law_compared : Cal l.prog w K mg base CX0 "_law_compared" 11 ["rule", "other", "one", "two"] (spCompared K Z) := ⟨_, _, ok_law_compared F_law_compared T G_law_same G_Rule__le_ G_Rule__lt_ G_Rule__eq_, PySem.W.mg_of X G a47, F_law_compared.kp, B_law_compared⟩
  have G_law_is_rule : Cal l.prog w K mg base CX0 "_law_is_rule" 6 ["rule", "kins", "due"] (spIsRule K Z) := ⟨_, _, ok_law_is_rule F_law_is_rule T G_law_same G_Rule_lets, PySem.W.mg_of X G a48, F_law_is_rule.kp, B_law_is_rule⟩
  have G_law_parts : Cal l.prog w K mg base CX0 "_law_parts" 2 ["state", "most"] (spParts) := ⟨_, _, ok_law_parts F_law_parts T G_law_draw G_law_sides, PySem.W.mg_of X G a49, F_law_parts.kp, B_law_parts⟩
  have G_law_of_none : Cal l.prog w K mg base CX0 "_law_of_none" 11 ["kins"] (spOfNone K Z) := ⟨_, _, ok_law_of_none F_law_of_none T G_law_same G_law_is_rule G_Rule_reach G_Rule__len_ G_union G_cutR, PySem.W.mg_of X G a50, F_law_of_none.kp, B_law_of_none⟩
  exact ok_law F_law T G_law_start G_law_reach G_law_rule_cells G_law_near G_law_rule G_law_lets_all G_union G_cutR G_law_any G_law_all G_law_same G_law_cells G_law_compared G_law_is_rule G_law_parts G_law_of_none G_Rule_reach
theorem walk {l : PySem.W.OpenLaw} {q : Program} {loose : List Str} {XP : (Str → Option Value) → Heap → Prop} {YP : World → Heap → Prop} {d : DefRec} {K : Params → PySem.W.Frag} (hn : l.most = some 63) (hdf : d.params.defaults = [])
    (hY : ∀ (w : World) (h : Heap), YP w h → (K w.params).In h)
    (F : ∀ (w : World) (mg : Str → Option Value) (fa : Addr) (h : Heap), (K w.params).In h → h.Ns mainGlobals mg → mg d.name = some (.ref fa) →
      ∃ fd : FuncData, (∀ (s : Shared) (u : Value), BindsTo s fd ⟨[u], []⟩ [("script", u)]) ∧ ∀ base : Heap, (K w.params).In base → base.Ns mainGlobals mg → FnOk l.prog w (K w.params) mg base CX0 12 fa fd ["script"] (spLaw (K w.params))) :
    PySem.W.WalkO q loose XP YP l.row.toRowW d [] (fun f vs => PySem.call f vs) :=
  L2.walk_of (n := 63) (k := 12) (x := "script") (CX := fun _ => CX0) (sp := fun w => spLaw (K w.params)) hn (by decide) hdf ⟨rfl, by decide, by decide⟩ hY F (fun _ _ a ns hl _ hS => ⟨a, ns, rfl, hS, hl, fun _ => rfl⟩) fun _ _ _ _ _ z => z
theorem all2 {w : World} {K : PySem.W.Frag} {h : Heap} {mg : Str → Option Value} {fa : Addr} (X : K.In h) (G : h.Ns mainGlobals mg) (hfa : mg "law" = some (.ref fa)) (c : Hd.SaysH fs fns vls tbs w K) :
    ∃ fd : FuncData, (∀ (s : Shared) (v : Value), BindsTo s fd ⟨[v], []⟩ [("script", v)]) ∧ ∀ base : Heap, K.In base → base.Ns mainGlobals mg → FnOk (PySem.Challenge.rw_promisesowned_k17_rules_by_what_they_let).prog w K mg base CX0 12 fa fd ["script"] (spLaw K) := by
  obtain ⟨oc0, od0, kV0, dc0, pm0, an0, cd0, ct0, sl0, l0, c0⟩ := Hd.fun_ok (c.fn 0 (a := fun K => (Hd.ga K "_law_start")) (v := Hd.fvOf "_law_start" "_law_start" S_law_start) rfl rfl) (c.fact 0 (d := fd0) rfl)
  obtain ⟨oc1, od1, kV1, dc1, pm1, an1, cd1, ct1, sl1, l1, c1⟩ := Hd.fun_ok (c.fn 1 (a := fun K => (Hd.ga K "_law_draw")) (v := Hd.fvOf "_law_draw" "_law_draw" S_law_draw) rfl rfl) (c.fact 1 (d := fd1) rfl)
  obtain ⟨oc2, od2, kV2, dc2, pm2, an2, cd2, ct2, sl2, l2, c2⟩ := Hd.fun_ok (c.fn 2 (a := fun K => (Hd.ga K "_law_reach")) (v := Hd.fvOf "_law_reach" "_law_reach" S_law_reach) rfl rfl) (c.fact 2 (d := fd2) rfl)
  obtain ⟨oc3, od3, kV3, dc3, pm3, an3, cd3, ct3, sl3, l3, c3⟩ := Hd.fun_ok (c.fn 3 (a := fun K => (Hd.ga K "_law_sides")) (v := Hd.fvOf "_law_sides" "_law_sides" S_law_sides) rfl rfl) (c.fact 3 (d := fd3) rfl)
  obtain ⟨oc4, od4, kV4, dc4, pm4, an4, cd4, ct4, sl4, l4, c4⟩ := Hd.fun_ok (c.fn 4 (a := fun K => (Hd.ga K "_law_cells")) (v := Hd.fvOf "_law_cells" "_law_cells" S_law_cells) rfl rfl) (c.fact 4 (d := fd4) rfl)
  obtain ⟨oc5, od5, kV5, dc5, pm5, an5, cd5, ct5, sl5, l5, c5⟩ := Hd.fun_ok (c.fn 5 (a := fun K => (Hd.ga K "_law_wanted")) (v := Hd.fvOf "_law_wanted" "_law_wanted" S_law_wanted) rfl rfl) (c.fact 5 (d := fd5) rfl)
  obtain ⟨oc6, od6, kV6, dc6, pm6, an6, cd6, ct6, sl6, l6, c6⟩ := Hd.fun_ok (c.fn 6 (a := fun K => (Hd.ga K "_law_rule_cells")) (v := Hd.fvOf "_law_rule_cells" "_law_rule_cells" S_law_rule_cells) rfl rfl) (c.fact 6 (d := fd6) rfl)
  obtain ⟨oc7, od7, kV7, dc7, pm7, an7, cd7, ct7, sl7, l7, c7⟩ := Hd.fun_ok (c.fn 7 (a := fun K => (Hd.ga K "_law_capped")) (v := Hd.fvOf "_law_capped" "_law_capped" S_law_capped) rfl rfl) (c.fact 7 (d := fd7) rfl)
  obtain ⟨oc8, od8, kV8, dc8, pm8, an8, cd8, ct8, sl8, l8, c8⟩ := Hd.fun_ok (c.fn 8 (a := fun K => (Hd.ga K "_law_near")) (v := Hd.fvOf "_law_near" "_law_near" S_law_near) rfl rfl) (c.fact 8 (d := fd8) rfl)
  obtain ⟨oc9, od9, kV9, dc9, pm9, an9, cd9, ct9, sl9, l9, c9⟩ := Hd.fun_ok (c.fn 9 (a := fun K => (Hd.ga K "demand_reach")) (v := Hd.fvOf "demand_reach" "demand_reach" S_demand_reach) rfl rfl) (c.fact 9 (d := fd9) rfl)
  obtain ⟨oc10, od10, kV10, dc10, pm10, an10, cd10, ct10, sl10, l10, c10⟩ := Hd.fun_ok (c.fn 10 (a := fun K => (Hd.rcA K (Hd.ma K "Kin" "is_self") "property")) (v := Hd.fvOf "is_self" "Kin.is_self" S_Kin_is_self) rfl rfl) (c.fact 10 (d := fd10) rfl)
  obtain ⟨oc11, od11, kV11, dc11, pm11, an11, cd11, ct11, sl11, l11, c11⟩ := Hd.fun_ok (c.fn 11 (a := fun K => (Hd.ga K "fits_side")) (v := Hd.fvOf "fits_side" "fits_side" S_fits_side) rfl rfl) (c.fact 11 (d := fd11) rfl)
  obtain ⟨oc12, od12, kV12, dc12, pm12, an12, cd12, ct12, sl12, l12, c12⟩ := Hd.fun_ok (c.fn 12 (a := fun K => (Hd.ma K "Kin" "__init__")) (v := Hd.fvOf "__init__" "Kin.__init__" S_Kin__init_) rfl rfl) (c.fact 12 (d := fd12) rfl)
  obtain ⟨oc13, od13, kV13, dc13, pm13, an13, cd13, ct13, sl13, l13, c13⟩ := Hd.fun_ok (c.fn 13 (a := fun K => (Hd.ga K "capped")) (v := Hd.fvOf "capped" "capped" S_capped) rfl rfl) (c.fact 13 (d := fd13) rfl)
  obtain ⟨oc14, od14, kV14, dc14, pm14, an14, cd14, ct14, sl14, l14, c14⟩ := Hd.fun_ok (c.fn 14 (a := fun K => (Hd.ma K "Kin" "__mod__")) (v := Hd.fvOf "__mod__" "Kin.__mod__" S_Kin__mod_) rfl rfl) (c.fact 14 (d := fd14) rfl)
  obtain ⟨oc15, od15, kV15, dc15, pm15, an15, cd15, ct15, sl15, l15, c15⟩ := Hd.fun_ok (c.fn 15 (a := fun K => (Hd.ga K "let_parts")) (v := Hd.fvOf "let_parts" "let_parts" S_let_parts) rfl rfl) (c.fact 15 (d := fd15) rfl)
  obtain ⟨oc16, od16, kV16, dc16, pm16, an16, cd16, ct16, sl16, l16, c16⟩ := Hd.fun_ok (c.fn 16 (a := fun K => (Hd.ga K "all_cells")) (v := Hd.fvOf "all_cells" "all_cells" S_all_cells) rfl rfl) (c.fact 16 (d := fd16) rfl)
  obtain ⟨oc17, od17, kV17, dc17, pm17, an17, cd17, ct17, sl17, l17, c17⟩ := Hd.fun_ok (c.fn 17 (a := fun K => (Hd.ma K "Rule" "lets")) (v := Hd.fvOf "lets" "Rule.lets" S_Rule_lets) rfl rfl) (c.fact 17 (d := fd17) rfl)
  obtain ⟨oc18, od18, kV18, dc18, pm18, an18, cd18, ct18, sl18, l18, c18⟩ := Hd.fun_ok (c.fn 18 (a := fun K => (Hd.ma K "Rule" "__init__")) (v := Hd.fvOf "__init__" "Rule.__init__" S_Rule__init_) rfl rfl) (c.fact 18 (d := fd18) rfl)
  obtain ⟨oc19, od19, kV19, dc19, pm19, an19, cd19, ct19, sl19, l19, c19⟩ := Hd.fun_ok (c.fn 19 (a := fun K => (Hd.ma K "Rule" "__getitem__")) (v := Hd.fvOf "__getitem__" "Rule.__getitem__" S_Rule__getitem_) rfl rfl) (c.fact 19 (d := fd19) rfl)
  obtain ⟨oc20, od20, kV20, dc20, pm20, an20, cd20, ct20, sl20, l20, c20⟩ := Hd.fun_ok (c.fn 20 (a := fun K => (Hd.ma K "Kin" "measure")) (v := Hd.fvOf "measure" "Kin.measure" S_Kin_measure) rfl rfl) (c.fact 20 (d := fd20) rfl)
  obtain ⟨oc21, od21, kV21, dc21, pm21, an21, cd21, ct21, sl21, l21, c21⟩ := Hd.fun_ok (c.fn 21 (a := fun K => (Hd.ma K "Kin" "__lt__")) (v := Hd.fvOf "__lt__" "Kin.__lt__" S_Kin__lt_) rfl rfl) (c.fact 21 (d := fd21) rfl)
  obtain ⟨oc22, od22, kV22, dc22, pm22, an22, cd22, ct22, sl22, l22, c22⟩ := Hd.fun_ok (c.fn 22 (a := fun K => (Hd.ma K "Rule" "put")) (v := Hd.fvOf "put" "Rule.put" S_Rule_put) rfl rfl) (c.fact 22 (d := fd22) rfl)
  obtain ⟨oc23, od23, kV23, dc23, pm23, an23, cd23, ct23, sl23, l23, c23⟩ := Hd.fun_ok (c.fn 23 (a := fun K => (Hd.ma K "Rule" "take")) (v := Hd.fvOf "take" "Rule.take" S_Rule_take) rfl rfl) (c.fact 23 (d := fd23) rfl)
  obtain ⟨oc24, od24, kV24, dc24, pm24, an24, cd24, ct24, sl24, l24, c24⟩ := Hd.fun_ok (c.fn 24 (a := fun K => (Hd.rcA K (Hd.ma K "Rule" "reach") "property")) (v := Hd.fvOf "reach" "Rule.reach" S_Rule_reach) rfl rfl) (c.fact 24 (d := fd24) rfl)
  obtain ⟨oc25, od25, kV25, dc25, pm25, an25, cd25, ct25, sl25, l25, c25⟩ := Hd.fun_ok (c.fn 25 (a := fun K => (Hd.ga K "joined")) (v := Hd.fvOf "joined" "joined" S_joined) rfl rfl) (c.fact 25 (d := fd25) rfl)
  obtain ⟨oc26, od26, kV26, dc26, pm26, an26, cd26, ct26, sl26, l26, c26⟩ := Hd.fun_ok (c.fn 26 (a := fun K => (Hd.ga K "combined")) (v := Hd.fvOf "combined" "combined" S_combined) rfl rfl) (c.fact 26 (d := fd26) rfl)
  obtain ⟨oc27, od27, kV27, dc27, pm27, an27, cd27, ct27, sl27, l27, c27⟩ := Hd.fun_ok (c.fn 27 (a := fun K => (Hd.ma K "Rule" "__sub__")) (v := Hd.fvOf "__sub__" "Rule.__sub__" S_Rule__sub_) rfl rfl) (c.fact 27 (d := fd27) rfl)
  obtain ⟨oc28, od28, kV28, dc28, pm28, an28, cd28, ct28, sl28, l28, c28⟩ := Hd.fun_ok (c.fn 28 (a := fun K => (Hd.ma K "Rule" "__setitem__")) (v := Hd.fvOf "__setitem__" "Rule.__setitem__" S_Rule__setitem_) rfl rfl) (c.fact 28 (d := fd28) rfl)
  obtain ⟨oc29, od29, kV29, dc29, pm29, an29, cd29, ct29, sl29, l29, c29⟩ := Hd.fun_ok (c.fn 29 (a := fun K => (Hd.ga K "_law_kin")) (v := Hd.fvOf "_law_kin" "_law_kin" S_law_kin) rfl rfl) (c.fact 29 (d := fd29) rfl)
  obtain ⟨oc30, od30, kV30, dc30, pm30, an30, cd30, ct30, sl30, l30, c30⟩ := Hd.fun_ok (c.fn 30 (a := fun K => (Hd.ga K "_law_rule")) (v := Hd.fvOf "_law_rule" "_law_rule" S_law_rule) rfl rfl) (c.fact 30 (d := fd30) rfl)
  obtain ⟨oc31, od31, kV31, dc31, pm31, an31, cd31, ct31, sl31, l31, c31⟩ := Hd.fun_ok (c.fn 31 (a := fun K => (Hd.ga K "_law_lets")) (v := Hd.fvOf "_law_lets" "_law_lets" S_law_lets) rfl rfl) (c.fact 31 (d := fd31) rfl)
  obtain ⟨oc32, od32, kV32, dc32, pm32, an32, cd32, ct32, sl32, l32, c32⟩ := Hd.fun_ok (c.fn 32 (a := fun K => (Hd.ga K "_law_lets_all")) (v := Hd.fvOf "_law_lets_all" "_law_lets_all" S_law_lets_all) rfl rfl) (c.fact 32 (d := fd32) rfl)
  obtain ⟨oc33, od33, kV33, dc33, pm33, an33, cd33, ct33, sl33, l33, c33⟩ := Hd.fun_ok (c.fn 33 (a := fun K => (Hd.rcA K (Hd.ma K "Rule" "none") "classmethod")) (v := Hd.fvOf "none" "Rule.none" S_Rule_none) rfl rfl) (c.fact 33 (d := fd33) rfl)
  obtain ⟨oc34, od34, kV34, dc34, pm34, an34, cd34, ct34, sl34, l34, c34⟩ := Hd.fun_ok (c.fn 34 (a := fun K => (Hd.ma K "Rule" "__ior__")) (v := Hd.fvOf "__ior__" "Rule.__ior__" S_Rule__ior_) rfl rfl) (c.fact 34 (d := fd34) rfl)
  obtain ⟨oc35, od35, kV35, dc35, pm35, an35, cd35, ct35, sl35, l35, c35⟩ := Hd.fun_ok (c.fn 35 (a := fun K => (Hd.ga K "union")) (v := Hd.fvOf "union" "union" S_union) rfl rfl) (c.fact 35 (d := fd35) rfl)
  obtain ⟨oc36, od36, kV36, dc36, pm36, an36, cd36, ct36, sl36, l36, c36⟩ := Hd.fun_ok (c.fn 36 (a := fun K => (Hd.rcA K (Hd.ma K "Rule" "full") "classmethod")) (v := Hd.fvOf "full" "Rule.full" S_Rule_full) rfl rfl) (c.fact 36 (d := fd36) rfl)
  obtain ⟨oc37, od37, kV37, dc37, pm37, an37, cd37, ct37, sl37, l37, c37⟩ := Hd.fun_ok (c.fn 37 (a := fun K => (Hd.ma K "Rule" "__iand__")) (v := Hd.fvOf "__iand__" "Rule.__iand__" S_Rule__iand_) rfl rfl) (c.fact 37 (d := fd37) rfl)
  obtain ⟨oc38, od38, kV38, dc38, pm38, an38, cd38, ct38, sl38, l38, c38⟩ := Hd.fun_ok (c.fn 38 (a := fun K => (Hd.ga K "cut")) (v := Hd.fvOf "cut" "cut" S_cutR) rfl rfl) (c.fact 38 (d := fd38) rfl)
  obtain ⟨oc39, od39, kV39, dc39, pm39, an39, cd39, ct39, sl39, l39, c39⟩ := Hd.fun_ok (c.fn 39 (a := fun K => (Hd.ga K "_law_any")) (v := Hd.fvOf "_law_any" "_law_any" S_law_any) rfl rfl) (c.fact 39 (d := fd39) rfl)
  obtain ⟨oc40, od40, kV40, dc40, pm40, an40, cd40, ct40, sl40, l40, c40⟩ := Hd.fun_ok (c.fn 40 (a := fun K => (Hd.ga K "_law_all")) (v := Hd.fvOf "_law_all" "_law_all" S_law_all) rfl rfl) (c.fact 40 (d := fd40) rfl)
  obtain ⟨oc41, od41, kV41, dc41, pm41, an41, cd41, ct41, sl41, l41, c41⟩ := Hd.fun_ok (c.fn 41 (a := fun K => (Hd.ga K "_law_is_number")) (v := Hd.fvOf "_law_is_number" "_law_is_number" S_law_is_number) rfl rfl) (c.fact 41 (d := fd41) rfl)
  obtain ⟨oc42, od42, kV42, dc42, pm42, an42, cd42, ct42, sl42, l42, c42⟩ := Hd.fun_ok (c.fn 42 (a := fun K => (Hd.ga K "_law_same")) (v := Hd.fvOf "_law_same" "_law_same" S_law_same) rfl rfl) (c.fact 42 (d := fd42) rfl)
  obtain ⟨oc43, od43, kV43, dc43, pm43, an43, cd43, ct43, sl43, l43, c43⟩ := Hd.fun_ok (c.fn 43 (a := fun K => (Hd.ma K "Rule" "__len__")) (v := Hd.fvOf "__len__" "Rule.__len__" S_Rule__len_) rfl rfl) (c.fact 43 (d := fd43) rfl)
  obtain ⟨oc44, od44, kV44, dc44, pm44, an44, cd44, ct44, sl44, l44, c44⟩ := Hd.fun_ok (c.fn 44 (a := fun K => (Hd.ma K "Rule" "__le__")) (v := Hd.fvOf "__le__" "Rule.__le__" S_Rule__le_) rfl rfl) (c.fact 44 (d := fd44) rfl)
  obtain ⟨oc45, od45, kV45, dc45, pm45, an45, cd45, ct45, sl45, l45, c45⟩ := Hd.fun_ok (c.fn 45 (a := fun K => (Hd.ma K "Rule" "__lt__")) (v := Hd.fvOf "__lt__" "Rule.__lt__" S_Rule__lt_) rfl rfl) (c.fact 45 (d := fd45) rfl)
  obtain ⟨oc46, od46, kV46, dc46, pm46, an46, cd46, ct46, sl46, l46, c46⟩ := Hd.fun_ok (c.fn 46 (a := fun K => (Hd.ma K "Rule" "__eq__")) (v := Hd.fvOf "__eq__" "Rule.__eq__" S_Rule__eq_) rfl rfl) (c.fact 46 (d := fd46) rfl)
  obtain ⟨oc47, od47, kV47, dc47, pm47, an47, cd47, ct47, sl47, l47, c47⟩ := Hd.fun_ok (c.fn 47 (a := fun K => (Hd.ga K "_law_compared")) (v := Hd.fvOf "_law_compared" "_law_compared" S_law_compared) rfl rfl) (c.fact 47 (d := fd47) rfl)
  obtain ⟨oc48, od48, kV48, dc48, pm48, an48, cd48, ct48, sl48, l48, c48⟩ := Hd.fun_ok (c.fn 48 (a := fun K => (Hd.ga K "_law_is_rule")) (v := Hd.fvOf "_law_is_rule" "_law_is_rule" S_law_is_rule) rfl rfl) (c.fact 48 (d := fd48) rfl)
  obtain ⟨oc49, od49, kV49, dc49, pm49, an49, cd49, ct49, sl49, l49, c49⟩ := Hd.fun_ok (c.fn 49 (a := fun K => (Hd.ga K "_law_parts")) (v := Hd.fvOf "_law_parts" "_law_parts" S_law_parts) rfl rfl) (c.fact 49 (d := fd49) rfl)
  obtain ⟨oc50, od50, kV50, dc50, pm50, an50, cd50, ct50, sl50, l50, c50⟩ := Hd.fun_ok (c.fn 50 (a := fun K => (Hd.ga K "_law_of_none")) (v := Hd.fvOf "_law_of_none" "_law_of_none" S_law_of_none) rfl rfl) (c.fact 50 (d := fd50) rfl)
  obtain ⟨oc51, od51, kV51, dc51, pm51, an51, cd51, ct51, sl51, l51, c51⟩ := Hd.fun_ok (c.fn 51 (a := fun K => (Hd.ga K "law")) (v := Hd.fvOf "law" "law" S_law) rfl rfl) (c.fact 51 (d := fd51) rfl)
  obtain ⟨nmz0, qz0, Nz0, bsz0, snz0, subz0, abz0, colz0, ddz0, m0z0, m1z0, m2z0, m3z0, m5z0, xz0⟩ := Hd.exc_ok (c.fact 52 (d := fd52) rfl)
  obtain ⟨ccz0, cdz0, odz0, kVz0, dcz0, pmz0, anz0, ctz0, slz0, cclz0, cddz0, vsz0, ccsz0, filez0, tfz0, clz0, cldz0, cslz0, lgz0, cgz0, lcz0, hvz0, hfz0, cez0⟩ := Hd.ini_ok (c.fn 52 (a := fun K => (Hd.ma K "ForkError" "__init__")) (v := Hd.fvOf "__init__" "ForkError.__init__" M_ForkError) rfl rfl) (c.fact 53 (d := fd53) rfl)
  obtain ⟨nmz1, qz1, Nz1, bsz1, snz1, subz1, abz1, colz1, ddz1, m0z1, m1z1, m2z1, m3z1, m5z1, xz1⟩ := Hd.exc_ok (c.fact 54 (d := fd54) rfl)
  obtain ⟨ccz1, cdz1, odz1, kVz1, dcz1, pmz1, anz1, ctz1, slz1, cclz1, cddz1, vsz1, ccsz1, filez1, tfz1, clz1, cldz1, cslz1, lgz1, cgz1, lcz1, hvz1, hfz1, cez1⟩ := Hd.ini_ok (c.fn 53 (a := fun K => (Hd.ma K "BadKin" "__init__")) (v := Hd.fvOf "__init__" "BadKin.__init__" M_BadKin) rfl rfl) (c.fact 55 (d := fd55) rfl)
  obtain ⟨nmz2, qz2, Nz2, bsz2, snz2, subz2, abz2, colz2, ddz2, m0z2, m1z2, m2z2, m3z2, m5z2, xz2⟩ := Hd.exc_ok (c.fact 56 (d := fd56) rfl)
  obtain ⟨ccz2, cdz2, odz2, kVz2, dcz2, pmz2, anz2, ctz2, slz2, cclz2, cddz2, vsz2, ccsz2, filez2, tfz2, clz2, cldz2, cslz2, lgz2, cgz2, lcz2, hvz2, hfz2, cez2⟩ := Hd.ini_ok (c.fn 54 (a := fun K => (Hd.ma K "BadReach" "__init__")) (v := Hd.fvOf "__init__" "BadReach.__init__" M_BadReach) rfl rfl) (c.fact 57 (d := fd57) rfl)
  obtain ⟨nmz3, qz3, Nz3, bsz3, snz3, subz3, abz3, colz3, ddz3, m0z3, m1z3, m2z3, m3z3, m5z3, xz3⟩ := Hd.exc_ok (c.fact 58 (d := fd58) rfl)
  obtain ⟨ccz3, cdz3, odz3, kVz3, dcz3, pmz3, anz3, ctz3, slz3, cclz3, cddz3, vsz3, ccsz3, filez3, tfz3, clz3, cldz3, cslz3, lgz3, cgz3, lcz3, hvz3, hfz3, cez3⟩ := Hd.ini_ok (c.fn 55 (a := fun K => (Hd.ma K "TooNarrow" "__init__")) (v := Hd.fvOf "__init__" "TooNarrow.__init__" M_TooNarrow) rfl rfl) (c.fact 59 (d := fd59) rfl)
  obtain ⟨nmz4, qz4, Nz4, bsz4, snz4, subz4, abz4, colz4, ddz4, m0z4, m1z4, m2z4, m3z4, m5z4, xz4⟩ := Hd.exc_ok (c.fact 60 (d := fd60) rfl)
  obtain ⟨ccz4, cdz4, odz4, kVz4, dcz4, pmz4, anz4, ctz4, slz4, cclz4, cddz4, vsz4, ccsz4, filez4, tfz4, clz4, cldz4, cslz4, lgz4, cgz4, lcz4, hvz4, hfz4, cez4⟩ := Hd.ini_ok (c.fn 56 (a := fun K => (Hd.ma K "BadCell" "__init__")) (v := Hd.fvOf "__init__" "BadCell.__init__" M_BadCell) rfl rfl) (c.fact 61 (d := fd61) rfl)
  obtain ⟨nmz5, qz5, Nz5, bsz5, snz5, subz5, abz5, colz5, ddz5, m0z5, m1z5, m2z5, m3z5, m5z5, xz5⟩ := Hd.exc_ok (c.fact 62 (d := fd62) rfl)
  obtain ⟨ccz5, cdz5, odz5, kVz5, dcz5, pmz5, anz5, ctz5, slz5, cclz5, cddz5, vsz5, ccsz5, filez5, tfz5, clz5, cldz5, cslz5, lgz5, cgz5, lcz5, hvz5, hfz5, cez5⟩ := Hd.ini_ok (c.fn 57 (a := fun K => (Hd.ma K "BadText" "__init__")) (v := Hd.fvOf "__init__" "BadText.__init__" M_BadText) rfl rfl) (c.fact 63 (d := fd63) rfl)
  obtain ⟨tcKinMOST, cv_Kin_MOST, cg_Kin_MOST⟩ := Hd.conI_ok (c.fact 64 (d := fd64) rfl)
  obtain ⟨tcRuleMOST_REACH, cv_Rule_MOST_REACH, cg_Rule_MOST_REACH⟩ := Hd.conI_ok (c.fact 65 (d := fd65) rfl)
  obtain ⟨tmLEAST_REACH, mmLEAST_REACH⟩ := Hd.int_ok (c.fact 66 (d := fd66) rfl)
  obtain ⟨tmMOST_REACH, mmMOST_REACH⟩ := Hd.int_ok (c.fact 67 (d := fd67) rfl)
  exact all_mk (l := PySem.Challenge.rw_promisesowned_k17_rules_by_what_they_let) X G hfa (c.fact 69 (d := fd69) rfl)
    (c.fact 70 (d := fd70) rfl)
    (c.fact 71 (d := fd71) rfl)
    l0
    c0
    (c.fact 72 (d := fd72) rfl)
    (c.fact 73 (d := fd73) rfl)
    l1
    c1
    (c.fact 74 (d := fd74) rfl)
    (c.fact 75 (d := fd75) rfl)
    l2
    c2
    (c.fact 76 (d := fd76) rfl)
    (c.fact 77 (d := fd77) rfl)
    l3
    c3
    (c.fact 78 (d := fd78) rfl)
    (c.fact 79 (d := fd79) rfl)
    l4
    c4
    (c.fact 80 (d := fd80) rfl)
    (c.fact 81 (d := fd81) rfl)
    l5
    c5
    (c.fact 82 (d := fd82) rfl)
    (c.fact 83 (d := fd83) rfl)
    l6
    c6
    (c.fact 84 (d := fd84) rfl)
    (c.fact 85 (d := fd85) rfl)
    l7
    c7
    (c.fact 86 (d := fd86) rfl)
    (c.fact 87 (d := fd87) rfl)
    l8
    c8
    (c.fact 88 (d := fd88) rfl)
    (c.fact 89 (d := fd89) rfl)
    l9
    c9
    (c.fact 90 (d := fd90) rfl)
    (c.fact 91 (d := fd91) rfl)
    (c.fact 92 (d := fd92) rfl)
    (c.fact 93 (d := fd93) rfl)
    (c.fact 94 (d := fd94) rfl)
    l10
    c10
    (c.fact 95 (d := fd95) rfl)
    (c.fact 96 (d := fd96) rfl)
    l11
    c11
    (c.fact 97 (d := fd97) rfl)
    (c.fact 98 (d := fd98) rfl)
    (c.fact 99 (d := fd99) rfl)
    l12
    c12
    (c.fact 100 (d := fd100) rfl)
    (c.fact 101 (d := fd101) rfl)
    l13
    c13
    (c.fact 102 (d := fd102) rfl)
    (c.fact 103 (d := fd103) rfl)
    (c.fact 104 (d := fd104) rfl)
    l14
    c14
    (c.fact 105 (d := fd105) rfl)
    (c.fact 106 (d := fd106) rfl)
    l15
    c15
    (c.fact 107 (d := fd107) rfl)
    (c.fact 108 (d := fd108) rfl)
    l16
    c16
    (c.fact 109 (d := fd109) rfl)
    (c.fact 110 (d := fd110) rfl)
    (c.fact 111 (d := fd111) rfl)
    l17
    c17
    (c.fact 112 (d := fd112) rfl)
    (c.fact 113 (d := fd113) rfl)
    (c.fact 114 (d := fd114) rfl)
    l18
    c18
    (c.fact 115 (d := fd115) rfl)
    (c.fact 116 (d := fd116) rfl)
    (c.fact 117 (d := fd117) rfl)
    l19
    c19
    (c.fact 118 (d := fd118) rfl)
    (c.fact 119 (d := fd119) rfl)
    (c.fact 120 (d := fd120) rfl)
    l20
    c20
    (c.fact 121 (d := fd121) rfl)
    (c.fact 122 (d := fd122) rfl)
    (c.fact 123 (d := fd123) rfl)
    l21
    c21
    (c.fact 124 (d := fd124) rfl)
    (c.fact 125 (d := fd125) rfl)
    (c.fact 126 (d := fd126) rfl)
    l22
    c22
    (c.fact 127 (d := fd127) rfl)
    (c.fact 128 (d := fd128) rfl)
    (c.fact 129 (d := fd129) rfl)
    l23
    c23
    (c.fact 130 (d := fd130) rfl)
    (c.fact 131 (d := fd131) rfl)
    (c.fact 132 (d := fd132) rfl)
    (c.fact 133 (d := fd133) rfl)
    (c.fact 134 (d := fd134) rfl)
    l24
    c24
    (c.fact 135 (d := fd135) rfl)
    (c.fact 136 (d := fd136) rfl)
    l25
    c25
    (c.fact 137 (d := fd137) rfl)
    (c.fact 138 (d := fd138) rfl)
    l26
    c26
    (c.fact 139 (d := fd139) rfl)
    (c.fact 140 (d := fd140) rfl)
    (c.fact 141 (d := fd141) rfl)
    l27
    c27
    (c.fact 142 (d := fd142) rfl)
    (c.fact 143 (d := fd143) rfl)
    (c.fact 144 (d := fd144) rfl)
    l28
    c28
    (c.fact 145 (d := fd145) rfl)
    (c.fact 146 (d := fd146) rfl)
    l29
    c29
    (c.fact 147 (d := fd147) rfl)
    (c.fact 148 (d := fd148) rfl)
    l30
    c30
    (c.fact 149 (d := fd149) rfl)
    (c.fact 150 (d := fd150) rfl)
    l31
    c31
    (c.fact 151 (d := fd151) rfl)
    (c.fact 152 (d := fd152) rfl)
    l32
    c32
    (c.fact 153 (d := fd153) rfl)
    (c.fact 154 (d := fd154) rfl)
    (c.fact 155 (d := fd155) rfl)
    (c.fact 156 (d := fd156) rfl)
    (c.fact 157 (d := fd157) rfl)
    (c.fact 158 (d := fd158) rfl)
    (c.fact 159 (d := fd159) rfl)
    (c.fact 160 (d := fd160) rfl)
    (c.fact 161 (d := fd161) rfl)
    l33
    c33
    (c.fact 162 (d := fd162) rfl)
    (c.fact 163 (d := fd163) rfl)
    (c.fact 164 (d := fd164) rfl)
    l34
    c34
    (c.fact 165 (d := fd165) rfl)
    (c.fact 166 (d := fd166) rfl)
    l35
    c35
    (c.fact 167 (d := fd167) rfl)
    (c.fact 168 (d := fd168) rfl)
    (c.fact 169 (d := fd169) rfl)
    (c.fact 170 (d := fd170) rfl)
    (c.fact 171 (d := fd171) rfl)
    (c.fact 172 (d := fd172) rfl)
    (c.fact 173 (d := fd173) rfl)
    (c.fact 174 (d := fd174) rfl)
    (c.fact 175 (d := fd175) rfl)
    l36
    c36
    (c.fact 176 (d := fd176) rfl)
    (c.fact 177 (d := fd177) rfl)
    (c.fact 178 (d := fd178) rfl)
    l37
    c37
    (c.fact 179 (d := fd179) rfl)
    (c.fact 180 (d := fd180) rfl)
    l38
    c38
    (c.fact 181 (d := fd181) rfl)
    (c.fact 182 (d := fd182) rfl)
    l39
    c39
    (c.fact 183 (d := fd183) rfl)
    (c.fact 184 (d := fd184) rfl)
    l40
    c40
    (c.fact 185 (d := fd185) rfl)
    (c.fact 186 (d := fd186) rfl)
    l41
    c41
    (c.fact 187 (d := fd187) rfl)
    (c.fact 188 (d := fd188) rfl)
    l42
    c42
    (c.fact 189 (d := fd189) rfl)
    (c.fact 190 (d := fd190) rfl)
    (c.fact 191 (d := fd191) rfl)
    l43
    c43
    (c.fact 192 (d := fd192) rfl)
    (c.fact 193 (d := fd193) rfl)
    (c.fact 194 (d := fd194) rfl)
    l44
    c44
    (c.fact 195 (d := fd195) rfl)
    (c.fact 196 (d := fd196) rfl)
    (c.fact 197 (d := fd197) rfl)
    l45
    c45
    (c.fact 198 (d := fd198) rfl)
    (c.fact 199 (d := fd199) rfl)
    (c.fact 200 (d := fd200) rfl)
    l46
    c46
    (c.fact 201 (d := fd201) rfl)
    (c.fact 202 (d := fd202) rfl)
    l47
    c47
    (c.fact 203 (d := fd203) rfl)
    (c.fact 204 (d := fd204) rfl)
    l48
    c48
    (c.fact 205 (d := fd205) rfl)
    (c.fact 206 (d := fd206) rfl)
    l49
    c49
    (c.fact 207 (d := fd207) rfl)
    (c.fact 208 (d := fd208) rfl)
    l50
    c50
    (c.fact 209 (d := fd209) rfl)
    (c.fact 210 (d := fd210) rfl)
    l51
    c51
    (c.fact 211 (d := fd211) rfl)
    (c.fact 212 (d := fd212) rfl)
    (c.fact 213 (d := fd213) rfl)
    (c.fact 214 (d := fd214) rfl)
    (c.fact 215 (d := fd215) rfl)
    (c.fact 216 (d := fd216) rfl)
    (c.fact 217 (d := fd217) rfl)
    (c.fact 218 (d := fd218) rfl)
    (c.fact 219 (d := fd219) rfl)
    (c.fact 220 (d := fd220) rfl)
    (c.fact 221 (d := fd221) rfl)
    (c.fact 222 (d := fd222) rfl)
    xz0
    (c.fact 223 (d := fd223) rfl)
    (c.fact 224 (d := fd224) rfl)
    (c.fact 225 (d := fd225) rfl)
    lgz0
    cgz0
    lcz0
    hvz0
    hfz0
    cez0
    (c.fact 226 (d := fd226) rfl)
    xz1
    (c.fact 227 (d := fd227) rfl)
    (c.fact 228 (d := fd228) rfl)
    (c.fact 229 (d := fd229) rfl)
    lgz1
    cgz1
    lcz1
    hvz1
    hfz1
    cez1
    (c.fact 230 (d := fd230) rfl)
    (c.fact 231 (d := fd231) rfl)
    (c.fact 232 (d := fd232) rfl)
    (c.fact 233 (d := fd233) rfl)
    xz2
    (c.fact 234 (d := fd234) rfl)
    (c.fact 235 (d := fd235) rfl)
    (c.fact 236 (d := fd236) rfl)
    lgz2
    cgz2
    lcz2
    hvz2
    hfz2
    cez2
    (c.fact 237 (d := fd237) rfl)
    (c.fact 238 (d := fd238) rfl)
    (c.fact 239 (d := fd239) rfl)
    (c.fact 240 (d := fd240) rfl)
    xz3
    (c.fact 241 (d := fd241) rfl)
    (c.fact 242 (d := fd242) rfl)
    (c.fact 243 (d := fd243) rfl)
    lgz3
    cgz3
    lcz3
    hvz3
    hfz3
    cez3
    (c.fact 244 (d := fd244) rfl)
    (c.fact 245 (d := fd245) rfl)
    (c.fact 246 (d := fd246) rfl)
    (c.fact 247 (d := fd247) rfl)
    xz4
    (c.fact 248 (d := fd248) rfl)
    (c.fact 249 (d := fd249) rfl)
    (c.fact 250 (d := fd250) rfl)
    lgz4
    cgz4
    lcz4
    hvz4
    hfz4
    cez4
    (c.fact 251 (d := fd251) rfl)
    (c.fact 252 (d := fd252) rfl)
    (c.fact 253 (d := fd253) rfl)
    (c.fact 254 (d := fd254) rfl)
    xz5
    (c.fact 255 (d := fd255) rfl)
    (c.fact 256 (d := fd256) rfl)
    (c.fact 257 (d := fd257) rfl)
    lgz5
    cgz5
    lcz5
    hvz5
    hfz5
    cez5
    (c.fact 258 (d := fd258) rfl)
    (c.fact 259 (d := fd259) rfl)
    (c.fact 260 (d := fd260) rfl)
    (c.fact 261 (d := fd261) rfl)
    cv_Kin_MOST
    cg_Kin_MOST
    (c.fact 262 (d := fd262) rfl)
    (c.fact 263 (d := fd263) rfl)
    (c.fact 264 (d := fd264) rfl)
    (c.fact 265 (d := fd265) rfl)
    (c.fact 266 (d := fd266) rfl)
    (c.fact 267 (d := fd267) rfl)
    cv_Rule_MOST_REACH
    cg_Rule_MOST_REACH
    (c.fact 268 (d := fd268) rfl)
    (c.fact 269 (d := fd269) rfl)
    (c.fact 270 (d := fd270) rfl)
    (c.fact 271 (d := fd271) rfl)
    (c.fact 272 (d := fd272) rfl)
    (c.fact 273 (d := fd273) rfl)
    (c.fact 274 (d := fd274) rfl)
    (c.fact 275 (d := fd275) rfl)
    (c.fact 276 (d := fd276) rfl)
    (c.fact 277 (d := fd277) rfl)
    (c.fact 278 (d := fd278) rfl)
    (c.fact 279 (d := fd279) rfl)
    (Hd.tupS_ok (c.fact 68 (d := fd68) rfl))
    mmLEAST_REACH
    mmMOST_REACH
    (c.fact 280 (d := fd280) rfl)
    (c.fact 281 (d := fd281) rfl)
    (by first | rfl | kernel_rfl | decide +kernel)

end K17
open PySem PySem.W PySem.Calls PyProof.Rows
set_option maxRecDepth 100000 in
set_option maxHeartbeats 0 in
theorem PySem.Challenge.cw_promisesowned_k17_rules_by_what_they_let_holds : PySem.Challenge.rw_promisesowned_k17_rules_by_what_they_let.Holds := by
  w_on; o_law
  refine HandSHeadRun.head_any (r := OpenLaw.row PySem.Challenge.rw_promisesowned_k17_rules_by_what_they_let) (q := view (OpenLaw.row PySem.Challenge.rw_promisesowned_k17_rules_by_what_they_let).prog [58]) (H := K17.hk) (ob := K17.ob) (M := 30000) (loose := K17.nams) (d := HandSHeadRun.topDef (OpenLaw.row PySem.Challenge.rw_promisesowned_k17_rules_by_what_they_let).prog 58) (kwd := []) K17.ob_eq
    (by kernel_rfl) (fun s => by kernel_rfl) K17.top_run (by kernel_rfl) (by kernel_rfl) (by kernel_rfl) (by rfl) (by first | assumption | decide +kernel) (by decide +kernel) ⟨rfl, rfl, rfl, rfl, rfl, by decide +kernel⟩ ?hw ?hc
  case hw => w_witness2
  case hc =>
    refine L2.walk_ofE (l := PySem.Challenge.rw_promisesowned_k17_rules_by_what_they_let) (n := 63) (k := 12) (x := "script") (CX := L2.CX0) rfl (by decide) (by kernel_rfl) ⟨rfl, by decide, by decide⟩ ?F (fun _ _ _ _ z => z)
    intro w mg fa h Y G hmg0
    obtain ⟨K, KX, c⟩ := Y
    have hmg : mg ("law" : PySem.Str) = some (.ref fa) := by
      have e : (HandSHeadRun.topDef (OpenLaw.row PySem.Challenge.rw_promisesowned_k17_rules_by_what_they_let).prog 58).name = ("law" : PySem.Str) := by kernel_rfl
      rw [← e]
      exact hmg0
    obtain ⟨fd, hb, hF⟩ := K17.all2 KX G hmg c
    exact ⟨K, fd, K17.spLaw K, KX, hb, fun H a ns hl _ hS => ⟨a, ns, rfl, hS, hl, fun _ => rfl⟩, hF⟩
#print axioms PySem.Challenge.cw_promisesowned_k17_rules_by_what_they_let_holds
