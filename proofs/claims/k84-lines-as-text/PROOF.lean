import PyProof.Rows.All
import Wide.All
import OpenK.AllK
import Wide.FinOn
import KE.KStateDown
import Lean
import HandS.ForMost
import HandS.ForExc
import HandS.Defaults
import HandS.Head0
import HandS.Head1
import HandS.Head2
import HandS.HeadEnd
import HandS.HeadHook1
import HandS.HeadHook2
import HandS.HeadHook3
import HandS.EndBits
import HandS.IsInst
import HandS.StrMore
import HandS.Wide
import HandS.Walk
import HandS.Style
import HandS.Flow
import HandS.More
import HandS.SuiteRaise
import HandS.TryMany
import HandS.Small
import HandS.Deep
import HandS.ExcIs
import HandS.TupAny
import PyProof.Rows.IntBool
import PyProof.Rows.StrRev
import PyProof.SliceStr2
import PyProof.EqKinds
import PyProof.FactsAll.dict
import HandS.Text
import HandS.Exc
import HandS.FStrTup
import HandS.Iter
import PySem.Challenge.RW_knotpurse_k84_lines_as_text
set_option Elab.async false
set_option linter.all false
set_option maxRecDepth 100000
set_option maxHeartbeats 2000000
namespace Kn
open PySem PySem.Spec PyProof.Rows L2

/-! ## defs by name -/
structure DefOk (P : Program) (w : World) (K : PySem.W.Frag) (mg : Str → Option Value) (base : Heap) (k : Nat) (p : Str × Option Str) (ps : List Str) (sp : Sp) : Prop where
  ex : ∃ fd, FnOk P w K mg base (L2.CX P w) k (He.fAd K p) fd ps sp ∧ Binds K fd ps [] ∧ ∃ oc od osl, K.lookup (He.fAd K p) = some ⟨oc, od, .func fd, osl⟩
  kp : PySem.W.keepIn K (.ref (He.fAd K p)) = true
theorem DefOk.mono {P w K mg base j k p ps sp} (G : DefOk P w K mg base j p ps sp) (h : j ≤ k) : DefOk P w K mg base k p ps sp := by
  obtain ⟨⟨fd, F, b, lk⟩, kp⟩ := G
  exact ⟨⟨fd, F.mono h, b, lk⟩, kp⟩

section
variable {X : Cx} {x m : Str} {e o : Expr} {es : List Expr} {t : TA} {p pos apos : Pos} {k : Nat} {ps : List Str} {sp : Sp} {E : XK} {ta : TE}
theorem kc (G : DefOk X.prog X.w X.K X.mg X.base k (x, none) ps sp) (hm : X.mg x = some (.ref (He.ga X.K x))) (hr : Room k X.A) (hx : Passes (L2.CX X.prog X.w) X E) (ha : PA X (e :: es) t) (hg : Gl X x := by rfl)
    (hdb : (x == ("__debug__" : Str)) = false := by decide) (he : starEach (e :: es) X.env = (false, eval e X.env) :: starEach es X.env := by rfl) (hpl : (backTo pos (starEach es X.env)).any (·.1) = false := by rfl) :
    PE X (.Call (.Name x p) (e :: es) [] pos) (tCall sp [] E t) := by
  obtain ⟨⟨fd, F, b, _⟩, kp⟩ := G
  exact pe_call F hr hg hm kp b .nil hx ha hdb he hpl
theorem kc0 (G : DefOk X.prog X.w X.K X.mg X.base k (x, none) ps sp) (hm : X.mg x = some (.ref (He.ga X.K x))) (hr : Room k X.A) (hx : Passes (L2.CX X.prog X.w) X E) (hg : Gl X x := by rfl)
    (hdb : (x == ("__debug__" : Str)) = false := by decide) :
    PE X (.Call (.Name x p) [] [] pos) (tCall sp [] E tNil) := by
  obtain ⟨⟨fd, F, b, _⟩, kp⟩ := G
  exact pe_call0 F hr hg hm kp b .nil hx hdb
/-- a new instance of the class x by its own __init__ -/
theorem kmk {ik : Str} (M : Mk X.K (He.ga X.K x) (He.ma X.K (He.ga X.K x) "__init__")) (G : DefOk X.prog X.w X.K X.mg X.base k (x, some "__init__") ps sp) (hm : X.mg x = some (.ref (He.ga X.K x))) (hr : Room (k + 1) X.A) (hx : Passes (L2.CX X.prog X.w) X E)
    (ha : PA X (e :: es) t) (hg : Gl X x := by rfl) (hdb : (x == ("__debug__" : Str)) = false := by decide)
    (he : starEach (e :: es) X.env = (false, eval e X.env) :: starEach es X.env := by rfl) (hpl : (backTo pos (starEach es X.env)).any (·.1) = false := by rfl) :
    PE X (.Call (.Name x p) (e :: es) [] pos) (tMake (He.ga X.K x) sp [] E t) := by
  obtain ⟨⟨fd, F, b, _⟩, kp⟩ := G
  exact pe_make M F hr hg hm b .nil hx ha hdb he hpl
end
/-- the ways of a method: the classes that have it, each with its promise -/
structure Way (P : Program) (w : World) (K : PySem.W.Frag) (mg : Str → Option Value) (base : Heap) (k : Nat) (m : Str) (C : Addr) (sp : Sp) : Prop where
  c : Cls K C
  ex : ∃ f fd ps, Meth K C m f ∧ FnOk P w K mg base (L2.CX P w) k f fd ps sp ∧ Binds K fd ps []
def tMethA (cs : Addr → Sp → Prop) (m : Str) (E : XK) (ta : TE) (t : TA) : TE := fun σ H Q => ta σ H fun x H1 => ∃ a C dx fs sp, x = .ref a ∧ H1 a = some (.ins C dx fs) ∧ cs C sp ∧ fs.lookup m = none ∧ t σ H1 fun vs H2 => sp (x :: vs) H2 Q E
section
variable {X : Cx} {x m : Str} {e o : Expr} {es : List Expr} {t : TA} {p pos apos : Pos} {k : Nat} {E : XK} {ta : TE} {cs : Addr → Sp → Prop}
theorem kme {pl : Sem Bool} (he : PE X o ta) (hw : ∀ C sp, cs C sp → Way X.prog X.w X.K X.mg X.base k m C sp) (hr : Room k X.A) (hx : Passes (L2.CX X.prog X.w) X E) (ha : PA X (e :: es) t)
    (hst : starEach (e :: es) X.env = (false, eval e X.env) :: starEach es X.env := by rfl) (hpl : (backTo pos (starEach es X.env)).any (·.1) = false := by rfl)
    (ht : eval (.Call (.Attribute o m apos) (e :: es) [] pos) X.env = (eval o X.env >>= fun ov => standAt apos.atName >>= fun _ => holding [ov] (getMethod ov m pl) >>= fun z => callWith pos z.1 z.2 (backTo pos (starEach (e :: es) X.env)) (backToKw pos (keywordEach [] X.env))) := by rfl) :
    PE X (.Call (.Attribute o m apos) (e :: es) [] pos) (tMethA cs m E ta t) := by
  refine ⟨fun pins s σ H Q I h => ?_⟩
  refine PySem.W.methodCall_KW (pl := pl) (thn (he.run pins s σ H _ I h) fun u s1 ⟨x, H1, I1, rx, a, C, dx, fs, sp, ex, ea, hc, l, q⟩ => ?_) ht
  obtain ⟨c, f, fd, ps, hm, F, hb⟩ := hw C sp hc
  subst ex
  obtain rfl : u = Value.ref a := rx
  refine getmeth_ok I1 ea c hm l ?_
  refine PySem.W.callWith_K (first := [.ref a]) (h₀ := X.base) I.ok.mod.kin hm.kp (thn (ha.run pos pins s1 σ H1 _ I1 q) fun us s2 ⟨vs, H2, I2, r, q2⟩ => ⟨I2.kIn, ?_⟩) hst hpl
  exact run_fn (us := .ref a :: us) (vs := .ref a :: vs) (dvs := []) (ds := []) F hr hb .nil hx I2 (.cons rfl r) (by simpa using q2)
theorem kme0 {pl : Sem Bool} (he : PE X o ta) (hw : ∀ C sp, cs C sp → Way X.prog X.w X.K X.mg X.base k m C sp) (hr : Room k X.A) (hx : Passes (L2.CX X.prog X.w) X E)
    (ht : eval (.Call (.Attribute o m apos) [] [] pos) X.env = (eval o X.env >>= fun ov => standAt apos.atName >>= fun _ => holding [ov] (getMethod ov m pl) >>= fun z => callWith pos z.1 z.2 (backTo pos (starEach [] X.env)) (backToKw pos (keywordEach [] X.env))) := by rfl) :
    PE X (.Call (.Attribute o m apos) [] [] pos) (tMethA cs m E ta tNil) := by
  refine ⟨fun pins s σ H Q I h => ?_⟩
  refine PySem.W.methodCall_KW (pl := pl) (thn (he.run pins s σ H _ I h) fun u s1 ⟨x, H1, I1, rx, a, C, dx, fs, sp, ex, ea, hc, l, q⟩ => ?_) ht
  obtain ⟨c, f, fd, ps, hm, F, hb⟩ := hw C sp hc
  subst ex
  obtain rfl : u = Value.ref a := rx
  refine getmeth_ok I1 ea c hm l ?_
  exact PySem.W.callWith_K0 (first := [.ref a]) I1.kIn hm.kp (run_fn (us := [.ref a]) (vs := [.ref a]) (dvs := []) (ds := []) F hr hb .nil hx I1 (.cons rfl .nil) q)
end

/-! ## either of two rules -/
section
variable {X : Cx}
theorem pe_or {e : Expr} {t1 t2 : TE} (h1 : PE X e t1) (h2 : PE X e t2) : PE X e (fun σ H Q => t1 σ H Q ∨ t2 σ H Q) :=
  ⟨fun pins s σ H Q I h => h.elim (h1.run pins s σ H Q I) (h2.run pins s σ H Q I)⟩
theorem pi_or {tg e : Expr} {t1 t2 : TI} (h1 : PI X tg e t1) (h2 : PI X tg e t2) : PI X tg e (fun σ H R => t1 σ H R ∨ t2 σ H R) := by
  refine ⟨fun pins s σ H R I h => ?_⟩
  rcases h with h | h
  · exact h1.run pins s σ H R I h
  · exact h2.run pins s σ H R I h
theorem opr_or {f : Value → Value → Sem Value} {r1 r2 : R2} (h1 : OpR X f r1) (h2 : OpR X f r2) : OpR X f (fun x y H Q => r1 x y H Q ∨ r2 x y H Q) := by
  intro pins s σ H x y v u Q I rx ry h
  rcases h with h | h
  · exact h1 pins s σ H x y v u Q I rx ry h
  · exact h2 pins s σ H x y v u Q I rx ry h
/-! ## operations whatever the kinds -/
def rAddI : R2 := rI0 fun i j => .int (i + j)
def rAddS : R2 := fun x y H Q => ∃ i j, x = .str i ∧ y = .str j ∧ i.length + j.length ≤ sizeLine ∧ Q (.str (i ++ j)) H
def rAddX : R2 := fun x y H Q => rAddI x y H Q ∨ rAddS x y H Q ∨ rCat x y H Q
theorem kAdd : OpR X (binaryOp .Add) rAddX := opr_or op_add (opr_or op_add_str op_cat)
def rSubI : R2 := rI0 fun i j => .int (i - j)
theorem kSub : OpR X (binaryOp .Sub) rSubI := op_sub
def rMulI : R2 := rI CMul fun i j => .int (i * j)
def rMulX : R2 := fun x y H Q => rMulI x y H Q ∨ rI CMulW (fun i j => .int (i * j)) x y H Q ∨ rRep x y H Q
theorem kMul : OpR X (binaryOp .Mult) rMulX := opr_or op_mul (opr_or op_mulW op_rep)
def rDivX : R2 := rI CDivW fun i j => .int (i / j)
theorem kDiv : OpR X (binaryOp .FloorDiv) rDivX := op_fdivW
def rModX : R2 := rI (fun _ j => j ≠ 0) fun i j => .int (i.fmod j)
theorem kMod : OpR X (binaryOp .Mod) rModX := op_modN
def rPowX : R2 := rI CPow fun i j => .int (i ^ j.toNat)
theorem kPow : OpR X (binaryOp .Pow) rPowX := op_pow
def rLtI : R2 := rI0 fun i j => .bl (decide (i < j))
def rLeI : R2 := rI0 fun i j => .bl (decide (i ≤ j))
def rGtI : R2 := rI0 fun i j => .bl (decide (j < i))
def rGeI : R2 := rI0 fun i j => .bl (decide (j ≤ i))
theorem kLt : OpR X (compareOp .Lt) rLtI := op_lt
theorem kLe : OpR X (compareOp .LtE) rLeI := op_le
theorem kGt : OpR X (compareOp .Gt) rGtI := op_gt
theorem kGe : OpR X (compareOp .GtE) rGeI := op_ge
def rEqX (K : PySem.W.Frag) : R2 := fun x y H Q => rEq x y H Q ∨ rEqD K x y H Q
def rNeX (K : PySem.W.Frag) : R2 := fun x y H Q => rNe x y H Q ∨ rNeD K x y H Q
theorem kEq {k : Nat} (hr : Room k X.A) : OpR X (compareOp .Eq) (rEqX X.K) := opr_or op_eq (op_eqD hr.units)
theorem kNe {k : Nat} (hr : Room k X.A) : OpR X (compareOp .NotEq) (rNeX X.K) := opr_or op_ne (op_neD hr.units)
def rInS : R2 := fun x y H Q => ∃ i j, x = .str i ∧ y = .str j ∧ Q (.bl (!(Builtin.Str.occurrences j i 0 j.length 1).isEmpty)) H
def rNotInS : R2 := fun x y H Q => ∃ i j, x = .str i ∧ y = .str j ∧ Q (.bl (!(!(Builtin.Str.occurrences j i 0 j.length 1).isEmpty))) H
def rInX (K : PySem.W.Frag) : R2 := fun x y H Q => rIn K false x y H Q ∨ rInS x y H Q ∨ rInD K x y H Q
def rNotInX (K : PySem.W.Frag) : R2 := fun x y H Q => rIn K true x y H Q ∨ rNotInS x y H Q ∨ rNotInD K x y H Q
theorem units65 {k : Nat} {A : Around} (hr : Room k A) : A.units + 65 < cLine := Nat.lt_of_le_of_lt (by omega) hr.un
theorem kIn {k : Nat} (hr : Room k X.A) : OpR X (compareOp .In) (rInX X.K) := opr_or op_in_seq (opr_or op_in_str (op_inD (units65 hr)))
theorem kNotIn {k : Nat} (hr : Room k X.A) : OpR X (compareOp .NotIn) (rNotInX X.K) := opr_or op_notIn_seq (opr_or op_notin_str (op_notInD (units65 hr)))
def rSetX : TSet := fun o i v H Q => rSetL o i v H Q ∨ rSetD o i v H Q
theorem kSet {k : Nat} (hr : Room k X.A) : PSet X rSetX := by
  intro pins s σ H o i v ov iv u Q I ro ri rv h
  rcases h with h | h
  · exact set_list pins s σ H o i v ov iv u Q I ro ri rv h
  · exact set_dict (hu_of hr) pins s σ H o i v ov iv u Q I ro ri rv h
def rIsX : R2 := fun x y H Q => y = .non ∧ Q (.bl (decide (x = .non))) H
def rIsNotX : R2 := fun x y H Q => y = .non ∧ Q (.bl (!decide (x = .non))) H
theorem kIs : OpR X (compareOp .Is) rIsX := op_isN
theorem kIsNot : OpR X (compareOp .IsNot) rIsNotX := op_notN
def rLenX (K : PySem.W.Frag) : List V → Hp → VK → Prop := fun xs H Q => ∃ x n, xs = [x] ∧ LenV K x H n ∧ Q (.int n) H
theorem kLen : CallR X (.builtin "len") (rLenX X.K) := call_len
def rInt1 : List V → Hp → VK → Prop := fun xs H Q => (∃ i, xs = [.int i] ∧ Q (.int i) H) ∨ ∃ k, xs = [.bl k] ∧ Q (.int (if k then 1 else 0)) H
theorem kInt1 : CallR X (.type "int") rInt1 := call_int1
def rListOf (K : PySem.W.Frag) : List V → Hp → VK → Prop := fun xs H Q => ∃ p ys, xs = [.ref p] ∧ (SqL K H p ys ∨ SqT K H p ys) ∧ ∀ l, H l = none → Q (.ref l) (upd H l (.lst ys))
theorem kListOf : CallR X (.type "list") (rListOf X.K) := call_list_of
def rStrip : V → List V → Hp → VK → Prop := fun x xs H Q => ∃ a b, x = .str a ∧ xs = [.str b] ∧ a.length ≤ sizeLine ∧ Q (.str (Txt.stripChars a b)) H
theorem kStrip : MtR X "str.strip" rStrip := mt_stripChars
def rJoin (K : PySem.W.Frag) : V → List V → Hp → VK → Prop := fun x xs H Q => ∃ a p, ∃ ys : List Str, x = .str a ∧ xs = [.ref p] ∧ (SqL K H p (ys.map V.str) ∨ SqT K H p (ys.map V.str)) ∧ (ys.map (·.length)).sum + ys.length * a.length ≤ 16777216 ∧ Q (.str (Txt.join a ys)) H
theorem kJoin : MtR X "str.join" (rJoin X.K) := mt_join
end
/-! ## bodies -/
section
variable {w : World} {P : Program} {mg : Str → Option Value} {K : PySem.W.Frag} {base : Heap}
theorem pB {N : List Str} {qual : Str} {scope : Scope} {f : Addr} {cd : Value} {A : Around} {outer : List Env} {s : Shared} {H : Hp} {E : XK} :
    Passes (L2.CX P w) (cxOf (L2.CX P w) P w K mg base N qual scope f cd A outer s H E) E :=
  passes_call (X := cxOf (L2.CX P w) P w K mg base N qual scope f cd A outer s H E) (W := fun cls d _ H => E cls d H) (takes_of rfl rfl rfl rfl) fun _ _ _ _ h => h
theorem mkOk {x qual : Str} {q : Str × Option Str} {params : Arguments} {body : List Stmt} {scope : Scope} {N ps : List Str} {k : Nat} {sp : Sp}
    (h : ∃ fd, FunD K x qual params body scope [] [] (He.fAd K q) fd) (S : FnScope N ps scope) (len : ∀ vs H Q E, sp vs H Q E → vs.length = ps.length)
    (b : ∀ (kV doc pm : Value) (an : Option Addr) (cdv ct : Value) (us : List Value), us.length = ps.length → bindArgs (PySem.W.fnOf x qual params body scope .none kV doc pm an cdv ct) ⟨us, []⟩ = pure (ps.zip us))
    (hbody : ∀ (cdv : Value) (A : Around) (outer : List Env) (s : Shared) (H : Hp) (vs : List V) (Q : VK) (E : XK), Room k (A.deeper (envOfC qual scope s.heap.objs.size (He.fAd K q) cdv)) → sp vs H Q E →
      ∃ t, PSs (cxOf (L2.CX P w) P w K mg base N qual scope (He.fAd K q) cdv A outer s H E) body t ∧ t { nx := fun _ H' => Q .non H', rt := Q } (start N vs) H) :
    DefOk P w K mg base (k + 1) q ps sp := by
  obtain ⟨fd, F⟩ := h
  obtain ⟨oc, od, dV, kV, doc, pm, an, cdv, ct, osl, _, lk, _⟩ := id F.ex
  exact ⟨⟨fd, F.ok S len hbody, F.bindsN b, oc, od, osl, lk⟩, F.kp⟩
end
end Kn

set_option Elab.async false
set_option linter.all false
set_option maxRecDepth 100000
set_option maxHeartbeats 2000000
namespace Kn
open PySem PySem.Spec PyProof.Rows L2
/-! ## names of the module -/
section
variable {X : Cx} {x : Str} {pos : Pos}
theorem kgI {i : Int} (h : ∃ t, X.mg x = some (.int i t)) (hg : Gl X x := by rfl) (hd : (x == ("__debug__" : Str)) = false := by decide) : PE X (.Name x pos) (tC (.int i)) := by
  obtain ⟨t, h⟩ := h
  exact pe_glob hg h ⟨t, rfl⟩ hd
theorem kgS {z : Str} (h : ∃ t, X.mg x = some (.str z t)) (hg : Gl X x := by rfl) (hd : (x == ("__debug__" : Str)) = false := by decide) : PE X (.Name x pos) (tC (.str z)) := by
  obtain ⟨t, h⟩ := h
  exact pe_glob hg h ⟨t, rfl⟩ hd
theorem kgR {a : Addr} (h : X.mg x = some (.ref a)) (hg : Gl X x := by rfl) (hd : (x == ("__debug__" : Str)) = false := by decide) : PE X (.Name x pos) (tC (.ref a)) := pe_glob hg h rfl hd
theorem kbT {n : String} (hm : X.mg x = none) (hv : bootBuiltins x = some (.type n)) (hg : Gl X x := by rfl) (hn : x ≠ "__name__" := by decide) (hd : (x == ("__debug__" : Str)) = false := by decide) : PE X (.Name x pos) (tC (.ty n)) :=
  pe_bltn hg hm hv rfl hn hd
/-! ## targets, slices -/
theorem pg_or {e : Expr} {t1 t2 : TG} (h1 : PG X e t1) (h2 : PG X e t2) : PG X e (fun v σ H Q => t1 v σ H Q ∨ t2 v σ H Q) := by
  refine ⟨fun pins s σ H v u Q I r h => ?_⟩
  rcases h with h | h
  · exact h1.run pins s σ H v u Q I r h
  · exact h2.run pins s σ H v u Q I r h
def gSeq (K : PySem.W.Frag) (n : Nat) (t : TGs) : TG := fun v σ H Q => gTup K n t v σ H Q ∨ gLst K n t v σ H Q
theorem kgTup {es : List Expr} {k : Nat} {t : TGs} {n : Nat} (hc : X.calm = true) (h : PGs X es t) (hn : (assignEach es X.env).length = n := by rfl) (hst : (assignEach es X.env).findIdx? (·.1) = none := by rfl) :
    PG X (.Tuple es k pos) (gSeq X.K n t) := pg_or (pg_tup hc h hn hst) (pg_lst hc h hn hst)
def rSlX (K : PySem.W.Frag) : V → Option Int → Option Int → Hp → VK → Prop := fun x lo hi H Q => rSlL K x lo hi H Q ∨ rSlS x lo hi H Q
theorem kSl : SlR X (rSlX X.K) := SlR.or sl_list sl_str
end
/-! ## the same, K told -/
section
variable {X : Cx}
theorem eqK (K : PySem.W.Frag) (h : X.K = K) {k : Nat} (hr : Room k X.A) : OpR X (compareOp .Eq) (rEqX K) := h ▸ kEq hr
theorem neK (K : PySem.W.Frag) (h : X.K = K) {k : Nat} (hr : Room k X.A) : OpR X (compareOp .NotEq) (rNeX K) := h ▸ kNe hr
theorem inK (K : PySem.W.Frag) (h : X.K = K) {k : Nat} (hr : Room k X.A) : OpR X (compareOp .In) (rInX K) := h ▸ kIn hr
theorem niK (K : PySem.W.Frag) (h : X.K = K) {k : Nat} (hr : Room k X.A) : OpR X (compareOp .NotIn) (rNotInX K) := h ▸ kNotIn hr
theorem ixK (K : PySem.W.Frag) (h : X.K = K) : IxR X (rIx K) := h ▸ ix_seq
theorem slK (K : PySem.W.Frag) (h : X.K = K) : SlR X (rSlX K) := h ▸ kSl
theorem lenK (K : PySem.W.Frag) (h : X.K = K) : CallR X (.builtin "len") (rLenX K) := h ▸ kLen
theorem isiK (K : PySem.W.Frag) (h : X.K = K) : CallR X (.builtin "isinstance") (rIsi K) := h ▸ call_isi
theorem isiTK (K : PySem.W.Frag) (h : X.K = K) : CallR X (.builtin "isinstance") (rIsiT K) := h ▸ call_isiT
theorem listK (K : PySem.W.Frag) (h : X.K = K) : CallR X (.type "list") (rListOf K) := h ▸ kListOf
theorem allK (K : PySem.W.Frag) (h : X.K = K) (hc : X.calm = true) : CallR X (.builtin "all") (rAll K) := h ▸ cr_all hc
theorem joinK (K : PySem.W.Frag) (h : X.K = K) : MtR X "str.join" (rJoin K) := h ▸ kJoin
def rDictP (K : PySem.W.Frag) : List V → Hp → VK → Prop := fun xs H Q => ∃ (a : Addr) (ps : List Addr) (kvs : List (Key × V)), xs = [.ref a] ∧ SqL K H a (ps.map V.ref) ∧ Paired (fun p kv => SqT K H p [kV kv.1, kv.2]) ps kvs ∧ ∀ p, H p = none → Q (.ref p) (upd H p (.dK (mergeK [] kvs)))
def rDictD : List V → Hp → VK → Prop := fun xs H Q => ∃ (a : Addr) (kvs : List (Key × V)), xs = [.ref a] ∧ Rd H a (.dK kvs) ∧ ∀ p, H p = none → Q (.ref p) (upd H p (.dK kvs))
def rDictX (K : PySem.W.Frag) : List V → Hp → VK → Prop := fun xs H Q => rDictP K xs H Q ∨ rDictD xs H Q
theorem dictK (K : PySem.W.Frag) (h : X.K = K) (hc : X.calm = true) : CallR X (.type "dict") (rDictX K) := h ▸ CallR.or (call_dictP hc) call_dictD
theorem plK (K : PySem.W.Frag) (h : X.K = K) {tg l : Expr} {tl : TE} (hl : PE X l tl) : PI X tg l (iList K tl) := h ▸ pi_list hl
theorem ptK (K : PySem.W.Frag) (h : X.K = K) {tg l : Expr} {tl : TE} (hl : PE X l tl) : PI X tg l (iTup K tl) := h ▸ pi_tup hl
def iSeq (K : PySem.W.Frag) (tl : TE) : TI := fun σ H R => iList K tl σ H R ∨ iTup K tl σ H R
theorem psqK (K : PySem.W.Frag) (h : X.K = K) {tg l : Expr} {tl : TE} (hl : PE X l tl) : PI X tg l (iSeq K tl) := pi_or (plK K h hl) (ptK K h hl)
theorem fldK (K : PySem.W.Frag) (h : X.K = K) {e : Expr} {f : Str} {pos : Pos} {ta : TE} (ha : PE X e ta) (hb : attributeBase e f X.env (eval e X.env) = eval e X.env) : PE X (.Attribute e f pos) (tFld K ta f) := h ▸ pe_fld ha hb
theorem psfK (K : PySem.W.Frag) (h : X.K = K) {o value : Expr} {f : Str} {pos pos' : Pos} {ta tv : TE} (ha : PE X o ta) (hv : PE X value tv) (hs : swapsWith value (some (.Attribute o f pos')) pos.line X.env = pure false) : PS X (.Assign [.Attribute o f pos'] value pos) (sFld K ta tv f) := h ▸ ps_fld ha hv hs
theorem gtK (K : PySem.W.Frag) (h : X.K = K) {es : List Expr} {k : Nat} {t : TGs} {n : Nat} {pos : Pos} (hc : X.calm = true) (hp : PGs X es t) (hn : (assignEach es X.env).length = n := by rfl) (hst : (assignEach es X.env).findIdx? (·.1) = none := by rfl) :
    PG X (.Tuple es k pos) (gSeq K n t) := h ▸ kgTup hc hp hn hst
theorem revK (K : PySem.W.Frag) (h : X.K = K) {e : Expr} {te : TE} {k : Nat} {p1 p2 p3 pos : Pos} (he : PE X e te) : PE X (.Subscript e (.Slice none none (some (.UnaryOp .USub (.Constant (.int 1) k p1) p2)) p3) pos) (tRevL K te) := h ▸ pe_revL he
theorem bmK (K : PySem.W.Frag) (h : X.K = K) {T id : String} {nm : Str} {o e : Expr} {es : List Expr} {r : V → List V → Hp → VK → Prop} {to : TE} {t : TA} {apos cpos : Pos} (pa : PlainAttrs T) (slot : Slot T nm id) (hty : typeOf (.builtin id) = pure (.type "method_descriptor")) (hm : MtR X id r) (ho : PE X o to) (ha : PA X (e :: es) t)
    (hbase : attributeBase o nm X.env (eval o X.env) = eval o X.env := by rfl)
    (hfew : ((backTo cpos (starEach (e :: es) X.env)).all (fun x => !x.1) && (backToKw cpos (keywordEach [] X.env)).all (fun x => x.1.isSome)
      && decide ((e :: es).length + ([] : List Keyword).length + (if ([] : List Keyword).isEmpty then 0 else 1) < 30)) = true := by rfl)
    (hline : (apos.endLine == cpos.line) = true := by rfl) (hs : starEach (e :: es) X.env = (false, eval e X.env) :: starEach es X.env := by rfl) (hplain : (backTo cpos (starEach es X.env)).any (·.1) = false := by rfl) :
    PE X (.Call (.Attribute o nm apos) (e :: es) [] cpos) (tBM K T r to t) := h ▸ pe_bm pa slot hty hm ho ha hbase hfew hline hs hplain
theorem bm0K (K : PySem.W.Frag) (h : X.K = K) {T id : String} {nm : Str} {o : Expr} {r : V → List V → Hp → VK → Prop} {to : TE} {apos cpos : Pos} (pa : PlainAttrs T) (slot : Slot T nm id) (hty : typeOf (.builtin id) = pure (.type "method_descriptor")) (hm : MtR X id r) (ho : PE X o to)
    (hbase : attributeBase o nm X.env (eval o X.env) = eval o X.env := by rfl) (hline : (apos.endLine == cpos.line) = true := by rfl) : PE X (.Call (.Attribute o nm apos) [] [] cpos) (tBM0 K T r to) := h ▸ pe_bm0 pa slot hty hm ho hbase hline
end
/-! ## a written dict: keys that are texts -/
structure KTab (K : PySem.W.Frag) (w : World) (d : Addr) (tab : List (Str × V)) : Prop where
  ex : ∃ es n, KDict K w d es n ∧ Paired (fun (p : Str × V) (e : DictEntry) => (∃ t, e.key = .str p.1 t) ∧ RelV p.2 e.val) tab es.toList
theorem ktab_find {k : Str} : ∀ {tab : List (Str × V)} {l : List DictEntry}, Paired (fun (p : Str × V) (e : DictEntry) => (∃ t, e.key = .str p.1 t) ∧ RelV p.2 e.val) tab l →
    RelO (tab.lookup k) ((l.find? fun e => Value.isStrOf k e.key).map (·.val))
  | _, _, .nil => trivial
  | (x, v) :: r, e :: l, .cons ⟨⟨t, h1⟩, h2⟩ hr => by
    have ih := ktab_find (k := k) hr
    rw [List.lookup_cons, List.find?_cons, h1]
    by_cases hk : k = x
    · subst hk
      have e1 : (k == k) = true := by simp
      have e2 : Value.isStrOf k (.str k t) = true := by simp [Value.isStrOf]
      rw [e1, e2]
      exact h2
    · have e1 : (k == x) = false := by simpa using hk
      have e2 : Value.isStrOf k (.str x t) = false := by
        have : ¬ x = k := fun z => hk z.symm
        simp [Value.isStrOf, this]
      rw [e1, e2]
      exact ih
def tKGet (d : Addr) (tab : List (Str × V)) (td ty tx : TE) : TE := fun σ H Q => td σ H fun x H1 => x = .ref d ∧ ty σ H1 fun y H2 => tx σ H2 fun z H3 => ∃ k, y = .str k ∧ Q ((tab.lookup k).getD z) H3
section
variable {X : Cx} {o e f : Expr} {apos cpos : Pos} {td ty tx : TE} {d : Addr} {tab : List (Str × V)}
theorem kKGet (T : KTab X.K X.w d tab) (ho : PE X o td) (he : PE X e ty) (hf : PE X f tx) (m : M2 X o "get" apos e f cpos := by exact ⟨rfl, rfl, rfl, rfl⟩) : PE X (.Call (.Attribute o "get" apos) [e, f] [] cpos) (tKGet d tab td ty tx) := by
  refine ⟨fun pins s σ H Q I h => ?_⟩
  refine wpAny_Call_method m.base m.few m.line PySem.F.plainAttrs_dict PySem.F.slot_dict_get PySem.F.type_dict_get (thn (ho.run pins s σ H _ I h) fun u s1 ⟨x, H1, I1, rx, ex, q1⟩ => ?_)
  subst ex
  obtain rfl : u = Value.ref d := rx
  obtain ⟨es, n, D, pr⟩ := T.ex
  have mp : ∀ {s' : Shared}, X.K.In s'.heap → s'.heap.MapOf (strKind X.prog X.w) d (fun k => findBy Value.isStrOf es k) := fun kin => PySem.W.mapOf_K (prog := X.prog) (w := X.w) kin D.at_ D.lit
  refine ⟨(mp I1.kIn).typeIs, fun b q => ?_, ?_⟩
  · cases q
    exact ⟨_, I1.kIn _ _ D.at_, rfl⟩
  rw [m.trees]
  refine Calls.callWith_builtin rfl (Calls.evalArgs_plain (Calls.spliced_cons (thn (he.run pins s1 σ H1 _ I1 q1) fun iv s2 ⟨y, H2, I2, ry, q2⟩ =>
    Calls.spliced_cons (thn (hf.run pins s2 σ H2 _ I2 q2) fun fv s3 ⟨z, H3, I3, rz, k, ey, q3⟩ => Calls.spliced_nil ?_))))
  subst ey
  obtain ⟨t, rfl⟩ := ry
  refine call_meetsIn PySem.F.slot_dict_get (mp I3.kIn).typeIs PySem.F.entry_dict_get (PySem.F.args_dict_get_3 _ _ _) (meets_dict_get_default (strKind X.prog X.w) d (PySem.strKind_is X.prog X.w k t) D.low fv) ⟨_, mp I3.kIn, ?_⟩
  refine ⟨(tab.lookup k).getD z, H3, I3.tok _, ?_, q3⟩
  have rel := ktab_find (k := k) pr
  have e1 : findBy Value.isStrOf es k = (es.toList.find? fun e => Value.isStrOf k e.key).map (·.val) := by
    obtain ⟨l⟩ := es
    simp [findBy]
  rw [e1]
  cases h1 : tab.lookup k with
  | none =>
    rw [h1] at rel
    cases h2 : (es.toList.find? fun e => Value.isStrOf k e.key).map (·.val) with
    | none => exact rz
    | some u => rw [h2] at rel; exact rel.elim
  | some v =>
    rw [h1] at rel
    cases h2 : (es.toList.find? fun e => Value.isStrOf k e.key).map (·.val) with
    | none => rw [h2] at rel; exact rel.elim
    | some u => rw [h2] at rel; exact rel
end
/-! ## what the head tells -/
def tabB (K : PySem.W.Frag) (a : Addr) (tab : List (Str × V)) : Bool := match K.lookup a with
  | some ⟨_, _, .dict es _, _⟩ => go tab es.toList
  | _ => false
where go : List (Str × V) → List DictEntry → Bool
  | [], [] => true
  | p :: r, e :: l => (match e.key with | .str x _ => decide (x = p.1) | _ => false) && He.relB p.2 e.val && go r l
  | _, _ => false
theorem tabB_go : ∀ {tab : List (Str × V)} {l : List DictEntry}, tabB.go tab l = true → Paired (fun (p : Str × V) (e : DictEntry) => (∃ t, e.key = .str p.1 t) ∧ RelV p.2 e.val) tab l
  | [], [], _ => .nil
  | [], _ :: _, h => by cases h
  | _ :: _, [], h => by cases h
  | p :: r, e :: l, h => by
    have h' : (((match e.key with | .str x _ => decide (x = p.1) | _ => false) && He.relB p.2 e.val) && tabB.go r l) = true := h
    obtain ⟨h1, h2⟩ := He.ba h'
    obtain ⟨h3, h4⟩ := He.ba h1
    refine .cons ⟨?_, He.relB_ok h4⟩ (tabB_go h2)
    split at h3
    · rename_i x t q
      exact ⟨t, by rw [q, of_decide_eq_true h3]⟩
    · cases h3
theorem tabB_ok {K : PySem.W.Frag} {w : World} {a : Addr} {tab : List (Str × V)} (h : tabB K a tab = true) (D : ∃ es n, KDict K w a es n) : KTab K w a tab := by
  obtain ⟨es, n, D⟩ := D
  refine ⟨es, n, D, ?_⟩
  unfold tabB at h
  rw [D.at_] at h
  exact tabB_go h
/-- an instance's class, for isinstance -/
structure InsK (K : PySem.W.Frag) (C : Addr) : Prop where
  ha : PySem.W.findIn K (.ref C) "__class__" = some (some (.builtin "object.__class__"))
  hn : PySem.W.specialIn K (.builtin "object.__class__") "__get__" = some (some (.builtin "getset_descriptor.__get__"))
  htk : PySem.W.takesIn K (.builtin "object.__class__") = some true
  hm : PySem.W.mroIn K C (.type "object") = some true
def insB (K : PySem.W.Frag) (C : Addr) : Bool := He.eqO (PySem.W.findIn K (.ref C) "__class__") (some (some (.builtin "object.__class__"))) && (He.eqO (PySem.W.specialIn K (.builtin "object.__class__") "__get__") (some (some (.builtin "getset_descriptor.__get__"))) && (decide (PySem.W.takesIn K (.builtin "object.__class__") = some true) && decide (PySem.W.mroIn K C (.type "object") = some true)))
theorem insB_ok {K : PySem.W.Frag} {C : Addr} (h : insB K C = true) : InsK K C := by
  obtain ⟨h1, h⟩ := He.ba h
  obtain ⟨h2, h⟩ := He.ba h
  obtain ⟨h3, h4⟩ := He.ba h
  exact ⟨He.eqO_ok h1, He.eqO_ok h2, of_decide_eq_true h3, of_decide_eq_true h4⟩
abbrev AlK : Type := (Bool × List He.FnW) × List (Option (List (Option (Str × Int))))
def obsK (fx : PySem.W.Frag → List Bool) (fn : List He.DefD) (ts : List He.Tab) (K : PySem.W.Frag) : AlK := (((fx K).all id && fn.all fun d => d.ok K, fn.map fun d => He.fnW K d.at_), ts.map fun t => He.dicW K (t.1 K))
def valK (fn : List He.DefD) (ts : List He.Tab) (w : World) : AlK := ((true, fn.map He.DefD.val), ts.map fun t => some (He.keysIn w.params t.2))
def SaysK (fx : PySem.W.Frag → List Bool) (fn : List He.DefD) (ts : List He.Tab) (w : World) (K : PySem.W.Frag) : Prop := obsK fx fn ts K = valK fn ts w
def obsKG (n : Nat) (fx : PySem.W.Frag → List Bool) (fn : List He.DefD) (ts : List He.Tab) (g : Addr → Option Obj) : AlK := obsK fx fn ts (He.frG g (He.asD g n))
def hookK (n : Nat) (fx : PySem.W.Frag → List Bool) (fn : List He.DefD) (ts : List He.Tab) : PySem.W.Hook where
  α := AlK
  obs := fun s => obsKG n fx fn ts s.heap.get?
  val := fun w => valK fn ts w
  says := fun w h => ∃ K : PySem.W.Frag, K.In h ∧ SaysK fx fn ts w K
  of := fun _ _ e => ⟨_, He.frG_in, e⟩
  keeps := fun _ _ _ ⟨K, hK, c⟩ k => ⟨K, PySem.W.Frag.In.keeps hK k, c⟩
theorem obsKG_eq {n : Nat} {fx : PySem.W.Frag → List Bool} {fn : List He.DefD} {ts : List He.Tab} {g : Addr → Option Obj} {s : Shared} (h : ∀ a, g a = s.heap.get? a) : obsKG n fx fn ts g = (hookK n fx fn ts).obs s := by
  have e : g = s.heap.get? := funext h
  rw [e] <;> rfl
section
variable {fx : PySem.W.Frag → List Bool} {fn : List He.DefD} {ts : List He.Tab} {w : World} {K : PySem.W.Frag}
theorem SaysK.fact (c : SaysK fx fn ts w K) (i : Nat) {f : Bool} (h : (fx K)[i]? = some f := by rfl) : f = true := by
  have c1 := (He.ba (show ((fx K).all id && fn.all fun d => d.ok K) = true from congrArg (fun z : AlK => z.1.1) c)).1
  exact List.all_eq_true.mp c1 f (List.mem_of_getElem? h)
theorem SaysK.def_ (c : SaysK fx fn ts w K) (i : Nat) {d : He.DefD} (h : fn[i]? = some d := by rfl) : ∃ fd, FunD K d.name d.qual d.params d.body d.scope (d.dvs K) (d.kws K) (He.fAd K d.at_) fd := by
  have c2 := (He.ba (show ((fx K).all id && fn.all fun d => d.ok K) = true from congrArg (fun z : AlK => z.1.1) c)).2
  have e : fn.map (fun d => He.fnW K d.at_) = fn.map He.DefD.val := congrArg (fun z : AlK => z.1.2) c
  have e2 : (fn.map fun d => He.fnW K d.at_)[i]? = (fn.map He.DefD.val)[i]? := by rw [e]
  rw [List.getElem?_map, List.getElem?_map, h] at e2
  exact He.DefD.funD (Option.some.inj e2) (List.all_eq_true.mp c2 d (List.mem_of_getElem? h))
theorem SaysK.tab (c : SaysK fx fn ts w K) (i : Nat) {t : He.Tab} (h : ts[i]? = some t := by rfl) : ∃ es n, KDict K w (t.1 K) es n := by
  have e : ts.map (fun t => He.dicW K (t.1 K)) = ts.map fun t => some (He.keysIn w.params t.2) := congrArg (fun z : AlK => z.2) c
  have e2 : (ts.map fun t => He.dicW K (t.1 K))[i]? = (ts.map fun t => some (He.keysIn w.params t.2))[i]? := by rw [e]
  rw [List.getElem?_map, List.getElem?_map, h] at e2
  exact He.dicW_ok (Option.some.inj e2)
end
/-! ## the law's end -/
theorem walkK {l : PySem.W.OpenLaw} {n k : Nat} {q : Program} {loose : List Str} {XP : (Str → Option Value) → Heap → Prop} {YP : World → Heap → Prop} {d : DefRec} {x : Str}
    (hn : l.most = some n) (hn2 : n ≤ sizeLine) (hdf : d.params.defaults = []) (hr : Room k callerA)
    (F : ∀ (w : World) (mg : Str → Option Value) (fa : Addr) (h : Heap), YP w h → h.Ns mainGlobals mg → mg d.name = some (.ref fa) →
      ∃ (K : PySem.W.Frag) (fd : FuncData) (sp : Sp), K.In h ∧ (∀ (s : Shared) (u : Value), BindsTo s fd ⟨[u], []⟩ [(x, u)]) ∧
        (∀ (H : Hp) (a : Addr) (ns : List Int), ns.length ≤ n → (∀ z ∈ ns, Builtin.Int.intBits z ≤ 1048576) → Only H → SqL K H a (ns.map V.int) → sp [.ref a] H (fun v _ => v = .bl true) fun _ _ _ => False) ∧
        ∀ base : Heap, K.In base → base.Ns mainGlobals mg → FnOk l.prog w K mg base (L2.CX l.prog w) k fa fd [x] sp) :
    PySem.W.WalkO q loose XP YP l.row.toRowW d [] (fun f vs => PySem.call f vs) := by
  refine Att.attach_callB hn hdf fun w s₀ s₁ mg mb fa o pm cd doc a vs ns G Y ho hd hcd hmg hobj hints hlen hbits hg => ?_
  obtain ⟨K, fd, sp, KX, hb, hsp, hF⟩ := F w mg fa _ Y G.T.g hmg
  refine law_call KX G.T.g G.T.b G.T.builtins G.T.nolimit hg hobj hints (Nat.le_trans hlen hn2) hr hF hb (fun H hO hS => hsp H a ns hlen hbits hO hS) fun H e s' h => ?_
  obtain ⟨_, _, _, _, _, _, _, _, _, _, _, _, z⟩ := h
  exact z.elim
end Kn

set_option Elab.async false
set_option linter.all false
set_option maxRecDepth 100000
set_option maxHeartbeats 2000000
namespace Kn
open PySem PySem.Spec PyProof.Rows L2
/-! ## readings, step by step -/
section
variable {K : PySem.W.Frag} {D : Ends} {σ : L2.St} {H : Hp} {Q : VK} {QB : Bool → Hp → Prop} {QL : List V → Hp → Prop} {te ta tb tc : TE} {tt tu : TT} {tr : TA} {t u : TS} {g : TG} {v x y : V} {i : Nat} {E : XK} {sp : Sp} {vs : List V}
theorem s_seq (h : t { D with nx := u D } σ H) : tSeq t u D σ H := h
theorem s_next (h : D.nx σ H) : tNext D σ H := h
theorem s_asg (h : te σ H fun v H1 => g v σ H1 D.nx) : tAsg te g D σ H := h
theorem s_name {QS : L2.St → Hp → Prop} (h : QS (σ.set i (some v)) H) : gName i v σ H QS := h
theorem s_ret (h : te σ H D.rt) : tRet te D σ H := h
theorem s_drop (h : te σ H fun _ H1 => D.nx σ H1) : tDrop te D σ H := h
theorem s_ifs (h : tt σ H fun b H1 => if b = true then t D σ H1 else u D σ H1) : tIfS tt t u D σ H := h
theorem s_ifE (h : tt σ H fun b H1 => if b = true then ta σ H1 Q else tb σ H1 Q) : tIf tt ta tb σ H Q := h
theorem s_var (h : σ[i]? = some (some v)) (q : Q v H) : tVar i σ H Q := ⟨v, h, q⟩
theorem s_c (q : Q v H) : tC v σ H Q := q
theorem s_cons (h : te σ H fun v H1 => tr σ H1 fun vs H2 => QL (v :: vs) H2) : tCons te tr σ H QL := h
theorem s_nil (q : QL [] H) : tNil σ H QL := q
theorem s_cb {r : List V → Hp → VK → Prop} (h : tr σ H fun vs H1 => r vs H1 Q) : tCB r tr σ H Q := h
theorem s_op {r : R2} (h : ta σ H fun x H1 => tb σ H1 fun y H2 => r x y H2 Q) : tOp r ta tb σ H Q := h
theorem s_un {r : V → Hp → VK → Prop} (h : ta σ H fun x H1 => r x H1 Q) : tUn r ta σ H Q := h
theorem s_call (h : tr σ H fun vs H1 => sp vs H1 Q E) : tCall sp [] E tr σ H Q := by
  have e : (fun (vs : List V) (H1 : Hp) => sp (vs ++ []) H1 Q E) = fun vs H1 => sp vs H1 Q E := by
    funext vs H1
    rw [List.append_nil]
  show tr σ H fun vs H1 => sp (vs ++ []) H1 Q E
  rw [e]
  exact h
theorem s_make {C : Addr} (h : tr σ H fun vs H1 => ∀ x dx, H1 x = none → H1 dx = none → dx ≠ x → sp (.ref x :: vs) (upd (upd H1 dx (.own x)) x (.ins C dx [])) (fun v H2 => v = .non ∧ Q (.ref x) H2) E) : tMake C sp [] E tr σ H Q := by
  have e : (fun (vs : List V) (H1 : Hp) => ∀ x dx, H1 x = none → H1 dx = none → dx ≠ x → sp (.ref x :: (vs ++ [])) (upd (upd H1 dx (.own x)) x (.ins C dx [])) (fun v H2 => v = .non ∧ Q (.ref x) H2) E) = fun vs H1 => ∀ x dx, H1 x = none → H1 dx = none → dx ≠ x → sp (.ref x :: vs) (upd (upd H1 dx (.own x)) x (.ins C dx [])) (fun v H2 => v = .non ∧ Q (.ref x) H2) E := by
    funext vs H1
    rw [List.append_nil]
  show tr σ H fun vs H1 => ∀ x dx, H1 x = none → H1 dx = none → dx ≠ x → sp (.ref x :: (vs ++ [])) (upd (upd H1 dx (.own x)) x (.ins C dx [])) (fun v H2 => v = .non ∧ Q (.ref x) H2) E
  rw [e]
  exact h
theorem s_test (h : te σ H fun x H1 => ∃ k, x = .bl k ∧ QB k H1) : tTest te σ H QB := h
theorem s_tB (h : te σ H fun x H1 => ∃ k, x = .bl k ∧ QB k H1) : tB te σ H QB := h
theorem s_bl {b : Bool} (q : QB b H) : ∃ k, V.bl b = .bl k ∧ QB k H := ⟨b, rfl, q⟩
theorem s_and (h : tt σ H fun c H1 => if c = true then tu σ H1 QB else QB false H1) : tAnd tt tu σ H QB := h
theorem s_or (h : tt σ H fun c H1 => if c = true then QB true H1 else tu σ H1 QB) : tOr tt tu σ H QB := h
theorem s_not (h : tt σ H fun c H1 => QB (!c) H1) : tNot tt σ H QB := h
theorem s_andV (h : ta σ H fun x H1 => ∃ c, x = .bl c ∧ if c = true then tb σ H1 Q else Q (.bl false) H1) : tAndV ta tb σ H Q := h
theorem s_orV (h : ta σ H fun x H1 => ∃ c, x = .bl c ∧ if c = true then Q (.bl true) H1 else tb σ H1 Q) : tOrV ta tb σ H Q := h
theorem s_notV (h : ta σ H fun x H1 => ∃ c, x = .bl c ∧ Q (.bl (!c)) H1) : tNotV ta σ H Q := h
theorem s_tup (h : tr σ H fun xs H1 => xs.length ≤ sizeLine ∧ ∀ p, H1 p = none → Q (.ref p) (upd H1 p (.tup xs))) : tTup tr σ H Q := h
theorem s_lst (h : tr σ H fun xs H1 => xs.length ≤ sizeLine ∧ ∀ p, H1 p = none → Q (.ref p) (upd H1 p (.lst xs))) : tLst tr σ H Q := h
theorem s_chain {r r' : R2} (h : ta σ H fun x H1 => tb σ H1 fun y H2 => r x y H2 fun z H3 => ∃ k, z = .bl k ∧ (if k = true then tc σ H3 fun w' H4 => r' y w' H4 Q else Q (.bl false) H3)) : tChain r r' ta tb tc σ H Q := h
theorem s_bm {T : String} {r : V → List V → Hp → VK → Prop} (h : ta σ H fun x H1 => tyV K T x H1 ∧ tr σ H1 fun xs H2 => r x xs H2 Q) : tBM K T r ta tr σ H Q := h
theorem s_ix0 {r : R2} (h : ta σ H fun x H1 => tb σ H1 fun y H2 => r x y H2 Q) : tOp r ta tb σ H Q := h
theorem s_sub {to ti : TE} {tS : TSet} {QS : L2.St → Hp → Prop} (h : to σ H fun o H1 => ti σ H1 fun i H2 => tS o i v H2 fun H3 => QS σ H3) : gSub to ti tS v σ H QS := h
theorem s_sl {r : V → Option Int → Option Int → Hp → VK → Prop} {tl th : TO} (h : te σ H fun x H1 => tl σ H1 fun l H2 => th σ H2 fun u H3 => r x l u H3 Q) : tSl r te tl th σ H Q := h
theorem s_part {QO : Option Int → Hp → Prop} (h : te σ H fun x H1 => ∃ i, x = .int i ∧ QO (some i) H1) : tPart te σ H QO := h
theorem s_nop {QO : Option Int → Hp → Prop} (h : QO none H) : tNoPart σ H QO := h
theorem s_int {j : Int} {QO : Int → Hp → Prop} (q : QO j H) : ∃ i, V.int j = .int i ∧ QO i H := ⟨j, rfl, q⟩
/-! by values -/
theorem v_addI {i j : Int} (q : Q (.int (i + j)) H) : rAddX (.int i) (.int j) H Q := .inl ⟨i, j, rfl, rfl, q⟩
theorem v_addS {a b : Str} (h : a.length + b.length ≤ sizeLine) (q : Q (.str (a ++ b)) H) : rAddX (.str a) (.str b) H Q := .inr (.inl ⟨a, b, rfl, rfl, h, q⟩)
theorem v_addL {p r : Addr} {xs zs : List V} (h1 : H p = some (.lst xs)) (h2 : H r = some (.lst zs)) (hl : xs.length + zs.length ≤ sizeLine) (q : ∀ o, H o = none → Q (.ref o) (upd H o (.lst (xs ++ zs)))) : rAddX (.ref p) (.ref r) H Q :=
  .inr (.inr ⟨p, r, xs, zs, rfl, rfl, h1, h2, hl, q⟩)
theorem v_subI {i j : Int} (q : Q (.int (i - j)) H) : rSubI (.int i) (.int j) H Q := ⟨i, j, rfl, rfl, q⟩
theorem v_mulI {i j : Int} (h : CMul i j) (q : Q (.int (i * j)) H) : rMulX (.int i) (.int j) H Q := .inl ⟨i, j, rfl, rfl, h, q⟩
theorem v_divI {i j : Int} (h : CDivW i j) (q : Q (.int (i / j)) H) : rDivX (.int i) (.int j) H Q := ⟨i, j, rfl, rfl, h, q⟩
theorem v_modI {i j : Int} (h : j ≠ 0) (q : Q (.int (i.fmod j)) H) : rModX (.int i) (.int j) H Q := ⟨i, j, rfl, rfl, h, q⟩
theorem v_powI {i j : Int} (h : CPow i j) (q : Q (.int (i ^ j.toNat)) H) : rPowX (.int i) (.int j) H Q := ⟨i, j, rfl, rfl, h, q⟩
theorem v_lt {i j : Int} (q : Q (.bl (decide (i < j))) H) : rLtI (.int i) (.int j) H Q := ⟨i, j, rfl, rfl, q⟩
theorem v_le {i j : Int} (q : Q (.bl (decide (i ≤ j))) H) : rLeI (.int i) (.int j) H Q := ⟨i, j, rfl, rfl, q⟩
theorem v_gt {i j : Int} (q : Q (.bl (decide (j < i))) H) : rGtI (.int i) (.int j) H Q := ⟨i, j, rfl, rfl, q⟩
theorem v_ge {i j : Int} (q : Q (.bl (decide (j ≤ i))) H) : rGeI (.int i) (.int j) H Q := ⟨i, j, rfl, rfl, q⟩
theorem v_eqI {i j : Int} (q : Q (.bl (decide (i = j))) H) : rEqX K (.int i) (.int j) H Q := .inl ⟨rfl, by
  have e : decide (V.int i = V.int j) = decide (i = j) := by
    by_cases h : i = j
    · rw [h]; simp
    · have : ¬ V.int i = V.int j := fun z => h (by injection z)
      rw [decide_eq_false h, decide_eq_false this]
  rw [e]; exact q⟩
theorem v_eqS {a b : Str} (q : Q (.bl (decide (a = b))) H) : rEqX K (.str a) (.str b) H Q := .inl ⟨rfl, by
  have e : decide (V.str a = V.str b) = decide (a = b) := by
    by_cases h : a = b
    · rw [h]; simp
    · have : ¬ V.str a = V.str b := fun z => h (by injection z)
      rw [decide_eq_false h, decide_eq_false this]
  rw [e]; exact q⟩
theorem v_neS {a b : Str} (q : Q (.bl (!decide (a = b))) H) : rNeX K (.str a) (.str b) H Q := .inl ⟨rfl, by
  have e : decide (V.str a = V.str b) = decide (a = b) := by
    by_cases h : a = b
    · rw [h]; simp
    · have : ¬ V.str a = V.str b := fun z => h (by injection z)
      rw [decide_eq_false h, decide_eq_false this]
  rw [e]; exact q⟩
theorem v_neI {a b : Int} (q : Q (.bl (!decide (a = b))) H) : rNeX K (.int a) (.int b) H Q := .inl ⟨rfl, by
  have e : decide (V.int a = V.int b) = decide (a = b) := by
    by_cases h : a = b
    · rw [h]; simp
    · have : ¬ V.int a = V.int b := fun z => h (by injection z)
      rw [decide_eq_false h, decide_eq_false this]
  rw [e]; exact q⟩
theorem v_eqD {d e : PyData} (h1 : Dp K H x d) (h2 : Dp K H y e) (s1 : SeqAt.shaped d = true) (s2 : SeqAt.shaped e = true) (q : Q (.bl (PyData.eqv d e)) H) : rEqX K x y H Q := .inr ⟨d, e, h1, h2, s1, s2, q⟩
theorem v_neD {d e : PyData} (h1 : Dp K H x d) (h2 : Dp K H y e) (s1 : SeqAt.shaped d = true) (s2 : SeqAt.shaped e = true) (q : Q (.bl (!PyData.eqv d e)) H) : rNeX K x y H Q := .inr ⟨d, e, h1, h2, s1, s2, q⟩
theorem v_ixL {p : Addr} {xs : List V} {j : Int} (h : SqL K H p xs) (ha : atI xs j = some v) (q : Q v H) : rIx K (.ref p) (.int j) H Q := .inl ⟨p, xs, j, v, rfl, rfl, h, ha, q⟩
theorem v_ixT {p : Addr} {xs : List V} {j : Int} (h : SqT K H p xs) (ha : atI xs j = some v) (q : Q v H) : rIx K (.ref p) (.int j) H Q := .inr (.inl ⟨p, xs, j, v, rfl, rfl, h, ha, q⟩)
theorem v_ixS {z : Str} {j : Int} {c : Nat} (h : z.length ≤ sizeLine) (ha : atI z.cps.toList j = some c) (q : Q (.str ⟨#[c]⟩) H) : rIx K (.str z) (.int j) H Q := .inr (.inr ⟨z, j, c, rfl, rfl, h, ha, q⟩)
theorem v_isi {T : Value} {n : String} {b : Bool} (ht : TyX K H x T) (hk : PySem.W.kitOne K T (.type n) = some b) (q : Q (.bl b) H) : rIsi K [x, .ty n] H Q := ⟨x, .ty n, T, .type n, b, rfl, .ty n, ht, hk, q⟩
theorem v_isC {T : Value} {C : Addr} {b : Bool} (ht : TyX K H x T) (hk : PySem.W.kitOne K T (.ref C) = some b) (q : Q (.bl b) H) : rIsi K [x, .ref C] H Q := ⟨x, .ref C, T, .ref C, b, rfl, .own C, ht, hk, q⟩
theorem v_set {p : Addr} {xs : List V} {k : Int} {j : Nat} {QH : Hp → Prop} (h : H p = some (.lst xs)) (hi : ixN xs.length k = some j) (q : QH (upd H p (.lst (xs.set j v)))) : rSetX (.ref p) (.int k) v H QH := .inl ⟨p, xs, k, j, rfl, rfl, h, hi, q⟩
theorem v_int1b {b : Bool} (q : Q (.int (if b then 1 else 0)) H) : rInt1 [.bl b] H Q := .inr ⟨b, rfl, q⟩
theorem v_lenS {z : Str} (h : z.length ≤ sizeLine) (q : Q (.int z.length) H) : rLenX K [.str z] H Q := ⟨_, _, rfl, ⟨h, rfl⟩, q⟩
theorem v_lenL {p : Addr} {xs : List V} (h : SqL K H p xs) (q : Q (.int xs.length) H) : rLenX K [.ref p] H Q := ⟨_, _, rfl, .inl ⟨xs, h, rfl⟩, q⟩
theorem v_lenT {p : Addr} {xs : List V} (h : SqT K H p xs) (q : Q (.int xs.length) H) : rLenX K [.ref p] H Q := ⟨_, _, rfl, .inr ⟨xs, h, rfl⟩, q⟩
theorem v_listL {p : Addr} {xs : List V} (h : SqL K H p xs) (q : ∀ l, H l = none → Q (.ref l) (upd H l (.lst xs))) : rListOf K [.ref p] H Q := ⟨p, xs, rfl, .inl h, q⟩
theorem v_strip {a b : Str} (h : a.length ≤ sizeLine) (q : Q (.str (Txt.stripChars a b)) H) : rStrip (.str a) [.str b] H Q := ⟨a, b, rfl, rfl, h, q⟩
theorem v_joinL {a : Str} {p : Addr} {ys : List Str} (h : SqL K H p (ys.map V.str)) (hl : (ys.map (·.length)).sum + ys.length * a.length ≤ 16777216) (q : Q (.str (Txt.join a ys)) H) : rJoin K (.str a) [.ref p] H Q := ⟨a, p, ys, rfl, rfl, .inl h, hl, q⟩
theorem v_app {p : Addr} {xs : List V} (h : H p = some (.lst xs)) (hl : xs.length < sizeLine) (q : Q .non (upd H p (.lst (xs ++ [y])))) : rAppend (.ref p) [y] H Q := ⟨p, xs, y, rfl, rfl, h, hl, q⟩
theorem s_kget {d : Addr} {tab : List (Str × V)} (h : ta σ H fun x H1 => x = .ref d ∧ tb σ H1 fun y H2 => tc σ H2 fun z H3 => ∃ k, y = .str k ∧ Q ((tab.lookup k).getD z) H3) : tKGet d tab ta tb tc σ H Q := h
theorem s_lc {wi : TI} {g : TG} {vs : List Nat} (h : wi σ H fun J H1 => ∀ D, H1 D = none → ∃ W : Nat → Nat → Hp → Prop, (∃ m, W 0 m (upd H1 D (.lst []))) ∧ ∀ i m H, W i m H →
  (J.stop i H ∧ Q (.ref D) H) ∨ (J.go i H ∧ ∃ Nx : Hp → Prop, (∀ H', Nx H' → ∃ m', m' < m ∧ W (i + 1) m' H') ∧ ∀ x H', J.yld i H x H' → g x (wipe σ vs) H' fun σ2 H2 => wipe σ2 vs = wipe σ vs ∧ tt σ2 H2 fun b H3 =>
    if b = true then te σ2 H3 fun y H4 => ∃ acc, H4 D = some (.lst acc) ∧ acc.length < sizeLine ∧ Nx (upd H4 D (.lst (acc ++ [y]))) else Nx H3)) : tLc wi g tt te vs σ H Q := h
theorem s_rng1 {R : It → Hp → Prop} (h : tr σ H fun vs H1 => ∃ j : Int, vs = [.int j] ∧ -(2 ^ 62) ≤ j ∧ j < 2 ^ 62 ∧ R (Itr 0 j.toNat) H1) : iRng1 tr σ H R := h
theorem s_ilst {R : It → Hp → Prop} (h : te σ H fun x H1 => ∃ a, x = .ref a ∧ (∃ xs, SqL K H1 a xs) ∧ R (Itl K a) H1) : iList K te σ H R := h
theorem s_isL {R : It → Hp → Prop} (h : te σ H fun x H1 => ∃ a, x = .ref a ∧ (∃ xs, SqL K H1 a xs) ∧ R (Itl K a) H1) : iSeq K te σ H R := .inl h
theorem s_isT {R : It → Hp → Prop} (h : te σ H fun x H1 => ∃ a, x = .ref a ∧ (∃ xs, SqT K H1 a xs) ∧ R (Itt K a) H1) : iSeq K te σ H R := .inr h
theorem s_cut (Mid : L2.St → Hp → Prop) (rest : ∀ σ' H', Mid σ' H' → u D σ' H') (h : ∀ U : L2.St → Hp → Prop, (∀ σ' H', Mid σ' H' → U σ' H') → t { D with nx := U } σ H) : tSeq t u D σ H := h (u D) rest
theorem s_gsL {n : Nat} {tg : TGs} {QS : L2.St → Hp → Prop} {a : Addr} {xs : List V} (h1 : SqL K H a xs) (h2 : xs.length = n) (h : tg xs σ H QS) : gSeq K n tg (.ref a) σ H QS := .inr ⟨a, xs, rfl, h1, h2, h⟩
theorem s_gsT {n : Nat} {tg : TGs} {QS : L2.St → Hp → Prop} {a : Addr} {xs : List V} (h1 : SqT K H a xs) (h2 : xs.length = n) (h : tg xs σ H QS) : gSeq K n tg (.ref a) σ H QS := .inl ⟨a, xs, rfl, h1, h2, h⟩
theorem s_gcons {tg : TGs} {QS : L2.St → Hp → Prop} (h : g v σ H fun σ' H' => tg vs σ' H' QS) : gCons g tg (v :: vs) σ H QS := ⟨v, vs, rfl, h⟩
theorem s_gnil {QS : L2.St → Hp → Prop} (h : QS σ H) : gNil [] σ H QS := ⟨rfl, h⟩
theorem s_meth {cs : Addr → Sp → Prop} {m : Str} (h : ta σ H fun x H1 => ∃ a C dx fs sp, x = .ref a ∧ H1 a = some (.ins C dx fs) ∧ cs C sp ∧ fs.lookup m = none ∧ tr σ H1 fun vs H2 => sp (x :: vs) H2 Q E) : tMethA cs m E ta tr σ H Q := h
theorem s_rev (h : te σ H fun x H1 => ∃ a xs, x = .ref a ∧ SqL K H1 a xs ∧ ∀ p, H1 p = none → Q (.ref p) (upd H1 p (.lst xs.reverse))) : tRevL K te σ H Q := h
theorem v_setD {p : Addr} {kvs : List (Key × V)} {k : Key} {QH : Hp → Prop} (h : H p = some (.dK kvs)) (hl : kvs.length < sizeLine) (q : QH (upd H p (.dK (putK kvs k v)))) : rSetX (.ref p) (kV k) v H QH := .inr ⟨p, _, rfl, .k h hl, q⟩
theorem s_dget (h : ta σ H fun x H1 => tb σ H1 fun y H2 => ∃ a v, x = .ref a ∧ DGet H2 a y (some v) ∧ Q v H2) : tDGet ta tb σ H Q := h
theorem s_dget2 (h : ta σ H fun x H1 => ∃ a, x = .ref a ∧ IsD H1 a ∧ tb σ H1 fun y H2 => tc σ H2 fun z H3 => ∃ o, DGet H3 a y o ∧ Q (o.getD z) H3) : tDGet2 ta tb tc σ H Q := h
theorem s_dnew (h : ∀ p, H p = none → Q (.ref p) (upd H p (.dK []))) : tDNewK σ H Q := h
theorem s_lockE {te : TE} {d : Addr} {u : HO} (h1 : H d = some u) (h2 : Mut (some u)) (h : ∀ od, te σ (upd H d (.frz od u)) fun v H' => H' d = some (.frz od u) ∧ Q v (upd H' d u)) : tLockE te σ H Q := ⟨d, u, h1, h2, h⟩
theorem s_ivals {R : It → Hp → Prop} (h : te σ H fun x H1 => ∃ d o kvs, x = .ref d ∧ H1 d = some (.frz o (.dK kvs)) ∧ R (Itd d o kvs) H1) : iVals te σ H R := h
theorem s_brk (h : D.bk σ H) : tBreak D σ H := h
theorem s_istr {R : It → Hp → Prop} (h : te σ H fun x H1 => ∃ z, x = .str z ∧ R (Its z) H1) : iStr te σ H R := h
theorem s_for {wi : TI} {g : TG} (h : wi σ H fun J H1 => ∃ W : Nat → Nat → L2.St → Hp → Prop, (∃ m, W 0 m σ H1) ∧ ∀ i m σ H, W i m σ H → (J.stop i H ∧ D.nx σ H) ∨ (J.go i H ∧ ∃ N : L2.St → Hp → Prop, (∀ σ' H', N σ' H' → ∃ m', m' < m ∧ W (i + 1) m' σ' H') ∧
    ∀ x H', J.yld i H x H' → g x σ H' fun σ2 H2 => t { D with nx := N, ct := N, bk := D.nx } σ2 H2)) : tFor wi g t D σ H := h
theorem s_yes (q : QB true H) : tYes σ H QB := q
theorem s_wipe {vs : List Nat} {σ2 : L2.St} {P : Prop} (h : wipe σ2 vs = wipe σ vs) (q : P) : wipe σ2 vs = wipe σ vs ∧ P := ⟨h, q⟩
theorem s_fldS {f : Str} (h : tb σ H fun y H1 => ta σ H1 fun x H2 => ∃ a C dx fs, x = .ref a ∧ H2 a = some (.ins C dx fs) ∧ Cls K C ∧ NoAttr K C f ∧ fs.length < 1000 ∧ D.nx σ (upd H2 a (.ins C dx (putF f y fs)))) : sFld K ta tb f D σ H := h
theorem putF_new {f : Str} {y : V} : ∀ {fs : List (Str × V)}, (fs.all fun q => !(q.1 == f)) = true → putF f y fs = fs ++ [(f, y)]
  | [], _ => rfl
  | (g, z) :: r, h => by
    have h2 : (!(g == f) && r.all fun q => !(q.1 == f)) = true := h
    obtain ⟨h3, h4⟩ := He.ba h2
    have hg : ¬ g = f := by
      intro e
      rw [e] at h3
      simp at h3
    show (if g = f then _ else (g, z) :: putF f y r) = _
    rw [if_neg hg, putF_new h4]
    rfl
theorem v_fldS {a C dx : Addr} {fs : List (Str × V)} {f : Str} {P : Hp → Prop} (ho : H a = some (.ins C dx fs)) (hc : Cls K C) (hn : NoAttr K C f) (hl : fs.length < 1000) (hf : (fs.all fun q => !(q.1 == f)) = true) (q : P (upd H a (.ins C dx (fs ++ [(f, y)])))) :
    ∃ a' C' dx' fs', V.ref a = .ref a' ∧ H a' = some (.ins C' dx' fs') ∧ Cls K C' ∧ NoAttr K C' f ∧ fs'.length < 1000 ∧ P (upd H a' (.ins C' dx' (putF f y fs'))) := ⟨a, C, dx, fs, rfl, ho, hc, hn, hl, by rw [putF_new hf]; exact q⟩
theorem s_fld {f : Str} (h : ta σ H fun x H1 => ∃ a C dx fs v, x = .ref a ∧ H1 a = some (.ins C dx fs) ∧ Cls K C ∧ NoAttr K C f ∧ fs.lookup f = some v ∧ Q v H1) : tFld K ta f σ H Q := h
theorem v_fld {a C dx : Addr} {fs : List (Str × V)} {f : Str} {P : V → Prop} (ho : H a = some (.ins C dx fs)) (hc : Cls K C) (hn : NoAttr K C f) (hf : fs.lookup f = some v) (q : P v) :
    ∃ a' C' dx' fs' v', V.ref a = .ref a' ∧ H a' = some (.ins C' dx' fs') ∧ Cls K C' ∧ NoAttr K C' f ∧ fs'.lookup f = some v' ∧ P v' := ⟨a, C, dx, fs, v, rfl, ho, hc, hn, hf, q⟩
end
theorem s_blP {b : Bool} {P : Bool → Prop} (q : P b) : ∃ c, V.bl b = .bl c ∧ P c := ⟨b, rfl, q⟩
theorem s_strP {b : Str} {P : Str → Prop} (q : P b) : ∃ c, V.str b = .str c ∧ P c := ⟨b, rfl, q⟩
theorem TyX.ins {K : PySem.W.Frag} {H : Hp} {a C dx : Addr} {fs : List (Str × V)} (e : H a = some (.ins C dx fs)) (c : Cls K C) (i : InsK K C) : TyX K H (.ref a) (.ref C) := .base (.ins e c i.ha i.hn i.htk i.hm)
theorem s_intP {b : Int} {P : Int → Prop} (q : P b) : ∃ c, V.int b = .int c ∧ P c := ⟨b, rfl, q⟩
theorem ite_not {c : Bool} {A B : Prop} (h : if c = true then B else A) : if (!c) = true then A else B := by cases c <;> simpa using h
theorem itT {p : Prop} [Decidable p] {A B : Prop} (h : p) (q : A) : if decide p = true then A else B := by
  rw [decide_eq_true h]
  exact iteT q
theorem itF {p : Prop} [Decidable p] {A B : Prop} (h : ¬ p) (q : B) : if decide p = true then A else B := by
  rw [decide_eq_false h]
  exact iteF q
theorem it2 {p : Prop} [Decidable p] {A B : Prop} (h1 : p → A) (h2 : ¬ p → B) : if decide p = true then A else B := by
  by_cases h : p
  · exact itT h (h1 h)
  · exact itF h (h2 h)
theorem sz {n : Nat} (h : n ≤ 100000) : n ≤ sizeLine := Nat.le_trans h (by decide)
/-! ## heaps -/
theorem _root_.L2.Same.new {H : Hp} {p : Addr} {o : HO} (h : H p = none) : Same H (upd H p o) := fun a u e => by
  rw [upd_ne (ne_of_none e h)]
  exact e
theorem _root_.L2.Same.at_ {H H' : Hp} {a : Addr} {o : HO} (s : Same H H') (h : H a = some o) : H' a = some o := s a o h
/-- what H0 did not know may change -/
theorem _root_.L2.Same.mut {H0 H : Hp} {p : Addr} {o : HO} (s : Same H0 H) (h : H0 p = none) : Same H0 (upd H p o) := fun a u e => by
  rw [upd_ne (ne_of_none e h)]
  exact s a u e
theorem _root_.L2.Same.sqt {K : PySem.W.Frag} {H H' : Hp} {a : Addr} {xs : List V} (e : Same H H') (h : SqT K H a xs) : SqT K H' a xs := by
  rcases h with (h | ⟨o, h⟩) | h
  · exact .inl (.inl (e _ _ h))
  · exact .inl (.inr ⟨o, e _ _ h⟩)
  · exact .inr h
/-- all kept but at w -/
def But (w : Addr) (H H' : Hp) : Prop := ∀ b o, b ≠ w → H b = some o → H' b = some o
theorem But.refl (w : Addr) (H : Hp) : But w H H := fun _ _ _ h => h
theorem But.trans {w : Addr} {H H1 H2 : Hp} (a : But w H H1) (b : But w H1 H2) : But w H H2 := fun c o n h => b c o n (a c o n h)
theorem _root_.L2.Same.but {w : Addr} {H H1 : Hp} (a : Same H H1) : But w H H1 := fun c o _ h => a c o h
theorem But.upd {w : Addr} {H : Hp} {o : HO} : But w H (upd H w o) := fun b u n h => by
  rw [upd_ne n]
  exact h
theorem atI_zero {α : Type} {a : α} {l : List α} : atI (a :: l) (0 : Int) = some a := atI_nat (j := 0) rfl
/-! ## kinds of values -/
@[reducible] def strB : V → Bool
  | .str _ => true
  | _ => false
@[reducible] def intB : V → Bool
  | .int _ => true
  | .bl _ => true
  | _ => false
@[reducible] def blB : V → Bool
  | .bl _ => true
  | _ => false
structure Knd (K : PySem.W.Frag) (H : Hp) (x : V) : Prop where
  ex : ∃ t, TyX K H x t ∧ PySem.W.kitOne K t (.type "str") = some (strB x) ∧ PySem.W.kitOne K t (.type "int") = some (intB x) ∧ PySem.W.kitOne K t (.type "bool") = some (blB x)
  len : ∀ s, x = .str s → s.length ≤ 100000
theorem kt_str : kitB "str" "str" = some true ∧ kitB "str" "int" = some false ∧ kitB "str" "bool" = some false := by decide +kernel
theorem kt_int : kitB "int" "str" = some false ∧ kitB "int" "int" = some true ∧ kitB "int" "bool" = some false := by decide +kernel
theorem kt_bool : kitB "bool" "str" = some false ∧ kitB "bool" "int" = some true ∧ kitB "bool" "bool" = some true := by decide +kernel
theorem kt_NoneType : kitB "NoneType" "str" = some false ∧ kitB "NoneType" "int" = some false ∧ kitB "NoneType" "bool" = some false := by decide +kernel
theorem Knd.str {K : PySem.W.Frag} {H : Hp} {s : Str} (h : s.length ≤ 100000) : Knd K H (.str s) :=
  ⟨⟨_, .base (.str s), kit_ty kt_str.1, kit_ty kt_str.2.1, kit_ty kt_str.2.2⟩, fun _ e => by injection e with e; rw [← e]; exact h⟩
theorem Knd.int {K : PySem.W.Frag} {H : Hp} {i : Int} : Knd K H (.int i) :=
  ⟨⟨_, .base (.int i), kit_ty kt_int.1, kit_ty kt_int.2.1, kit_ty kt_int.2.2⟩, fun _ e => nomatch e⟩
theorem Knd.bl {K : PySem.W.Frag} {H : Hp} {b : Bool} : Knd K H (.bl b) :=
  ⟨⟨_, .base (.bl b), kit_ty kt_bool.1, kit_ty kt_bool.2.1, kit_ty kt_bool.2.2⟩, fun _ e => nomatch e⟩
theorem Knd.non {K : PySem.W.Frag} {H : Hp} : Knd K H .non :=
  ⟨⟨_, .base .non, kit_ty kt_NoneType.1, kit_ty kt_NoneType.2.1, kit_ty kt_NoneType.2.2⟩, fun _ e => nomatch e⟩
theorem _root_.L2.TyX.same {K : PySem.W.Frag} {H H' : Hp} {x : V} {t : Value} (s : Same H H') (h : TyX K H x t) : TyX K H' x t := by
  cases h with
  | base b =>
    refine .base ?_
    cases b with
    | non => exact .non
    | bl y => exact .bl y
    | int i => exact .int i
    | str y => exact .str y
    | flt y => exact .flt y
    | lst ea => exact .lst (s _ _ ea)
    | frz ea => exact .frz (s _ _ ea)
    | tup ea => exact .tup (s _ _ ea)
    | dK ea => exact .dK (s _ _ ea)
    | dT ea => exact .dT (s _ _ ea)
    | ins ea cl ha hn htk hm => exact .ins (s _ _ ea) cl ha hn htk hm
  | byt b => exact .byt b
  | set ea => exact .set (s _ _ ea)
  | kList e c => exact .kList e c
  | kTuple e c => exact .kTuple e c
  | kDict e c => exact .kDict e c
  | fTuple e => exact .fTuple (s _ _ e)
  | fDict e => exact .fDict (s _ _ e)
theorem Knd.same {K : PySem.W.Frag} {H H' : Hp} {x : V} (s : Same H H') (h : Knd K H x) : Knd K H' x := by
  obtain ⟨⟨t, h1, h2⟩, h3⟩ := h
  exact ⟨⟨t, h1.same s, h2⟩, h3⟩
end Kn

set_option Elab.async false
set_option linter.all false
set_option maxRecDepth 100000
set_option maxHeartbeats 2000000
namespace Kn
open PySem PySem.Spec PyProof.Rows L2
/-! ## texts -/
abbrev cl (s : Str) : List Nat := s.cps.toList
theorem cl_ext {x y : Str} (h : cl x = cl y) : x = y := by
  obtain ⟨⟨a⟩⟩ := x
  obtain ⟨⟨b⟩⟩ := y
  have : a = b := h
  rw [this]
theorem cl_len (s : Str) : s.length = (cl s).length := by simp [cl, Str.length]
theorem cl_app (x y : Str) : cl (x ++ y) = cl x ++ cl y := by
  show (x.cps ++ y.cps).toList = _
  simp [cl]
theorem empty_cl : cl ("" : Str) = [] := by decide +kernel
theorem ne_empty {s : Str} (h : cl s ≠ []) : ¬ s = "" := fun e => h (by rw [e, empty_cl])
/-- a name: one to eight small letters -/
structure Nm (s : Str) : Prop where
  ne : cl s ≠ []
  le : (cl s).length ≤ 8
  lt : ∀ c ∈ cl s, 97 ≤ c ∧ c ≤ 122
def LETk : Str := "abcdefghijklmnopqrstuvwxyz"
theorem LET_has : ∀ c : Nat, 97 ≤ c → c ≤ 122 → LETk.cps.contains c = true := by
  have h : ∀ k : _root_.Fin 26, LETk.cps.contains (97 + k.val) = true := by decide +kernel
  intro c h1 h2
  have := h ⟨c - 97, by omega⟩
  have e : 97 + (c - 97) = c := by omega
  simpa [e] using this
theorem takeWhile_id {α : Type} {p : α → Bool} : ∀ {l : List α}, (∀ x ∈ l, p x = true) → l.takeWhile p = l
  | [], _ => rfl
  | a :: r, h => by
    rw [List.takeWhile_cons, if_pos (h a (List.mem_cons_self ..)), takeWhile_id fun x hx => h x (List.mem_cons_of_mem _ hx)]
theorem strip_none {s : Str} (h : ∀ c ∈ cl s, LETk.cps.contains c = true) : Txt.stripChars s LETk = "" := by
  unfold Txt.stripChars
  rw [stripBy_eq]
  have e1 : PySem.stripLo LETk.cps.contains true s = (cl s).length := by
    show ((cl s).takeWhile _).length = _
    rw [takeWhile_id h]
  rw [e1]
  have e2 : PySem.stripHi LETk.cps.contains true s (cl s).length = (cl s).length := by
    show s.length - ((((cl s).drop (cl s).length).reverse).takeWhile _).length = _
    rw [List.drop_length]
    simp [cl_len]
  rw [e2]
  apply cl_ext
  rw [empty_cl]
  show (s.cps.extract (cl s).length (cl s).length).toList = []
  simp
theorem Nm.strip {s : Str} (h : Nm s) : Txt.stripChars s LETk = "" := strip_none fun c hc => LET_has c (h.lt c hc).1 (h.lt c hc).2
theorem Nm.len {s : Str} (h : Nm s) : s.length ≤ 8 := by
  rw [cl_len]
  exact h.le
def nmB (s : Str) : Bool := !(cl s).isEmpty && (decide ((cl s).length ≤ 8) && (cl s).all fun c => decide (97 ≤ c) && decide (c ≤ 122))
theorem nm_of {s : Str} (h : nmB s = true) : Nm s := by
  unfold nmB at h
  simp only [Bool.and_eq_true, Bool.not_eq_true', decide_eq_true_eq, List.all_eq_true] at h
  obtain ⟨h1, h2, h3⟩ := h
  exact ⟨fun e => (by rw [e] at h1; cases h1), h2, fun c hc => h3 c hc⟩
theorem Nm.ok {s : Str} (h : Nm s) : PyData.strOk s = true := by
  unfold PyData.strOk
  rw [← Array.all_toList]
  exact List.all_eq_true.mpr fun c hc => decide_eq_true (by have := h.lt c hc; omega)
/-- one sign -/
abbrev one (c : Nat) : Str := ⟨#[c]⟩
theorem cl_one (c : Nat) : cl (one c) = [c] := rfl
theorem join_empty : ∀ {cs : List Nat}, cl (Str.join "" (cs.map one)) = cs
  | [] => rfl
  | [c] => rfl
  | c :: d :: r => by
    have ih := join_empty (cs := d :: r)
    show cl (one c ++ "" ++ Str.join "" ((d :: r).map one)) = _
    rw [cl_app, cl_app, empty_cl, ih]
    rfl
/-! ## unlike things -/
theorem erase_len {α : Type} [DecidableEq α] {a : α} {l : List α} (h : a ∈ l) : (l.erase a).length + 1 = l.length := by
  have := List.length_erase_of_mem h
  have : 0 < l.length := List.length_pos_of_mem h
  omega
theorem nodup_le {α : Type} [DecidableEq α] : ∀ {xs ys : List α}, xs.Nodup → (∀ x ∈ xs, x ∈ ys) → xs.length ≤ ys.length
  | [], _, _, _ => Nat.zero_le _
  | x :: xs, ys, hn, hs => by
    obtain ⟨h1, h2⟩ := List.nodup_cons.mp hn
    have hx : x ∈ ys := hs x (List.mem_cons_self ..)
    have := nodup_le (xs := xs) (ys := ys.erase x) h2 fun z hz => by
      have hne : z ≠ x := fun e => h1 (e ▸ hz)
      exact (List.mem_erase_of_ne hne).mpr (hs z (List.mem_cons_of_mem _ hz))
    have := erase_len hx
    rw [List.length_cons]
    omega
theorem some_not_in {α : Type} [DecidableEq α] {xs ys : List α} (hn : xs.Nodup) (hl : ys.length < xs.length) : ∃ x ∈ xs, x ∉ ys := by
  apply Classical.byContradiction
  intro h
  have : ∀ x ∈ xs, x ∈ ys := fun x hx => Classical.byContradiction fun hy => h ⟨x, hx, hy⟩
  have := nodup_le hn this
  omega
/-! ## a well: a list of three numbers, changed by draws -/
def WellAt (H : Hp) (w : Addr) : Prop := ∃ a b c : Int, H w = some (.lst [.int a, .int b, .int c])
/-- what a draw leaves: all but the well -/
structure Dr (w : Addr) (H H' : Hp) : Prop where
  but : But w H H'
  well : WellAt H' w
theorem Dr.refl {w : Addr} {H : Hp} (h : WellAt H w) : Dr w H H := ⟨But.refl w H, h⟩
theorem Dr.trans {w : Addr} {H H1 H2 : Hp} (a : Dr w H H1) (b : Dr w H1 H2) : Dr w H H2 := ⟨a.but.trans b.but, b.well⟩
theorem Dr.free {w p : Addr} {H H' : Hp} (a : Dr w H H') (h0 : WellAt H w) (h : H' p = none) : H p = none := by
  cases e : H p with
  | none => rfl
  | some o =>
    by_cases hp : p = w
    · obtain ⟨_, _, _, q⟩ := a.well
      rw [hp, q] at h
      cases h
    · rw [a.but p o hp e] at h
      cases h
theorem Dr.new {w p : Addr} {H H' : Hp} {o : HO} (a : Dr w H H') (h : H' p = none) : Dr w H (upd H' p o) := by
  obtain ⟨x, y, z, q⟩ := a.well
  have hp : p ≠ w := fun e => by rw [e, q] at h; cases h
  refine ⟨fun b u n e => ?_, x, y, z, by rw [upd_ne hp.symm]; exact q⟩
  rw [upd_ne (ne_of_none (a.but b u n e) h)]
  exact a.but b u n e
/-- what H did not know may change -/
theorem Dr.mut {w p : Addr} {H H' : Hp} {o : HO} (a : Dr w H H') (h0 : WellAt H w) (h : H p = none) : Dr w H (upd H' p o) := by
  obtain ⟨x, y, z, q⟩ := a.well
  obtain ⟨_, _, _, q0⟩ := h0
  have hp : p ≠ w := fun e => by rw [e, q0] at h; cases h
  refine ⟨fun b u n e => ?_, x, y, z, by rw [upd_ne hp.symm]; exact q⟩
  rw [upd_ne (ne_of_none e h)]
  exact a.but b u n e
theorem Dr.ne {w p : Addr} {H : Hp} (h0 : WellAt H w) (h : H p = none) : p ≠ w := fun e => by
  obtain ⟨_, _, _, q⟩ := h0
  rw [e, q] at h
  cases h
/-- a well made after H: all of H stands -/
theorem Dr.same {w : Addr} {H0 H H' : Hp} (a : Dr w H H') (s : Same H0 H) (h : H0 w = none) : Same H0 H' := fun b o e => a.but b o (ne_of_none e h) (s b o e)
/-! ## data -/
/-- the heap without what stands at w -/
def hid (w : Addr) (H : Hp) : Hp := fun b => if b = w then none else H b
theorem hid_at {w a : Addr} {H : Hp} {o : HO} (h : hid w H a = some o) : H a = some o ∧ a ≠ w := by
  unfold hid at h
  by_cases e : a = w
  · rw [if_pos e] at h
    cases h
  · rw [if_neg e] at h
    exact ⟨h, e⟩
theorem hid_of {w a : Addr} {H : Hp} {o : HO} (h : H a = some o) (n : a ≠ w) : hid w H a = some o := by
  unfold hid
  rw [if_neg n]
  exact h
theorem hid_same {w : Addr} {H H' : Hp} (h : But w H H') : Same (hid w H) (hid w H') := fun b o e => by
  obtain ⟨h1, h2⟩ := hid_at e
  exact hid_of (h b o h2 h1) h2
theorem hid_le {w : Addr} {H : Hp} : Same (hid w H) H := fun b o e => (hid_at e).1
/-- scalars -/
def scB : V → Bool
  | .non => true
  | .bl _ => true
  | .int _ => true
  | .str s => PyData.strOk s
  | _ => false
def toD : V → PyData
  | .bl b => .bool b
  | .int i => .int i
  | .str s => .str s
  | _ => .none
theorem dp_sc {K : PySem.W.Frag} {H : Hp} {v : V} (h : scB v = true) : Dp K H v (toD v) := by
  cases v with
  | non => exact .non
  | bl b => exact .bl b
  | int i => exact .int i
  | str s => exact .str s
  | _ => cases h
theorem dpall_sc {K : PySem.W.Frag} {H : Hp} : ∀ {xs : List V}, xs.all scB = true → DpAll K H xs (xs.map toD)
  | [], _ => .nil
  | x :: xs, h => by
    obtain ⟨h1, h2⟩ := He.ba (show (scB x && xs.all scB) = true from h)
    exact .cons (dp_sc h1) (dpall_sc h2)
theorem lay_sc {v : V} (h : scB v = true) : (toD v).canLay0 = true ∧ (toD v).depth ≤ 1 := by
  cases v with
  | non => exact ⟨rfl, by simp [toD, PyData.depth]⟩
  | bl b => exact ⟨rfl, by simp [toD, PyData.depth]⟩
  | int i => exact ⟨rfl, by simp [toD, PyData.depth]⟩
  | str s => exact ⟨by simpa [toD, PyData.canLay0, scB] using h, by simp [toD, PyData.depth]⟩
  | _ => cases h
theorem layall_sc : ∀ {xs : List V}, xs.all scB = true → PyData.canLayAll0 (xs.map toD) = true ∧ PyData.depthAll (xs.map toD) ≤ 1
  | [], _ => ⟨rfl, by simp [PyData.depthAll]⟩
  | x :: xs, h => by
    obtain ⟨h1, h2⟩ := He.ba (show (scB x && xs.all scB) = true from h)
    obtain ⟨a1, a2⟩ := lay_sc h1
    obtain ⟨b1, b2⟩ := layall_sc h2
    refine ⟨?_, ?_⟩
    · simp only [List.map_cons, PyData.canLayAll0, a1, b1, Bool.and_self]
    · simp only [List.map_cons, PyData.depthAll]
      omega
theorem shaped_tup {xs : List V} (h : xs.all scB = true) : SeqAt.shaped (.tuple (xs.map toD)) = true := by
  obtain ⟨h1, h2⟩ := layall_sc h
  have h3 : (PyData.tuple (xs.map toD)).canLay0 = true := by simpa only [PyData.canLay0] using h1
  have h4 : (PyData.tuple (xs.map toD)).depth ≤ 64 := by
    simp only [PyData.depth]
    omega
  exact Bool.and_eq_true_iff.mpr ⟨h3, decide_eq_true h4⟩
theorem shaped_lst {xs : List V} (h : xs.all scB = true) : SeqAt.shaped (.list (xs.map toD)) = true := by
  obtain ⟨h1, h2⟩ := layall_sc h
  have h3 : (PyData.list (xs.map toD)).canLay0 = true := by simpa only [PyData.canLay0] using h1
  have h4 : (PyData.list (xs.map toD)).depth ≤ 64 := by
    simp only [PyData.depth]
    omega
  exact Bool.and_eq_true_iff.mpr ⟨h3, decide_eq_true h4⟩
theorem eqv_self {d : PyData} (h : SeqAt.shaped d = true) : PyData.eqv d d = true := SeqAt.eqv_refl d (SeqAt.canLay_of_shaped h)
section
variable {K : PySem.W.Frag} {H : Hp} {Q : VK} {p r : Addr} {xs : List V}
/-- two tuples of the same scalars -/
theorem v_eqTT (h1 : SqT K H p xs) (h2 : SqT K H r xs) (hs : xs.all scB = true) (q : Q (.bl true) H) : rEqX K (.ref p) (.ref r) H Q :=
  v_eqD (.tup h1 (dpall_sc hs)) (.tup h2 (dpall_sc hs)) (shaped_tup hs) (shaped_tup hs) (by rw [eqv_self (shaped_tup hs)]; exact q)
theorem v_neLL (h1 : SqL K H p xs) (h2 : SqL K H r xs) (hs : xs.all scB = true) (q : Q (.bl false) H) : rNeX K (.ref p) (.ref r) H Q :=
  v_neD (.lst h1 (dpall_sc hs)) (.lst h2 (dpall_sc hs)) (shaped_lst hs) (shaped_lst hs) (by rw [eqv_self (shaped_lst hs)]; exact q)
/-- a list of scalars and the empty list -/
theorem v_neL0 (h1 : SqL K H p xs) (h2 : SqL K H r []) (hs : xs.all scB = true) (q : Q (.bl (!xs.isEmpty)) H) : rNeX K (.ref p) (.ref r) H Q := by
  refine v_neD (.lst h1 (dpall_sc hs)) (.lst h2 .nil) (shaped_lst hs) (shaped_lst (xs := []) rfl) ?_
  have e : PyData.eqv (.list (xs.map toD)) (.list []) = xs.isEmpty := by
    cases xs with
    | nil => rfl
    | cons a r => rfl
  rw [e]
  exact q
end
/-! ## places -/
theorem atI_lt {α : Type} {xs : List α} {r : Int} (h0 : 0 ≤ r) (h1 : r < xs.length) : ∃ v, atI xs r = some v ∧ v ∈ xs ∧ xs[r.toNat]? = some v := by
  have hl : r.toNat < xs.length := by omega
  refine ⟨xs[r.toNat], ?_, List.getElem_mem _, List.getElem?_eq_getElem hl⟩
  have := atI_nat (xs := xs) (j := r.toNat) (v := xs[r.toNat]) (List.getElem?_eq_getElem hl)
  rwa [Int.toNat_of_nonneg h0] at this
theorem fmod_lt {a n : Int} (h : 0 < n) : 0 ≤ a.fmod n ∧ a.fmod n < n := by
  rw [Int.fmod_eq_emod_of_nonneg _ (by omega)]
  exact ⟨Int.emod_nonneg _ (by omega), Int.emod_lt_of_pos _ h⟩
theorem cl_cut7 (s : Str) : cl (cutS s none (some 7)) = (cl s).take 7 := by
  show (((cl s).drop 0).take (HT.sIx s.length s.length (some 7) - HT.sIx s.length 0 none)) = _
  rw [List.drop_zero]
  have e : HT.sIx s.length s.length (some 7) = min 7 s.length := HT.sIx_nat _ _ 7
  rw [e, cl_len]
  show (cl s).take (min 7 (cl s).length - 0) = _
  rw [Nat.sub_zero, List.take_eq_take_iff]
  omega
theorem nm_cut {s : Str} (h : Nm s) {c : Nat} (h1 : 97 ≤ c) (h2 : c ≤ 122) : Nm (cutS s none (some 7) ++ one c) := by
  have e : cl (cutS s none (some 7) ++ one c) = (cl s).take 7 ++ [c] := by rw [cl_app, cl_cut7, cl_one]
  refine ⟨by rw [e]; simp, ?_, ?_⟩
  · rw [e, List.length_append, List.length_take, List.length_singleton]
    omega
  · rw [e]
    intro d hd
    rcases List.mem_append.mp hd with hd | hd
    · exact h.lt d (List.mem_of_mem_take hd)
    · rw [List.mem_singleton.mp hd]
      exact ⟨h1, h2⟩
def cands (p : Str) : List Str := (List.range 26).map fun j => p ++ one (97 + j)
theorem app_inj {p : Str} {c d : Nat} (h : p ++ one c = p ++ one d) : c = d := by
  have e : cl p ++ [c] = cl p ++ [d] := by
    have := congrArg cl h
    rwa [cl_app, cl_app] at this
  have := List.append_cancel_left e
  injection this
theorem cands_nodup (p : Str) : (cands p).Nodup := by
  unfold cands
  refine List.pairwise_map.mpr (List.Pairwise.imp ?_ List.nodup_range)
  intro a b hab e
  have := app_inj e
  omega
theorem inV_str {z : Str} : ∀ {ns : List Str}, inV (.str z) (ns.map V.str) = decide (z ∈ ns)
  | [] => by simp [inV]
  | a :: r => by
    have ih := inV_str (z := z) (ns := r)
    unfold inV at ih ⊢
    rw [List.map_cons, List.any_cons, ih]
    by_cases h : a = z
    · subst h
      simp [eqV]
    · have h' : ¬ z = a := fun e => h e.symm
      simp [eqV, h, h']
theorem flat_str {ns : List Str} : (ns.map V.str).all flatV = true := by
  rw [List.all_map]
  exact List.all_eq_true.mpr fun _ _ => rfl
theorem sc_str {ns : List Str} (h : ∀ s ∈ ns, Nm s) : (ns.map V.str).all scB = true := by
  rw [List.all_map]
  exact List.all_eq_true.mpr fun s hs => (h s hs).ok
theorem v_niStr {K : PySem.W.Frag} {H : Hp} {Q : VK} {z : Str} {l : Addr} {ns : List Str} (h : SqL K H l (ns.map V.str)) (q : Q (.bl (!decide (z ∈ ns))) H) : rNotInX K (.str z) (.ref l) H Q :=
  .inl ⟨l, ns.map V.str, rfl, .inl h, rfl, flat_str, by rw [inV_str]; exact q⟩
end Kn

set_option Elab.async false
set_option linter.all false
set_option maxRecDepth 100000
set_option maxHeartbeats 2000000
namespace Kn
open PySem PySem.Spec PyProof.Rows L2
/-! ## data: any depth, no dict -/
mutual
def smD : PyData → Bool
  | .str s => decide (s.length ≤ 100000)
  | .list xs => smAll xs
  | .tuple xs => smAll xs
  | _ => true
def smAll : List PyData → Bool
  | [] => true
  | x :: xs => smD x && smAll xs
end
/-- fit to be read: no dict, not deep, texts small -/
structure Fit (d : PyData) : Prop where
  sh : SeqAt.shaped d = true
  sm : smD d = true
theorem canAll_mem : ∀ {xs : List PyData} {x : PyData}, PyData.canLayAll0 xs = true → x ∈ xs → x.canLay0 = true
  | y :: r, x, h, hx => by
    have h' : y.canLay0 = true ∧ PyData.canLayAll0 r = true := by simpa [PyData.canLayAll0] using h
    rcases List.mem_cons.mp hx with e | hx
    · rw [e]; exact h'.1
    · exact canAll_mem h'.2 hx
theorem depAll_mem : ∀ {xs : List PyData} {x : PyData}, x ∈ xs → x.depth ≤ PyData.depthAll xs
  | y :: r, x, hx => by
    simp only [PyData.depthAll]
    rcases List.mem_cons.mp hx with e | hx
    · rw [e]; exact Nat.le_max_left _ _
    · exact Nat.le_trans (depAll_mem hx) (Nat.le_max_right _ _)
theorem smAll_mem : ∀ {xs : List PyData} {x : PyData}, smAll xs = true → x ∈ xs → smD x = true
  | y :: r, x, h, hx => by
    have h' : smD y = true ∧ smAll r = true := by simpa [smAll] using h
    rcases List.mem_cons.mp hx with e | hx
    · rw [e]; exact h'.1
    · exact smAll_mem h'.2 hx
theorem canAll_of : ∀ {xs : List PyData}, (∀ x ∈ xs, x.canLay0 = true) → PyData.canLayAll0 xs = true
  | [], _ => rfl
  | y :: r, h => by simp only [PyData.canLayAll0, h y (List.mem_cons_self ..), canAll_of fun x hx => h x (List.mem_cons_of_mem _ hx), Bool.and_self]
theorem depAll_of {n : Nat} : ∀ {xs : List PyData}, (∀ x ∈ xs, x.depth ≤ n) → PyData.depthAll xs ≤ n
  | [], _ => Nat.zero_le _
  | y :: r, h => by
    simp only [PyData.depthAll]
    exact Nat.max_le.mpr ⟨h y (List.mem_cons_self ..), depAll_of fun x hx => h x (List.mem_cons_of_mem _ hx)⟩
theorem smAll_of : ∀ {xs : List PyData}, (∀ x ∈ xs, smD x = true) → smAll xs = true
  | [], _ => rfl
  | y :: r, h => by simp only [smAll, h y (List.mem_cons_self ..), smAll_of fun x hx => h x (List.mem_cons_of_mem _ hx), Bool.and_self]
theorem Fit.lst_mem {xs : List PyData} {x : PyData} (h : Fit (.list xs)) (hx : x ∈ xs) : Fit x := by
  have h1 : PyData.canLayAll0 xs = true := by simpa only [PyData.canLay0] using SeqAt.canLay_of_shaped h.sh
  have h2 : PyData.depthAll xs + 1 ≤ 64 := by simpa only [PyData.depth] using SeqAt.depth_of_shaped h.sh
  have h3 := depAll_mem hx
  exact ⟨Bool.and_eq_true_iff.mpr ⟨canAll_mem h1 hx, decide_eq_true (by omega)⟩, smAll_mem (by simpa only [smD] using h.sm) hx⟩
theorem Fit.tup_mem {xs : List PyData} {x : PyData} (h : Fit (.tuple xs)) (hx : x ∈ xs) : Fit x := by
  have h1 : PyData.canLayAll0 xs = true := by simpa only [PyData.canLay0] using SeqAt.canLay_of_shaped h.sh
  have h2 : PyData.depthAll xs + 1 ≤ 64 := by simpa only [PyData.depth] using SeqAt.depth_of_shaped h.sh
  have h3 := depAll_mem hx
  exact ⟨Bool.and_eq_true_iff.mpr ⟨canAll_mem h1 hx, decide_eq_true (by omega)⟩, smAll_mem (by simpa only [smD] using h.sm) hx⟩
/-- fit, and of that depth at most -/
structure FitN (n : Nat) (d : PyData) : Prop where
  can : d.canLay0 = true
  dep : d.depth ≤ n
  sm : smD d = true
theorem FitN.fit {n : Nat} {d : PyData} (h : FitN n d) (hn : n ≤ 64) : Fit d := ⟨Bool.and_eq_true_iff.mpr ⟨h.can, decide_eq_true (Nat.le_trans h.dep hn)⟩, h.sm⟩
theorem FitN.lst {n : Nat} {xs : List PyData} (h : ∀ x ∈ xs, FitN n x) : FitN (n + 1) (.list xs) :=
  ⟨by simpa only [PyData.canLay0] using canAll_of fun x hx => (h x hx).can, by simp only [PyData.depth]; exact Nat.succ_le_succ (depAll_of fun x hx => (h x hx).dep), by simpa only [smD] using smAll_of fun x hx => (h x hx).sm⟩
theorem FitN.tup {n : Nat} {xs : List PyData} (h : ∀ x ∈ xs, FitN n x) : FitN (n + 1) (.tuple xs) :=
  ⟨by simpa only [PyData.canLay0] using canAll_of fun x hx => (h x hx).can, by simp only [PyData.depth]; exact Nat.succ_le_succ (depAll_of fun x hx => (h x hx).dep), by simpa only [smD] using smAll_of fun x hx => (h x hx).sm⟩
theorem FitN.int {n : Nat} {i : Int} : FitN n (.int i) := ⟨rfl, by simp [PyData.depth], rfl⟩
theorem FitN.bl {n : Nat} {b : Bool} : FitN n (.bool b) := ⟨rfl, by simp [PyData.depth], rfl⟩
theorem FitN.str {n : Nat} {s : Str} (h : PyData.strOk s = true) (hl : s.length ≤ 100000) : FitN n (.str s) := ⟨by simpa only [PyData.canLay0] using h, by simp [PyData.depth], by simp only [smD, decide_eq_true_eq]; exact hl⟩
theorem FitN.nm {n : Nat} {s : Str} (h : Nm s) : FitN n (.str s) := .str h.ok (by have := h.len; omega)
theorem FitN.em {n : Nat} : FitN n (.str "") := .str (by decide +kernel) (by decide +kernel)
theorem Fit.refl {d : PyData} (h : Fit d) : PyData.eqv d d = true := eqv_self h.sh
/-! ## data in a heap -/
mutual
theorem Dp.same {K : PySem.W.Frag} {H H' : Hp} (s : Same H H') : ∀ {d : PyData} {v : V}, Dp K H v d → Dp K H' v d
  | _, _, .non => .non
  | _, _, .bl b => .bl b
  | _, _, .int i => .int i
  | _, _, .str x => .str x
  | _, _, .lst h1 h2 => .lst (s.seq h1) (DpAll.same s h2)
  | _, _, .tup h1 h2 => .tup (s.sqt h1) (DpAll.same s h2)
theorem DpAll.same {K : PySem.W.Frag} {H H' : Hp} (s : Same H H') : ∀ {ds : List PyData} {vs : List V}, DpAll K H vs ds → DpAll K H' vs ds
  | _, _, .nil => .nil
  | _, _, .cons h1 h2 => .cons (Dp.same s h1) (DpAll.same s h2)
end
theorem DpAll.len {K : PySem.W.Frag} {H : Hp} : ∀ {vs : List V} {ds : List PyData}, DpAll K H vs ds → vs.length = ds.length
  | _, _, .nil => rfl
  | _, _, .cons _ h => congrArg Nat.succ (DpAll.len h)
theorem DpAll.at_ {K : PySem.W.Frag} {H : Hp} : ∀ {vs : List V} {ds : List PyData} {i : Nat} {v : V}, DpAll K H vs ds → vs[i]? = some v → ∃ d, ds[i]? = some d ∧ Dp K H v d
  | _, _, 0, _, .cons h _, e => ⟨_, rfl, by injection e with e; rw [← e]; exact h⟩
  | _, _, i + 1, _, .cons _ h, e => DpAll.at_ (i := i) h e
theorem DpAll.snoc {K : PySem.W.Frag} {H : Hp} : ∀ {vs : List V} {ds : List PyData} {v : V} {d : PyData}, DpAll K H vs ds → Dp K H v d → DpAll K H (vs ++ [v]) (ds ++ [d])
  | _, _, _, _, .nil, h => .cons h .nil
  | _, _, _, _, .cons h1 h2, h => .cons h1 (DpAll.snoc h2 h)
theorem DpAll.strs {K : PySem.W.Frag} {H : Hp} : ∀ {ns : List Str}, DpAll K H (ns.map V.str) (ns.map PyData.str)
  | [] => .nil
  | a :: r => .cons (.str a) DpAll.strs
theorem DpAll.ints {K : PySem.W.Frag} {H : Hp} : ∀ {ns : List Int}, DpAll K H (ns.map V.int) (ns.map PyData.int)
  | [] => .nil
  | a :: r => .cons (.int a) DpAll.ints
/-- kinds of data -/
@[reducible] def dStr : PyData → Bool | .str _ => true | _ => false
@[reducible] def dInt : PyData → Bool | .int _ => true | .bool _ => true | _ => false
@[reducible] def dBl : PyData → Bool | .bool _ => true | _ => false
@[reducible] def dTup : PyData → Bool | .tuple _ => true | _ => false
@[reducible] def dLst : PyData → Bool | .list _ => true | _ => false
theorem tyL {K : PySem.W.Frag} {H : Hp} {a : Addr} {xs : List V} (h : SqL K H a xs) : TyX K H (.ref a) (.type "list") := by
  rcases h with (h | ⟨o, h⟩) | ⟨o, its, n, h1, h2, _⟩
  · exact .base (.lst h)
  · exact .base (.frz h)
  · exact .kList h1 h2
theorem tyT {K : PySem.W.Frag} {H : Hp} {a : Addr} {xs : List V} (h : SqT K H a xs) : TyX K H (.ref a) (.type "tuple") := by
  rcases h with (h | ⟨o, h⟩) | ⟨o, its, n, h1, h2, _⟩
  · exact .base (.tup h)
  · exact .fTuple h
  · exact .kTuple h1 h2
structure KT (K : PySem.W.Frag) (H : Hp) (v : V) (d : PyData) : Prop where
  ex : ∃ t, TyX K H v t ∧ PySem.W.kitOne K t (.type "str") = some (dStr d) ∧ PySem.W.kitOne K t (.type "int") = some (dInt d) ∧ PySem.W.kitOne K t (.type "bool") = some (dBl d) ∧ PySem.W.kitOne K t (.type "tuple") = some (dTup d) ∧ PySem.W.kitOne K t (.type "list") = some (dLst d)
theorem kk : ∀ a ∈ (["NoneType", "bool", "int", "str", "list", "tuple"] : List String), kitB a "str" = some (a == "str") ∧ kitB a "int" = some (a == "int" || a == "bool") ∧ kitB a "bool" = some (a == "bool") ∧ kitB a "tuple" = some (a == "tuple") ∧ kitB a "list" = some (a == "list") := by decide +kernel
theorem kt_dp {K : PySem.W.Frag} {H : Hp} {v : V} {d : PyData} (h : Dp K H v d) : KT K H v d := by
  cases h with
  | non => obtain ⟨a, b, c, e, f⟩ := kk "NoneType" (by simp); exact ⟨_, .base .non, kit_ty a, kit_ty b, kit_ty c, kit_ty e, kit_ty f⟩
  | bl x => obtain ⟨a, b, c, e, f⟩ := kk "bool" (by simp); exact ⟨_, .base (.bl x), kit_ty a, kit_ty b, kit_ty c, kit_ty e, kit_ty f⟩
  | int i => obtain ⟨a, b, c, e, f⟩ := kk "int" (by simp); exact ⟨_, .base (.int i), kit_ty a, kit_ty b, kit_ty c, kit_ty e, kit_ty f⟩
  | str x => obtain ⟨a, b, c, e, f⟩ := kk "str" (by simp); exact ⟨_, .base (.str x), kit_ty a, kit_ty b, kit_ty c, kit_ty e, kit_ty f⟩
  | lst hs ha => obtain ⟨a, b, c, e, f⟩ := kk "list" (by simp); exact ⟨_, tyL hs, kit_ty a, kit_ty b, kit_ty c, kit_ty e, kit_ty f⟩
  | tup hs ha => obtain ⟨a, b, c, e, f⟩ := kk "tuple" (by simp); exact ⟨_, tyT hs, kit_ty a, kit_ty b, kit_ty c, kit_ty e, kit_ty f⟩
theorem knd_dp {K : PySem.W.Frag} {H : Hp} {v : V} {d : PyData} (h : Dp K H v d) (f : smD d = true) : Knd K H v := by
  obtain ⟨t, h1, h2, h3, h4, _⟩ := kt_dp h
  cases h with
  | non => exact .non
  | bl b => exact .bl
  | int i => exact .int
  | str x => exact .str (by simpa only [smD, decide_eq_true_eq] using f)
  | lst _ _ => exact ⟨⟨t, h1, h2, h3, h4⟩, fun _ e => nomatch e⟩
  | tup _ _ => exact ⟨⟨t, h1, h2, h3, h4⟩, fun _ e => nomatch e⟩
theorem dp_int {K : PySem.W.Frag} {H : Hp} {v : V} {d : PyData} (h : Dp K H v d) {i : Int} : v = .int i ↔ d = .int i := by
  cases h <;> simp
theorem dp_strI {K : PySem.W.Frag} {H : Hp} {v : V} {s : Str} (h : Dp K H v (.str s)) : v = .str s := by
  cases h
  rfl
section
variable {K : PySem.W.Frag} {H : Hp} {Q : VK} {x y : V} {d e : PyData}
theorem v_eqF (h1 : Dp K H x d) (h2 : Dp K H y e) (s1 : Fit d) (s2 : Fit e) (q : Q (.bl (PyData.eqv d e)) H) : rEqX K x y H Q := v_eqD h1 h2 s1.sh s2.sh q
theorem v_neF (h1 : Dp K H x d) (h2 : Dp K H y e) (s1 : Fit d) (s2 : Fit e) (q : Q (.bl (!PyData.eqv d e)) H) : rNeX K x y H Q := v_neD h1 h2 s1.sh s2.sh q
theorem v_eqR (h1 : Dp K H x d) (h2 : Dp K H y d) (s1 : Fit d) (q : Q (.bl true) H) : rEqX K x y H Q := v_eqD h1 h2 s1.sh s1.sh (by rw [s1.refl]; exact q)
theorem v_neR (h1 : Dp K H x d) (h2 : Dp K H y d) (s1 : Fit d) (q : Q (.bl false) H) : rNeX K x y H Q := v_neD h1 h2 s1.sh s1.sh (by rw [s1.refl]; exact q)
theorem v_inF {ds : List PyData} (h1 : Dp K H x d) (h2 : Dp K H y (.list ds)) (s1 : Fit d) (s2 : Fit (.list ds)) (q : Q (.bl (ds.any fun z => PyData.eqv z d)) H) : rInX K x y H Q := .inr (.inr ⟨d, ds, h1, h2, s1.sh, s2.sh, q⟩)
theorem v_niF {ds : List PyData} (h1 : Dp K H x d) (h2 : Dp K H y (.list ds)) (s1 : Fit d) (s2 : Fit (.list ds)) (q : Q (.bl (!ds.any fun z => PyData.eqv z d)) H) : rNotInX K x y H Q := .inr (.inr ⟨d, ds, h1, h2, s1.sh, s2.sh, q⟩)
theorem v_inStr {z : Str} {l : Addr} {ns : List Str} (h : SqL K H l (ns.map V.str)) (q : Q (.bl (decide (z ∈ ns))) H) : rInX K (.str z) (.ref l) H Q :=
  .inl ⟨l, ns.map V.str, rfl, .inl h, rfl, flat_str, by rw [inV_str]; exact q⟩
end
theorem eqv_str {a b : Str} : PyData.eqv (.str a) (.str b) = decide (a = b) := by
  by_cases h : a = b
  · subst h; simp [PyData.eqv]
  · simp [PyData.eqv, h]
/-- the items in a list of texts that are like a thing -/
theorem any_str {ns : List Str} {s : Str} : ((ns.map PyData.str).any fun z => PyData.eqv z (.str s)) = decide (s ∈ ns) := by
  induction ns with
  | nil => simp
  | cons a r ih =>
    rw [List.map_cons, List.any_cons, ih, eqv_str]
    by_cases h : a = s
    · subst h; simp
    · have h' : ¬ s = a := fun e => h e.symm
      simp [h, h']
theorem fit_strs {ns : List Str} (h : ∀ s ∈ ns, PyData.strOk s = true ∧ s.length ≤ 8) : Fit (.list (ns.map PyData.str)) :=
  (FitN.lst (n := 2) fun x hx => by
    obtain ⟨s, hs, rfl⟩ := List.mem_map.mp hx
    exact .str (h s hs).1 (by have := (h s hs).2; omega)).fit (by omega)
theorem fit_em : Fit (.str "") := (FitN.em (n := 1)).fit (by omega)
theorem fit_nil : Fit (.list []) := (FitN.lst (n := 1) fun x hx => (List.not_mem_nil hx).elim).fit (by omega)
theorem Fit.strok {s : Str} (h : Fit (.str s)) : PyData.strOk s = true := by simpa only [PyData.canLay0] using SeqAt.canLay_of_shaped h.sh
theorem eqv_nil {ds : List PyData} : PyData.eqv (.list ds) (.list []) = ds.isEmpty := by
  cases ds <;> rfl
section
variable {K : PySem.W.Frag} {H : Hp} {v : V}
theorem dp_lst {ds : List PyData} (h : Dp K H v (.list ds)) : ∃ a xs, v = .ref a ∧ SqL K H a xs ∧ DpAll K H xs ds := by
  cases h with
  | lst h1 h2 => exact ⟨_, _, rfl, h1, h2⟩
theorem dp_tup {ds : List PyData} (h : Dp K H v (.tuple ds)) : ∃ a xs, v = .ref a ∧ SqT K H a xs ∧ DpAll K H xs ds := by
  cases h with
  | tup h1 h2 => exact ⟨_, _, rfl, h1, h2⟩
theorem dpall_nil {vs : List V} (h : DpAll K H vs []) : vs = [] := by
  cases h with
  | nil => rfl
theorem dpall_cons {vs : List V} {d : PyData} {ds : List PyData} (h : DpAll K H vs (d :: ds)) : ∃ x r, vs = x :: r ∧ Dp K H x d ∧ DpAll K H r ds := by
  cases h with
  | cons h1 h2 => exact ⟨_, _, rfl, h1, h2⟩
theorem dp_t2 {d e : PyData} (h : Dp K H v (.tuple [d, e])) : ∃ a x y, v = .ref a ∧ SqT K H a [x, y] ∧ Dp K H x d ∧ Dp K H y e := by
  obtain ⟨a, xs, e, h1, h2⟩ := dp_tup h
  obtain ⟨x, r, rfl, h3, h2⟩ := dpall_cons h2
  obtain ⟨y, r, rfl, h4, h2⟩ := dpall_cons h2
  obtain rfl := dpall_nil h2
  exact ⟨a, x, y, e, h1, h3, h4⟩
theorem dp_t4 {d1 d2 d3 d4 : PyData} (h : Dp K H v (.tuple [d1, d2, d3, d4])) : ∃ a x1 x2 x3 x4, v = .ref a ∧ SqT K H a [x1, x2, x3, x4] ∧ Dp K H x1 d1 ∧ Dp K H x2 d2 ∧ Dp K H x3 d3 ∧ Dp K H x4 d4 := by
  obtain ⟨a, xs, e, h1, h2⟩ := dp_tup h
  obtain ⟨x1, r, rfl, h3, h2⟩ := dpall_cons h2
  obtain ⟨x2, r, rfl, h4, h2⟩ := dpall_cons h2
  obtain ⟨x3, r, rfl, h5, h2⟩ := dpall_cons h2
  obtain ⟨x4, r, rfl, h6, h2⟩ := dpall_cons h2
  obtain rfl := dpall_nil h2
  exact ⟨a, x1, x2, x3, x4, e, h1, h3, h4, h5, h6⟩
end
/-! ## no list within: stands whatever lists change -/
def SameT (H H' : Hp) : Prop := ∀ a o, H a = some o → (∀ xs, o ≠ .lst xs) → H' a = some o
mutual
def noL : PyData → Bool
  | .list _ => false
  | .tuple xs => noLs xs
  | _ => true
def noLs : List PyData → Bool
  | [] => true
  | x :: xs => noL x && noLs xs
end
theorem SameT.sqt {K : PySem.W.Frag} {H H' : Hp} {a : Addr} {xs : List V} (e : SameT H H') (h : SqT K H a xs) : SqT K H' a xs := by
  rcases h with (h | ⟨o, h⟩) | h
  · exact .inl (.inl (e _ _ h (fun _ q => by cases q)))
  · exact .inl (.inr ⟨o, e _ _ h (fun _ q => by cases q)⟩)
  · exact .inr h
theorem noLs_cons {x : PyData} {xs : List PyData} (h : noLs (x :: xs) = true) : noL x = true ∧ noLs xs = true := by
  rw [noLs] at h
  exact He.ba h
theorem noL_tup {xs : List PyData} (h : noL (.tuple xs) = true) : noLs xs = true := by rw [noL] at h; exact h
theorem noL_lst {xs : List PyData} (h : noL (.list xs) = true) : False := by rw [noL] at h; cases h
mutual
theorem Dp.sameT {K : PySem.W.Frag} {H H' : Hp} (s : SameT H H') : ∀ {d : PyData} {v : V}, Dp K H v d → noL d = true → Dp K H' v d
  | _, _, .non, _ => .non
  | _, _, .bl b, _ => .bl b
  | _, _, .int i, _ => .int i
  | _, _, .str x, _ => .str x
  | _, _, .lst _ _, h => (noL_lst h).elim
  | _, _, .tup h1 h2, h => .tup (s.sqt h1) (DpAll.sameT s h2 (noL_tup h))
theorem DpAll.sameT {K : PySem.W.Frag} {H H' : Hp} (s : SameT H H') : ∀ {ds : List PyData} {vs : List V}, DpAll K H vs ds → noLs ds = true → DpAll K H' vs ds
  | _, _, .nil, _ => .nil
  | _, _, .cons h1 h2, h => .cons (Dp.sameT s h1 (noLs_cons h).1) (DpAll.sameT s h2 (noLs_cons h).2)
end
theorem noLs_of : ∀ {ds : List PyData}, (∀ d ∈ ds, noL d = true) → noLs ds = true
  | [], _ => rfl
  | d :: r, h => by simp only [noLs, h d (List.mem_cons_self ..), noLs_of fun x hx => h x (List.mem_cons_of_mem _ hx), Bool.and_self]
theorem _root_.L2.Same.sameT {H H' : Hp} (s : Same H H') : SameT H H' := fun a o h _ => s a o h
theorem SameT.trans {H H1 H2 : Hp} (a : SameT H H1) (b : SameT H1 H2) : SameT H H2 := fun x o h n => b x o (a x o h n) n
theorem SameT.upd {H : Hp} {a : Addr} {xs ys : List V} (h : H a = some (.lst xs)) : SameT H (upd H a (.lst ys)) := fun b o e n => by
  by_cases q : b = a
  · rw [q, h] at e
    injection e with e
    exact (n _ e.symm).elim
  · rw [upd_ne q]
    exact e
end Kn

set_option Elab.async false
set_option linter.all false
set_option maxRecDepth 100000
set_option maxHeartbeats 2000000
namespace Kn
open PySem PySem.Spec PyProof.Rows L2
/-! ## some places hidden -/
def hidL (ws : List Addr) (H : Hp) : Hp := fun b => if b ∈ ws then none else H b
theorem hidL_at {ws : List Addr} {a : Addr} {H : Hp} {o : HO} (h : hidL ws H a = some o) : H a = some o ∧ a ∉ ws := by
  unfold hidL at h
  by_cases e : a ∈ ws
  · rw [if_pos e] at h
    cases h
  · rw [if_neg e] at h
    exact ⟨h, e⟩
theorem hidL_of {ws : List Addr} {a : Addr} {H : Hp} {o : HO} (h : H a = some o) (n : a ∉ ws) : hidL ws H a = some o := by
  unfold hidL
  rw [if_neg n]
  exact h
theorem hidL_le {ws : List Addr} {H : Hp} : Same (hidL ws H) H := fun b o e => (hidL_at e).1
theorem hidL_same {ws : List Addr} {H H' : Hp} (s : Same H H') : Same (hidL ws H) (hidL ws H') := fun b o e => hidL_of (s b o (hidL_at e).1) (hidL_at e).2
theorem hidL_but {ws : List Addr} {w : Addr} {H H' : Hp} (h : w ∈ ws) (s : But w H H') : Same (hidL ws H) (hidL ws H') := fun b o e => by
  obtain ⟨h1, h2⟩ := hidL_at e
  exact hidL_of (s b o (fun z => h2 (z ▸ h)) h1) h2
theorem hidL_upd {ws : List Addr} {w : Addr} {H : Hp} {o : HO} (h : w ∈ ws) : Same (hidL ws H) (hidL ws (upd H w o)) := hidL_but h But.upd
theorem hidL_sub {ws us : List Addr} {H : Hp} (h : ∀ x ∈ ws, x ∈ us) : Same (hidL us H) (hidL ws H) := fun b o e => by
  obtain ⟨h1, h2⟩ := hidL_at e
  exact hidL_of h1 fun z => h2 (h b z)
theorem hidL_sameT {ws : List Addr} {H : Hp} (h : ∀ w ∈ ws, ∃ xs, H w = some (.lst xs)) : SameT H (hidL ws H) := fun a o e n => hidL_of e fun m => by
  obtain ⟨xs, q⟩ := h a m
  rw [q] at e
  injection e with e
  exact n _ e.symm
theorem fresh_nin {ws : List Addr} {H : Hp} {p : Addr} (h : ∀ w ∈ ws, H w ≠ none) (n : H p = none) : p ∉ ws := fun m => h p m n
theorem free_of {H H' : Hp} {a : Addr} (s : Same H H') (h : H' a = none) : H a = none := by
  cases q : H a with
  | none => rfl
  | some u => rw [s.at_ q] at h; cases h
theorem sz_lt {n : Nat} (h : n ≤ 100000) : n < sizeLine := Nat.lt_of_le_of_lt h (by decide)
/-! ## kinds of things by value -/
@[reducible] def wholeB : V → Bool
  | .int _ => true
  | _ => false
def withinB (x : V) (lo hi : Int) : Bool := match x with
  | .int i => decide (lo ≤ i) && decide (i ≤ hi)
  | _ => false
abbrev LET : Str := LETk
def nameS (s : Str) : Bool := !decide (s = "") && (!decide ((8 : Int) < s.length) && decide (Txt.stripChars s LET = ""))
def nameB : V → Bool
  | .str s => nameS s
  | _ => false
def dNm : PyData → Bool
  | .str s => nameS s
  | _ => false
def withinD (x : PyData) (lo hi : Int) : Bool := match x with
  | .int i => decide (lo ≤ i) && decide (i ≤ hi)
  | _ => false
theorem dp_nm {K : PySem.W.Frag} {H : Hp} {v : V} {d : PyData} (h : Dp K H v d) : nameB v = dNm d := by cases h <;> rfl
theorem dp_within {K : PySem.W.Frag} {H : Hp} {v : V} {d : PyData} (h : Dp K H v d) {lo hi : Int} : withinB v lo hi = withinD d lo hi := by cases h <;> rfl
theorem withinB_int {x : V} {lo hi : Int} (h : withinB x lo hi = true) : ∃ i, x = .int i ∧ lo ≤ i ∧ i ≤ hi := by
  cases x with
  | int i =>
    obtain ⟨h1, h2⟩ := He.ba (show (decide (lo ≤ i) && decide (i ≤ hi)) = true from h)
    exact ⟨i, rfl, of_decide_eq_true h1, of_decide_eq_true h2⟩
  | _ => cases h
theorem nameB_str {x : V} (h : nameB x = true) : ∃ s, x = .str s := by
  cases x with
  | str s => exact ⟨s, rfl⟩
  | _ => cases h
theorem Nm.name {s : Str} (h : Nm s) : nameS s = true := by
  unfold nameS
  have h1 : ¬ s = "" := ne_empty h.ne
  have h2 : ¬ (8 : Int) < s.length := by have := h.len; omega
  rw [decide_eq_false h1, decide_eq_false h2]
  rw [decide_eq_true h.strip]
  rfl
theorem nameS_len {s : Str} (h : nameS s = true) : s.length ≤ 8 ∧ ¬ s = "" := by
  unfold nameS at h
  simp only [Bool.and_eq_true, Bool.not_eq_true', decide_eq_false_iff_not] at h
  exact ⟨by have := h.2.1; omega, h.1⟩
/-- like that text -/
def dIs (d : PyData) (s : Str) : Bool := match d with
  | .str t => decide (t = s)
  | _ => false
def dIn (d : PyData) (ns : List Str) : Bool := match d with
  | .str t => decide (t ∈ ns)
  | _ => false
theorem eqv_strR {d : PyData} {s : Str} : PyData.eqv d (.str s) = dIs d s := by
  cases d with
  | str t => exact eqv_str
  | _ => rfl
theorem eqv_strL {d : PyData} {s : Str} : PyData.eqv (.str s) d = dIs d s := by
  cases d with
  | str t =>
    rw [eqv_str]
    show _ = decide (t = s)
    by_cases h : s = t
    · subst h; rfl
    · rw [decide_eq_false h, decide_eq_false (fun e => h e.symm)]
  | _ => rfl
theorem any_dIn {d : PyData} : ∀ {ns : List Str}, ((ns.map PyData.str).any fun z => PyData.eqv z d) = dIn d ns
  | [] => by cases d <;> simp [dIn]
  | a :: r => by
    rw [List.map_cons, List.any_cons, any_dIn, eqv_strL]
    cases d with
    | str t =>
      show (decide (t = a) || decide (t ∈ r)) = decide (t ∈ a :: r)
      by_cases h : t = a
      · subst h; simp
      · simp [h]
    | _ => rfl
/-! ## a table by name, in order -/
section
variable {α : Type}
def getS (ss : List (Str × α)) (k : Str) : Option α := (ss.find? fun x => decide (x.1 = k)).map (·.2)
def putS (ss : List (Str × α)) (k : Str) (v : α) : List (Str × α) := if (ss.any fun x => decide (x.1 = k)) = true then ss.map (fun x => if x.1 = k then (x.1, v) else x) else ss ++ [(k, v)]
def SV (R : α → V → Prop) (s : Str × α) (kv : Key × V) : Prop := kv.1 = .inr s.1 ∧ R s.2 kv.2
variable {R : α → V → Prop}
theorem sv_get {k : Str} : ∀ {ss : List (Str × α)} {kvs : List (Key × V)}, Paired (SV R) ss kvs → (∃ a v, getS ss k = some a ∧ valV kvs (.inr k) = some v ∧ R a v) ∨ (getS ss k = none ∧ valV kvs (.inr k) = none)
  | _, _, .nil => .inr ⟨rfl, rfl⟩
  | s :: ss, kv :: kvs, .cons ⟨h1, h2⟩ hr => by
    by_cases h : s.1 = k
    · refine .inl ⟨s.2, kv.2, ?_, valV_pos (by rw [h1, h]), h2⟩
      simp [getS, List.find?_cons, h]
    · have hk : ¬ kv.1 = (.inr k : Key) := fun e => h (by rw [h1] at e; injection e)
      rw [valV_neg hk, show getS (s :: ss) k = getS ss k from by simp [getS, List.find?_cons, h]]
      exact sv_get hr
theorem sv_any {k : Str} : ∀ {ss : List (Str × α)} {kvs : List (Key × V)}, Paired (SV R) ss kvs → (ss.any fun x => decide (x.1 = k)) = kvs.any fun x => decide (x.1 = (.inr k : Key))
  | _, _, .nil => rfl
  | s :: ss, kv :: kvs, .cons ⟨h1, h2⟩ hr => by
    rw [List.any_cons, List.any_cons, sv_any hr]
    by_cases h : s.1 = k
    · rw [decide_eq_true h, decide_eq_true (show kv.1 = .inr k by rw [h1, h])]
    · rw [decide_eq_false h, decide_eq_false (show ¬ kv.1 = (.inr k : Key) from fun e => h (by rw [h1] at e; injection e))]
theorem sv_map {k : Str} {a : α} {v : V} (hv : R a v) : ∀ {ss : List (Str × α)} {kvs : List (Key × V)}, Paired (SV R) ss kvs →
    Paired (SV R) (ss.map fun x => if x.1 = k then (x.1, a) else x) (kvs.map fun x => if x.1 = (.inr k : Key) then (x.1, v) else x)
  | _, _, .nil => .nil
  | s :: ss, kv :: kvs, .cons ⟨h1, h2⟩ hr => by
    refine .cons ?_ (sv_map hv hr)
    dsimp only
    by_cases h : s.1 = k
    · rw [if_pos h, if_pos (show kv.1 = .inr k by rw [h1, h])]
      exact ⟨h1, hv⟩
    · rw [if_neg h, if_neg (show ¬ kv.1 = (.inr k : Key) from fun e => h (by rw [h1] at e; injection e))]
      exact ⟨h1, h2⟩
theorem sv_snoc {k : Str} {a : α} {v : V} (hv : R a v) : ∀ {ss : List (Str × α)} {kvs : List (Key × V)}, Paired (SV R) ss kvs → Paired (SV R) (ss ++ [(k, a)]) (kvs ++ [((.inr k : Key), v)])
  | _, _, .nil => .cons ⟨rfl, hv⟩ .nil
  | s :: ss, kv :: kvs, .cons h hr => .cons h (sv_snoc hv hr)
theorem sv_put {k : Str} {a : α} {v : V} {ss : List (Str × α)} {kvs : List (Key × V)} (h : Paired (SV R) ss kvs) (hv : R a v) : Paired (SV R) (putS ss k a) (putK kvs (.inr k) v) := by
  unfold putS putK
  rw [sv_any h]
  split
  · exact sv_map hv h
  · exact sv_snoc hv h
theorem sv_imp {R' : α → V → Prop} (i : ∀ a v, R a v → R' a v) : ∀ {ss : List (Str × α)} {kvs : List (Key × V)}, Paired (SV R) ss kvs → Paired (SV R') ss kvs
  | _, _, .nil => .nil
  | s :: ss, kv :: kvs, .cons ⟨h1, h2⟩ hr => .cons ⟨h1, i _ _ h2⟩ (sv_imp i hr)
theorem sv_len : ∀ {ss : List (Str × α)} {kvs : List (Key × V)}, Paired (SV R) ss kvs → kvs.length = ss.length
  | _, _, .nil => rfl
  | s :: ss, kv :: kvs, .cons _ hr => congrArg Nat.succ (sv_len hr)
theorem sv_at {kv : Key × V} : ∀ {ss : List (Str × α)} {kvs : List (Key × V)} {i : Nat}, Paired (SV R) ss kvs → kvs[i]? = some kv → ∃ s, ss[i]? = some s ∧ SV R s kv
  | _, _, 0, .cons h hr, e => by injection e with e; exact ⟨_, rfl, e ▸ h⟩
  | _, _, i + 1, .cons h hr, e => sv_at (i := i) hr e
theorem putS_len (ss : List (Str × α)) (k : Str) (v : α) : (putS ss k v).length ≤ ss.length + 1 := by
  unfold putS
  split
  · rw [List.length_map]; omega
  · rw [List.length_append]; exact Nat.le_refl _
theorem putS_all {Q : α → Prop} {ss : List (Str × α)} {k : Str} {v : α} (h : ∀ x ∈ ss, Q x.2) (hv : Q v) : ∀ x ∈ putS ss k v, Q x.2 := by
  unfold putS
  split
  · intro x hx
    obtain ⟨y, hy, rfl⟩ := List.mem_map.mp hx
    by_cases e : y.1 = k
    · rw [if_pos e]; exact hv
    · rw [if_neg e]; exact h y hy
  · intro x hx
    rcases List.mem_append.mp hx with hx | hx
    · exact h x hx
    · rw [List.mem_singleton.mp hx]; exact hv
theorem getS_mem {ss : List (Str × α)} {k : Str} {a : α} (h : getS ss k = some a) : ∃ x ∈ ss, x.2 = a := by
  unfold getS at h
  obtain ⟨x, h1, h2⟩ := Option.map_eq_some_iff.mp h
  exact ⟨x, List.mem_of_find?_eq_some h1, h2⟩
end
/-! ## the year, as data -/
@[reducible] def tupN (n : Int) : PyData → Bool
  | .tuple xs => decide ((xs.length : Int) = n)
  | _ => false
def tuplesB (d : PyData) (most wide : Int) : Bool := match d with
  | .list ds => !decide (most < (ds.length : Int)) && ds.all (tupN wide)
  | _ => false
def upB (seen : List Str) (a : PyData) : Bool := dIs a "" || dIn a seen
def headsGo : List Str → List PyData → Bool
  | _, [] => true
  | seen, .tuple [.str n, a] :: r => (nameS n && (!decide (n ∈ seen) && upB seen a)) && headsGo (seen ++ [n]) r
  | _, _ => false
def headsB (d : PyData) : Bool := match d with
  | .list ds => tuplesB (.list ds) 8 2 && (!ds.isEmpty && headsGo [] ds)
  | _ => false
def GRT : Int := 1000000000000000
def limB (ns : List Str) (days : Int) : PyData → Bool
  | .tuple [h, f, l, m] => (dIn h ns && (withinD f 1 days && (match f with | .int i => withinD l i days | _ => false))) && withinD m 0 GRT
  | _ => false
def limitsB (d : PyData) (ns : List Str) (days : Int) : Bool := match d with
  | .list ds => tuplesB (.list ds) 6 4 && ds.all (limB ns days)
  | _ => false
abbrev Sums := List (Str × (Int × Int))
def sumS (ss : Sums) (h : Str) (p w : Int) : Sums := putS ss h (((getS ss h).getD (0, 1)).1 * w + p * ((getS ss h).getD (0, 1)).2, ((getS ss h).getD (0, 1)).2 * w)
def ruleOk (ns : List Str) (days : Int) (h : PyData) (p w u : PyData) : Bool := dIn h ns && (withinD w 1 1000 && (match w with | .int i => withinD p 0 i | _ => false)) && withinD u 2 (days + 1)
def ruleGo (ns : List Str) (days : Int) : Sums → List PyData → Option Sums
  | ss, [] => some ss
  | ss, .tuple [h, p, w, u] :: r => if ruleOk ns days h p w u = true then (match h, p, w with | .str h, .int p, .int w => ruleGo ns days (sumS ss h p w) r | _, _, _ => none) else none
  | _, _ => none
def rulesB (d : PyData) (ns : List Str) (days : Int) : Bool := match d with
  | .list ds => tuplesB (.list ds) 4 4 && (match ruleGo ns days [] ds with | some ss => ss.all (fun x => decide (x.2.1 ≤ x.2.2)) | none => false)
  | _ => false
def hD (p : Str × Str) : PyData := .tuple [.str p.1, .str p.2]
theorem tuplesB_list {d : PyData} {m n : Int} (h : tuplesB d m n = true) : ∃ ds, d = .list ds ∧ (ds.length : Int) ≤ m ∧ ∀ x ∈ ds, tupN n x = true := by
  cases d with
  | list ds =>
    obtain ⟨h1, h2⟩ := He.ba (show (!decide (m < (ds.length : Int)) && ds.all (tupN n)) = true from h)
    have h3 : ¬ m < (ds.length : Int) := by simpa using h1
    exact ⟨ds, rfl, by omega, List.all_eq_true.mp h2⟩
  | _ => cases h
theorem tupN_2 {d : PyData} (h : tupN 2 d = true) : ∃ x y, d = .tuple [x, y] := by
  cases d with
  | tuple xs =>
    have h : (xs.length : Int) = 2 := of_decide_eq_true h
    match xs, h with
    | [x, y], _ => exact ⟨x, y, rfl⟩
  | _ => cases h
theorem tupN_4 {d : PyData} (h : tupN 4 d = true) : ∃ x y z t, d = .tuple [x, y, z, t] := by
  cases d with
  | tuple xs =>
    have h : (xs.length : Int) = 4 := of_decide_eq_true h
    match xs, h with
    | [x, y, z, t], _ => exact ⟨x, y, z, t, rfl⟩
  | _ => cases h
theorem headsGo_no {seen : List Str} {x a : PyData} {r : List PyData} (h : dNm x = false) : headsGo seen (.tuple [x, a] :: r) = false := by
  cases x with
  | str s =>
    show ((nameS s && (!decide (s ∈ seen) && upB seen a)) && headsGo (seen ++ [s]) r) = false
    rw [show nameS s = false from h]
    rfl
  | _ => rfl
theorem drop_at {α : Type} {xs : List α} {i : Nat} {x : α} (h : xs[i]? = some x) : xs.drop i = x :: xs.drop (i + 1) := by
  obtain ⟨hi, rfl⟩ := List.getElem?_eq_some_iff.mp h
  exact List.drop_eq_getElem_cons hi
/-- heads in their order: each name new, each above it in place -/
def HO_ : List Str → List (Str × Str) → Prop
  | _, [] => True
  | seen, p :: r => nameS p.1 = true ∧ p.1 ∉ seen ∧ (p.2 = "" ∨ p.2 ∈ seen) ∧ HO_ (seen ++ [p.1]) r
theorem heads_go : ∀ {seen : List Str} {ds : List PyData}, headsGo seen ds = true → ∃ hs, ds = hs.map hD ∧ HO_ seen hs
  | _, [], _ => ⟨[], rfl, trivial⟩
  | seen, d :: r, h => by
    match d, h with
    | .tuple [.str n, a], h =>
      have h' : ((nameS n && (!decide (n ∈ seen) && upB seen a)) && headsGo (seen ++ [n]) r) = true := h
      simp only [Bool.and_eq_true, Bool.not_eq_true', decide_eq_false_iff_not] at h'
      obtain ⟨⟨h1, h2, h3⟩, h4⟩ := h'
      obtain ⟨hs, rfl, ho⟩ := heads_go h4
      cases a with
      | str s =>
        refine ⟨(n, s) :: hs, rfl, h1, h2, ?_, ho⟩
        simpa [upB, dIs, dIn] using h3
      | _ => simp [upB, dIs, dIn] at h3
theorem go_heads : ∀ {seen : List Str} {hs : List (Str × Str)}, HO_ seen hs → headsGo seen (hs.map hD) = true
  | _, [], _ => rfl
  | seen, p :: r, ⟨h1, h2, h3, h4⟩ => by
    have h5 := go_heads h4
    show ((nameS p.1 && (!decide (p.1 ∈ seen) && upB seen (.str p.2))) && headsGo (seen ++ [p.1]) (r.map hD)) = true
    rw [h1, decide_eq_false h2, h5]
    have : upB seen (.str p.2) = true := by
      rcases h3 with h3 | h3
      · simp [upB, dIs, h3]
      · simp [upB, dIn, h3]
    rw [this]
    rfl
structure Heads (hs : List (Str × Str)) : Prop where
  ne : hs ≠ []
  le : hs.length ≤ 8
  ok : HO_ [] hs
theorem heads_of {d : PyData} (h : headsB d = true) : ∃ hs, d = .list (hs.map hD) ∧ Heads hs := by
  cases d with
  | list ds =>
    have h' : ((!decide ((8 : Int) < (ds.length : Int)) && ds.all (tupN 2)) && (!ds.isEmpty && headsGo [] ds)) = true := h
    simp only [Bool.and_eq_true, Bool.not_eq_true', decide_eq_false_iff_not] at h'
    obtain ⟨⟨h1, _⟩, h2, h3⟩ := h'
    obtain ⟨hs, rfl, ho⟩ := heads_go h3
    rw [List.length_map] at h1
    exact ⟨hs, rfl, by rintro rfl; simp at h2, by omega, ho⟩
  | _ => cases h
theorem Heads.b {hs : List (Str × Str)} (h : Heads hs) : headsB (.list (hs.map hD)) = true := by
  show ((!decide ((8 : Int) < ((hs.map hD).length : Int)) && (hs.map hD).all (tupN 2)) && (!(hs.map hD).isEmpty && headsGo [] (hs.map hD))) = true
  rw [List.length_map, decide_eq_false (by have := h.le; omega), go_heads h.ok]
  have e1 : (hs.map hD).all (tupN 2) = true := by
    rw [List.all_map]
    exact List.all_eq_true.mpr fun _ _ => rfl
  rw [e1]
  cases hs with
  | nil => exact (h.ne rfl).elim
  | cons a r => rfl
theorem ho_nm : ∀ {seen : List Str} {hs : List (Str × Str)}, HO_ seen hs → ∀ p ∈ hs, nameS p.1 = true ∧ p.2.length ≤ 8 ∨ p.2 ∈ seen ∧ nameS p.1 = true
  | _, [], _, p, hp => nomatch hp
  | seen, q :: r, ⟨h1, h2, h3, h4⟩, p, hp => by
    rcases List.mem_cons.mp hp with rfl | hp
    · rcases h3 with h3 | h3
      · exact .inl ⟨h1, by rw [h3]; decide +kernel⟩
      · exact .inr ⟨h3, h1⟩
    · rcases ho_nm h4 p hp with h | ⟨h, h'⟩
      · exact .inl h
      · rcases List.mem_append.mp h with h | h
        · exact .inr ⟨h, h'⟩
        · rw [List.mem_singleton] at h
          exact .inl ⟨h', by rw [h]; exact (nameS_len h1).1⟩
theorem Heads.nm {hs : List (Str × Str)} (h : Heads hs) {p : Str × Str} (hp : p ∈ hs) : nameS p.1 = true ∧ p.2.length ≤ 8 := by
  rcases ho_nm h.ok p hp with h | h
  · exact h
  · exact nomatch h.1
/-- the one above -/
def upO (hs : List (Str × Str)) (n : Str) : Option Str := (hs.find? fun p => decide (p.1 = n)).map (·.2)
def upN (hs : List (Str × Str)) (n : Str) : Str := (upO hs n).getD ""
theorem upO_some {hs : List (Str × Str)} {n : Str} (h : n ∈ hs.map (·.1)) : ∃ a, upO hs n = some a ∧ (n, a) ∈ hs := by
  obtain ⟨p, hp, rfl⟩ := List.mem_map.mp h
  unfold upO
  cases e : hs.find? fun q => decide (q.1 = p.1) with
  | none => exact absurd (List.find?_eq_none.mp e p hp) (by simp)
  | some q =>
    have h1 := List.find?_some e
    have h2 := List.mem_of_find?_eq_some e
    exact ⟨q.2, rfl, by rw [← of_decide_eq_true h1]; exact h2⟩
theorem ho_up : ∀ {seen : List Str} {hs : List (Str × Str)}, HO_ seen hs → ∀ p ∈ hs, p.2 = "" ∨ p.2 ∈ seen ∨ p.2 ∈ hs.map (·.1)
  | _, [], _, p, hp => nomatch hp
  | seen, q :: r, ⟨h1, h2, h3, h4⟩, p, hp => by
    rcases List.mem_cons.mp hp with rfl | hp
    · rcases h3 with h3 | h3
      · exact .inl h3
      · exact .inr (.inl h3)
    · rcases ho_up h4 p hp with h | h | h
      · exact .inl h
      · rcases List.mem_append.mp h with h | h
        · exact .inr (.inl h)
        · rw [List.mem_singleton] at h
          exact .inr (.inr (by rw [h]; exact List.mem_cons_self ..))
      · exact .inr (.inr (List.mem_cons_of_mem _ h))
theorem Heads.up {hs : List (Str × Str)} (h : Heads hs) {n : Str} (hn : n ∈ hs.map (·.1)) : upN hs n = "" ∨ upN hs n ∈ hs.map (·.1) := by
  obtain ⟨a, e, hp⟩ := upO_some hn
  unfold upN
  rw [e]
  rcases ho_up h.ok _ hp with h | h | h
  · exact .inl h
  · exact nomatch h
  · exact .inr h
/-- the knots from a name up -/
def knotsF (hs : List (Str × Str)) : Nat → Str → List Str
  | 0, _ => []
  | k + 1, n => if n = "" then [] else n :: knotsF hs k (upN hs n)
def knotsN (hs : List (Str × Str)) (n : Str) : List Str := knotsF hs hs.length n
def underN (hs : List (Str × Str)) (n : Str) : List Str := (hs.map (·.1)).filter fun o => decide (n ∈ knotsN hs o)
theorem knotsF_len {hs : List (Str × Str)} : ∀ {k : Nat} {n : Str}, (knotsF hs k n).length ≤ k
  | 0, _ => Nat.le_refl _
  | k + 1, n => by
    unfold knotsF
    split
    · exact Nat.zero_le _
    · exact Nat.succ_le_succ knotsF_len
theorem knotsF_mem {hs : List (Str × Str)} (h : Heads hs) : ∀ {k : Nat} {n : Str}, n ∈ hs.map (·.1) → ∀ x ∈ knotsF hs k n, x ∈ hs.map (·.1)
  | 0, _, _, x, hx => nomatch hx
  | k + 1, n, hn, x, hx => by
    unfold knotsF at hx
    split at hx
    · exact nomatch hx
    · rcases List.mem_cons.mp hx with rfl | hx
      · exact hn
      · rcases h.up hn with e | e
        · rw [e] at hx
          cases k with
          | zero => exact nomatch hx
          | succ k => unfold knotsF at hx; rw [if_pos rfl] at hx; exact nomatch hx
        · exact knotsF_mem h e x hx
theorem Heads.nmem {hs : List (Str × Str)} (h : Heads hs) {n : Str} (hn : n ∈ hs.map (·.1)) : nameS n = true := by
  obtain ⟨p, hp, rfl⟩ := List.mem_map.mp hn
  exact (h.nm hp).1
def yfs (days : Int) (a b c : Addr) : List (Str × V) := [("days", .int days), ("heads", .ref a), ("limits", .ref b), ("rules", .ref c)]
/-- a year in a heap -/
structure YearAt (K : PySem.W.Frag) (H : Hp) (y : Addr) (days : Int) (hs : List (Str × Str)) (ls rs : List PyData) : Prop where
  ex : ∃ dx a b c va vb vc, H y = some (.ins (He.ga K "Year") dx (yfs days a b c)) ∧
    H a = some (.lst va) ∧ DpAll K H va (hs.map hD) ∧ H b = some (.lst vb) ∧ DpAll K H vb ls ∧ H c = some (.lst vc) ∧ DpAll K H vc rs
  hd : Heads hs
theorem YearAt.same {K : PySem.W.Frag} {H H' : Hp} {y : Addr} {days : Int} {hs : List (Str × Str)} {ls rs : List PyData} (h : YearAt K H y days hs ls rs) (s : Same H H') : YearAt K H' y days hs ls rs := by
  obtain ⟨⟨dx, a, b, c, va, vb, vc, h1, h2, h3, h4, h5, h6, h7⟩, hd⟩ := h
  exact ⟨⟨dx, a, b, c, va, vb, vc, s.at_ h1, s.at_ h2, DpAll.same s h3, s.at_ h4, DpAll.same s h5, s.at_ h6, DpAll.same s h7⟩, hd⟩
/-- a row of the heads, read -/
theorem head_row {K : PySem.W.Frag} {H : Hp} {v : V} {p : Str × Str} (h : Dp K H v (hD p)) : ∃ t, v = .ref t ∧ SqT K H t [.str p.1, .str p.2] := by
  unfold hD at h
  cases h with
  | tup h1 h2 =>
    cases h2 with
    | cons a r =>
      cases r with
      | cons b r2 =>
        cases r2
        rw [dp_strI a, dp_strI b] at h1
        exact ⟨_, rfl, h1⟩
theorem heads_at {K : PySem.W.Frag} {H : Hp} {vs : List V} {hs : List (Str × Str)} {i : Nat} {x : V} (h : DpAll K H vs (hs.map hD)) (hx : vs[i]? = some x) : ∃ p t, hs[i]? = some p ∧ x = .ref t ∧ SqT K H t [.str p.1, .str p.2] := by
  obtain ⟨d, h1, h2⟩ := DpAll.at_ h hx
  rw [List.getElem?_map] at h1
  obtain ⟨p, h3, rfl⟩ := Option.map_eq_some_iff.mp h1
  obtain ⟨t, e, h4⟩ := head_row h2
  exact ⟨p, t, h3, e, h4⟩
end Kn

set_option Elab.async false
set_option linter.all false
set_option maxRecDepth 100000
set_option maxHeartbeats 2000000
namespace Kn
open PySem PySem.Spec PyProof.Rows L2
theorem cut_take {xs : List V} {k : Nat} : cutV xs none (some (k : Int)) = xs.take k := by
  unfold cutV
  rw [HT.sIx_nat]
  show (xs.drop 0).take (min k xs.length - 0) = xs.take k
  rw [List.drop_zero, Nat.sub_zero, List.take_eq_take_iff]
  omega
theorem cut_from {xs : List V} {k : Nat} : cutV xs (some (k : Int)) none = xs.drop k := by
  unfold cutV
  rw [HT.sIx_nat]
  show (xs.drop (min k xs.length)).take (xs.length - min k xs.length) = xs.drop k
  rw [List.take_of_length_le (by rw [List.length_drop]; exact Nat.le_refl _)]
  by_cases h : k ≤ xs.length
  · rw [Nat.min_eq_left h]
  · rw [Nat.min_eq_right (by omega), List.drop_length, List.drop_of_length_le (by omega)]
theorem atI_or {α : Type} {x y : α} {r : Int} {k : Int} (h0 : 0 ≤ r) (h1 : r < 2 * k) (hk : 0 < k) : atI [x, y] (r / k) = some x ∨ atI [x, y] (r / k) = some y := by
  have h2 : 0 ≤ r / k := Int.ediv_nonneg h0 (by omega)
  have h3 : r / k < 2 := Int.ediv_lt_of_lt_mul hk h1
  rcases (show r / k = 0 ∨ r / k = 1 by omega) with h | h
  · rw [h]; exact .inl (atI_nat (j := 0) rfl)
  · rw [h]; exact .inr (atI_nat (j := 1) rfl)
theorem atI_two {α : Type} {x y : α} {r : Int} (h0 : 0 ≤ r) (h1 : r < 2) : atI [x, y] r = some x ∨ atI [x, y] r = some y := by
  rcases (show r = 0 ∨ r = 1 by omega) with h | h
  · rw [h]; exact .inl (atI_nat (j := 0) rfl)
  · rw [h]; exact .inr (atI_nat (j := 1) rfl)
/-! ## heads -/
theorem ho_snoc : ∀ {seen : List Str} {hs : List (Str × Str)} {p : Str × Str}, HO_ seen hs → nameS p.1 = true → p.1 ∉ seen ++ hs.map (·.1) → (p.2 = "" ∨ p.2 ∈ seen ++ hs.map (·.1)) → HO_ seen (hs ++ [p])
  | seen, [], p, _, h1, h2, h3 => ⟨h1, by simpa using h2, by simpa using h3, trivial⟩
  | seen, q :: r, p, ⟨a, b, c, d⟩, h1, h2, h3 => by
    refine ⟨a, b, c, ho_snoc d h1 ?_ ?_⟩
    · simpa using h2
    · simpa using h3
theorem ho_out : ∀ {seen : List Str} {hs : List (Str × Str)}, HO_ seen hs → ∀ n ∈ hs.map (·.1), n ∉ seen
  | _, [], _, n, hn => nomatch hn
  | seen, p :: r, ⟨a, b, c, d⟩, n, hn => by
    rcases List.mem_cons.mp hn with rfl | hn
    · exact b
    · exact fun h => ho_out d n hn (List.mem_append_left _ h)
theorem ho_nd {seen : List Str} {p : Str × Str} {r : List (Str × Str)} (h : HO_ seen (p :: r)) : p.1 ∉ r.map (·.1) := fun hm => ho_out h.2.2.2 _ hm (List.mem_append_right _ (List.mem_singleton.mpr rfl))
theorem upN_cons {p : Str × Str} {r : List (Str × Str)} {n : Str} : upN (p :: r) n = if p.1 = n then p.2 else upN r n := by
  unfold upN upO
  rw [List.find?_cons]
  by_cases h : p.1 = n
  · rw [decide_eq_true h, if_pos h]; rfl
  · rw [decide_eq_false h, if_neg h]
theorem ho_upN : ∀ {seen : List Str} {hs : List (Str × Str)}, HO_ seen hs → ∀ p ∈ hs, upN hs p.1 = p.2
  | _, [], _, p, hp => nomatch hp
  | seen, q :: r, h, p, hp => by
    rw [upN_cons]
    rcases List.mem_cons.mp hp with rfl | hp
    · exact if_pos rfl
    · rw [if_neg (fun e => ho_nd h (by rw [e]; exact List.mem_map.mpr ⟨p, hp, rfl⟩))]
      exact ho_upN h.2.2.2 p hp
/-- dict(heads) -/
def kvH (hs : List (Str × Str)) : List (Key × V) := hs.map fun p => (.inr p.1, .str p.2)
theorem merge_heads : ∀ {seen : List Str} {hs : List (Str × Str)} {acc : List (Key × V)}, HO_ seen hs → ∀ n, valV (mergeK acc (kvH hs)) (.inr n) = if n ∈ hs.map (·.1) then some (.str (upN hs n)) else valV acc (.inr n)
  | _, [], _, _, n => by simp [kvH, mergeK]
  | seen, p :: r, acc, h, n => by
    have ih := merge_heads (acc := putK acc (.inr p.1) (.str p.2)) h.2.2.2 n
    show valV (mergeK (putK acc (.inr p.1) (.str p.2)) (kvH r)) (.inr n) = if n ∈ p.1 :: r.map (·.1) then some (.str (upN (p :: r) n)) else valV acc (.inr n)
    rw [ih, upN_cons]
    by_cases hn : n ∈ r.map (·.1)
    · rw [if_pos hn, if_pos (List.mem_cons_of_mem _ hn), if_neg (fun e => ho_nd h (by rw [e]; exact hn))]
    · rw [if_neg hn, valV_put]
      by_cases e : n = p.1
      · subst e
        rw [if_pos rfl, if_pos (List.mem_cons_self ..), if_pos rfl]
      · have e2 : ¬ (.inr n : Key) = .inr p.1 := fun z => e (by injection z)
        rw [if_neg e2, if_neg (fun z => by rcases List.mem_cons.mp z with z | z; exact e z; exact hn z)]
/-! ## limits and rules, typed -/
abbrev LimT := Str × Int × Int × Int
def lD (x : LimT) : PyData := .tuple [.str x.1, .int x.2.1, .int x.2.2.1, .int x.2.2.2]
def LimR (ns : List Str) (days : Int) (x : LimT) : Prop := x.1 ∈ ns ∧ (1 ≤ x.2.1 ∧ x.2.1 ≤ days) ∧ (x.2.1 ≤ x.2.2.1 ∧ x.2.2.1 ≤ days) ∧ 0 ≤ x.2.2.2 ∧ x.2.2.2 ≤ GRT
theorem limits_ok {ns : List Str} {days : Int} {xs : List LimT} (hl : xs.length ≤ 6) (h : ∀ x ∈ xs, LimR ns days x) : limitsB (.list (xs.map lD)) ns days = true := by
  show ((!decide ((6 : Int) < ((xs.map lD).length : Int)) && (xs.map lD).all (tupN 4)) && (xs.map lD).all (limB ns days)) = true
  rw [List.length_map, decide_eq_false (by omega), List.all_map, List.all_map]
  have e1 : xs.all (tupN 4 ∘ lD) = true := List.all_eq_true.mpr fun _ _ => rfl
  have e2 : xs.all (limB ns days ∘ lD) = true := List.all_eq_true.mpr fun x hx => by
    obtain ⟨h1, ⟨h2, h3⟩, ⟨h4, h5⟩, h6, h7⟩ := h x hx
    simp [limB, lD, dIn, withinD, h1, h2, h3, h4, h5, h6, h7]
  rw [e1, e2]
  rfl
def RuleR (ns : List Str) (days : Int) (x : LimT) : Prop := x.1 ∈ ns ∧ (0 ≤ x.2.1 ∧ x.2.1 ≤ x.2.2.1) ∧ (1 ≤ x.2.2.1 ∧ x.2.2.1 ≤ 1000) ∧ 2 ≤ x.2.2.2 ∧ x.2.2.2 ≤ days + 1
def sumsOf (xs : List LimT) : Sums := xs.foldl (fun ss x => sumS ss x.1 x.2.1 x.2.2.1) []
theorem sumsOf_snoc {xs : List LimT} {x : LimT} : sumsOf (xs ++ [x]) = sumS (sumsOf xs) x.1 x.2.1 x.2.2.1 := by
  unfold sumsOf
  rw [List.foldl_append]
  rfl
theorem ruleR_ok {ns : List Str} {days : Int} {x : LimT} (h : RuleR ns days x) : ruleOk ns days (.str x.1) (.int x.2.1) (.int x.2.2.1) (.int x.2.2.2) = true := by
  obtain ⟨h1, ⟨h2, h3⟩, ⟨h4, h5⟩, h6, h7⟩ := h
  simp [ruleOk, dIn, withinD, h1, h2, h3, h4, h5, h6, h7]
theorem ruleGo_fold {ns : List Str} {days : Int} : ∀ {xs : List LimT} {ss : Sums}, (∀ x ∈ xs, RuleR ns days x) → ruleGo ns days ss (xs.map lD) = some (xs.foldl (fun ss x => sumS ss x.1 x.2.1 x.2.2.1) ss)
  | [], _, _ => rfl
  | x :: r, ss, h => by
    have h1 := ruleR_ok (h x (List.mem_cons_self ..))
    have ih := ruleGo_fold (xs := r) (ss := sumS ss x.1 x.2.1 x.2.2.1) fun y hy => h y (List.mem_cons_of_mem _ hy)
    show (if ruleOk ns days (.str x.1) (.int x.2.1) (.int x.2.2.1) (.int x.2.2.2) = true then ruleGo ns days (sumS ss x.1 x.2.1 x.2.2.1) (r.map lD) else none) = _
    rw [if_pos h1, ih]
    rfl
theorem rules_ok {ns : List Str} {days : Int} {xs : List LimT} (hl : xs.length ≤ 4) (h : ∀ x ∈ xs, RuleR ns days x) (hs : ∀ s ∈ sumsOf xs, s.2.1 ≤ s.2.2) : rulesB (.list (xs.map lD)) ns days = true := by
  show ((!decide ((4 : Int) < ((xs.map lD).length : Int)) && (xs.map lD).all (tupN 4)) && (match ruleGo ns days [] (xs.map lD) with | some ss => ss.all (fun x => decide (x.2.1 ≤ x.2.2)) | none => false)) = true
  rw [List.length_map, decide_eq_false (by omega), List.all_map, ruleGo_fold h]
  have e1 : xs.all (tupN 4 ∘ lD) = true := List.all_eq_true.mpr fun _ _ => rfl
  rw [e1]
  show (!false && true && (sumsOf xs).all (fun x => decide (x.2.1 ≤ x.2.2))) = true
  rw [List.all_eq_true.mpr fun s hm => decide_eq_true (hs s hm)]
  rfl
theorem lD_noL {x : LimT} : noL (lD x) = true := rfl
theorem hD_noL {x : Str × Str} : noL (hD x) = true := rfl
theorem map_noL {α : Type} {f : α → PyData} (h : ∀ x, noL (f x) = true) {xs : List α} : noLs (xs.map f) = true := noLs_of fun d hd => by
  obtain ⟨x, _, rfl⟩ := List.mem_map.mp hd
  exact h x
def NmsOk (hs : List (Str × Str)) : Prop := ∀ s ∈ hs.map (·.1), PyData.strOk s = true ∧ s.length ≤ 8
theorem hD_fit {hs : List (Str × Str)} (hh : Heads hs) (h : NmsOk hs) {p : Str × Str} (hp : p ∈ hs) : FitN 2 (hD p) := FitN.tup (n := 1) fun d hd => by
  have m : p.1 ∈ hs.map (·.1) := List.mem_map.mpr ⟨p, hp, rfl⟩
  rcases (show d = .str p.1 ∨ d = .str p.2 by simpa using hd) with rfl | rfl
  · exact .str (h _ m).1 (by have := (h _ m).2; omega)
  · rcases ho_up hh.ok p hp with e | e | e
    · rw [e]; exact .em
    · exact nomatch e
    · exact .str (h _ e).1 (by have := (h _ e).2; omega)
theorem lD_fit {x : LimT} (h : PyData.strOk x.1 = true ∧ x.1.length ≤ 8) : FitN 2 (lD x) := FitN.tup (n := 1) fun d hd => by
  rcases (show d = .str x.1 ∨ d = .int x.2.1 ∨ d = .int x.2.2.1 ∨ d = .int x.2.2.2 by simpa using hd) with rfl | rfl | rfl | rfl
  · exact .str h.1 (by have := h.2; omega)
  · exact .int
  · exact .int
  · exact .int
theorem fit_map {α : Type} {f : α → PyData} {n : Nat} {xs : List α} (h : ∀ x ∈ xs, FitN n (f x)) : FitN (n + 1) (.list (xs.map f)) := FitN.lst fun d hd => by
  obtain ⟨x, hx, rfl⟩ := List.mem_map.mp hd
  exact h x hx
theorem Dr.sameT {w : Addr} {H H' : Hp} (h0 : WellAt H w) (d : Dr w H H') : SameT H H' := fun a o e n => by
  by_cases q : a = w
  · obtain ⟨x, y, z, e2⟩ := h0
    rw [q, e2] at e
    injection e with e
    exact (n _ e.symm).elim
  · exact d.but a o q e
theorem hid_sameT {l : Addr} {H H' : Hp} (s : SameT H H') : SameT (hid l H) (hid l H') := fun a o e n => by
  obtain ⟨h1, h2⟩ := hid_at e
  exact hid_of (s a o h1 n) h2
/-! ## what the law's year is -/
def strsD (ns : List Str) : PyData := .list (ns.map .str)
def allD (hs : List (Str × Str)) : List PyData := hs.map fun p => .tuple [.str p.2, strsD (knotsN hs p.1), strsD (underN hs p.1)]
def dueD (days : Int) (hs : List (Str × Str)) (ls rs : List PyData) : PyData := .list ([.int days, .list (hs.map hD), .list ls, .list rs, strsD (hs.map (·.1))] ++ allD hs)
theorem strs_fit {ns : List Str} (h : ∀ s ∈ ns, PyData.strOk s = true ∧ s.length ≤ 8) : FitN 2 (strsD ns) := fit_map (n := 1) fun s hs => .str (h s hs).1 (by have := (h s hs).2; omega)
theorem knots_in {hs : List (Str × Str)} (hh : Heads hs) {n : Str} (hn : n ∈ hs.map (·.1)) : ∀ s ∈ knotsN hs n, s ∈ hs.map (·.1) := knotsF_mem hh hn
theorem under_in {hs : List (Str × Str)} {n : Str} : ∀ s ∈ underN hs n, s ∈ hs.map (·.1) := fun s h => (List.mem_filter.mp h).1
theorem up_ok {hs : List (Str × Str)} (hh : Heads hs) (h : NmsOk hs) {p : Str × Str} (hp : p ∈ hs) : FitN 2 (.str p.2) := by
  rcases ho_up hh.ok p hp with e | e | e
  · rw [e]; exact .em
  · exact nomatch e
  · exact .str (h _ e).1 (by have := (h _ e).2; omega)
theorem FitN.mono {n m : Nat} {d : PyData} (h : FitN n d) (l : n ≤ m) : FitN m d := ⟨h.can, Nat.le_trans h.dep l, h.sm⟩
theorem due_fit {days : Int} {hs : List (Str × Str)} {ls rs : List LimT} (hh : Heads hs) (h : NmsOk hs) (hl : ∀ x ∈ ls, x.1 ∈ hs.map (·.1)) (hr : ∀ x ∈ rs, x.1 ∈ hs.map (·.1)) : Fit (dueD days hs (ls.map lD) (rs.map lD)) := by
  refine (FitN.lst (n := 3) fun d hd => ?_).fit (by omega)
  rcases List.mem_append.mp hd with hd | hd
  · rcases (show d = .int days ∨ d = .list (hs.map hD) ∨ d = .list (ls.map lD) ∨ d = .list (rs.map lD) ∨ d = strsD (hs.map (·.1)) by simpa using hd) with rfl | rfl | rfl | rfl | rfl
    · exact .int
    · exact fit_map fun p hp => hD_fit hh h hp
    · exact fit_map fun x hx => lD_fit (h _ (hl x hx))
    · exact fit_map fun x hx => lD_fit (h _ (hr x hx))
    · exact (strs_fit h).mono (by omega)
  · obtain ⟨p, hp, rfl⟩ := List.mem_map.mp hd
    have hm : p.1 ∈ hs.map (·.1) := List.mem_map.mpr ⟨p, hp, rfl⟩
    refine FitN.tup (n := 2) fun e he => ?_
    rcases (show e = .str p.2 ∨ e = strsD (knotsN hs p.1) ∨ e = strsD (underN hs p.1) by simpa using he) with rfl | rfl | rfl
    · exact up_ok hh h hp
    · exact strs_fit fun s hs => h s (knots_in hh hm s hs)
    · exact strs_fit fun s hs => h s (under_in s hs)
end Kn
namespace Kn
open PySem PySem.Spec PyProof.Rows L2
def Fr (ws : List Addr) (H : Hp) : Prop := ∀ x ∈ ws, H x ≠ none
theorem Fr.same {ws : List Addr} {H H' : Hp} (f : Fr ws H) (s : Same H H') : Fr ws H' := fun x hx e => f x hx (free_of s e)
theorem Fr.nin {ws : List Addr} {H H' : Hp} {p : Addr} (f : Fr ws H) (s : Same H H') (h : H' p = none) : p ∉ ws := fun m => f p m (free_of s h)
theorem same_hidL {ws : List Addr} {H H' : Hp} (s : Same H H') (h : ∀ w ∈ ws, H w = none) : Same H (hidL ws H') := fun b o e => hidL_of (s b o e) fun m => by rw [h b m] at e; cases e
theorem heads_refs {K : PySem.W.Frag} {H : Hp} : ∀ {hs : List (Str × Str)} {va : List V}, DpAll K H va (hs.map hD) → ∃ ps, va = ps.map V.ref ∧ Paired (fun p (kv : Key × V) => SqT K H p [kV kv.1, kv.2]) ps (kvH hs)
  | [], va, h => ⟨[], dpall_nil h, .nil⟩
  | p :: r, va, h => by
    obtain ⟨x, r', rfl, h1, h2⟩ := dpall_cons h
    obtain ⟨t, rfl, h3⟩ := head_row h1
    obtain ⟨ps, rfl, h4⟩ := heads_refs h2
    exact ⟨t :: ps, rfl, .cons h3 h4⟩
/-- the parts of a year, in a heap -/
structure Parts (K : PySem.W.Frag) (H : Hp) (pl h l r : Addr) (days : Int) (hs : List (Str × Str)) (ls rs : List LimT) : Prop where
  at_ : H pl = some (.lst [.int days, .ref h, .ref l, .ref r])
  ah : ∃ va, H h = some (.lst va) ∧ DpAll K H va (hs.map hD)
  al : ∃ vb, H l = some (.lst vb) ∧ DpAll K H vb (ls.map lD)
  ar : ∃ vc, H r = some (.lst vc) ∧ DpAll K H vc (rs.map lD)
  hh : Heads hs
  nm : NmsOk hs
  d1 : 1 ≤ days
  d2 : days ≤ 30
  l6 : ls.length ≤ 6
  lr : ∀ x ∈ ls, LimR (hs.map (·.1)) days x
  r4 : rs.length ≤ 4
  rr : ∀ x ∈ rs, RuleR (hs.map (·.1)) days x
  su : ∀ m, ∀ s ∈ sumsOf (rs.take m), s.2.1 ≤ s.2.2
theorem Parts.sums {K : PySem.W.Frag} {H : Hp} {pl h l r : Addr} {days : Int} {hs : List (Str × Str)} {ls rs : List LimT} (p : Parts K H pl h l r days hs ls rs) : ∀ s ∈ sumsOf rs, s.2.1 ≤ s.2.2 := by
  have := p.su rs.length
  rwa [List.take_length] at this
theorem Parts.same {K : PySem.W.Frag} {H H' : Hp} {pl h l r : Addr} {days : Int} {hs : List (Str × Str)} {ls rs : List LimT} (p : Parts K H pl h l r days hs ls rs) (s : Same H H') : Parts K H' pl h l r days hs ls rs := by
  obtain ⟨va, a1, a2⟩ := p.ah
  obtain ⟨vb, b1, b2⟩ := p.al
  obtain ⟨vc, c1, c2⟩ := p.ar
  exact ⟨s.at_ p.at_, ⟨va, s.at_ a1, DpAll.same s a2⟩, ⟨vb, s.at_ b1, DpAll.same s b2⟩, ⟨vc, s.at_ c1, DpAll.same s c2⟩, p.hh, p.nm, p.d1, p.d2, p.l6, p.lr, p.r4, p.rr, p.su⟩
def allOne (hs : List (Str × Str)) (p : Str × Str) : PyData := .tuple [.str p.2, strsD (knotsN hs p.1), strsD (underN hs p.1)]
theorem allD_is {hs : List (Str × Str)} : allD hs = hs.map (allOne hs) := rfl
end Kn

set_option Elab.async false
set_option linter.all false
set_option maxRecDepth 100000
set_option maxHeartbeats 2000000
namespace Kn
open PySem PySem.Spec PyProof.Rows L2
/-! ## isinstance of the caught exception: one class, or a new tuple of classes -/
def rIsEX (K : PySem.W.Frag) (a : Addr) (cls : Value) (d : Option Addr) : List V → Hp → VK → Prop := fun xs H Q => ∃ (D : Addr) (b : Bool), cls = .ref D ∧ d = none ∧ ExcC K D ∧
  ((∃ (c : V) (cv : Value), xs = [.ref a, c] ∧ ClsV c cv ∧ PySem.W.kitOne K (.ref D) cv = some b ∧ Q (.bl b) H) ∨
   (∃ (tp : Addr) (cs : List V) (us : List Value), xs = [.ref a, .ref tp] ∧ H tp = some (.tup cs) ∧ Paired ClsV cs us ∧ PySem.W.kitAny K (.ref D) us = some b ∧ Q (.bl b) H))
theorem call_isEX {X : Cx} {a : Addr} {cls : Value} {d : Option Addr} {oe : Obj} {pn : List (Addr × Obj)} (hz : Zc cls d oe) (hf : ∃ vs, oe.data = .fields vs) : CallR (X.suite a ((a, oe) :: pn)) (.builtin "isinstance") (rIsEX X.K a cls d) := by
  intro pins s σ H xs us Q I r h
  obtain ⟨D, b, rfl, rfl, C, h⟩ := h
  obtain ⟨hget, _⟩ := I.pin (a, oe) (List.mem_append.mpr (.inl List.mem_cons_self))
  obtain ⟨vs, hv⟩ := hf
  have J : PySem.W.InstAt s.heap a oe D none := by
    obtain ⟨oc, od, oda, osl⟩ := oe
    obtain ⟨h1, h2⟩ := hz
    dsimp only at h1 h2 hv
    subst h1 h2 hv
    exact ⟨hget, rfl, rfl, trivial⟩
  have kk := PySem.W.handS_kitx_exc (x := a) (ox := oe) C.hg C.hk C.hs C.hd C.ha C.hn C.ht C.hm
  rcases h with ⟨c, cv, rfl, hcv, e, q⟩ | ⟨tp, cs, ws, rfl, hT, k, e, q⟩
  · obtain ⟨u1, u2, rfl, r1, r2⟩ := vals2 r
    obtain rfl := hcv.eq r2
    cases (show u1 = Value.ref a from r1)
    exact PySem.W.kia_one kk I.kIn J e (fun z => nomatch z) fun tk => ⟨.bl b, H, I.kept (t' := tk) fun _ _ z => z, rfl, q⟩
  · obtain ⟨u1, u2, rfl, r1, r2⟩ := vals2 r
    cases (show u1 = Value.ref a from r1)
    cases (show u2 = Value.ref tp from r2)
    obtain ⟨_, its, rv, o, h1, h2, n, h3⟩ := I.hok tp _ hT
    have e3 := ClsV.all k rv
    subst e3
    obtain ⟨oc, od, dt, sl⟩ := o
    simp only at h2 h3
    subst h2 h3
    exact PySem.W.kia_tup kk I.kIn J h1 e (fun z => nomatch z) fun tk => ⟨.bl b, H, I.kept (t' := tk) fun _ _ z => z, rfl, q⟩
theorem isEXK (K : PySem.W.Frag) {X : Cx} (h : X.K = K) {a : Addr} {cls : Value} {d : Option Addr} {oe : Obj} {pn : List (Addr × Obj)} (hz : Zc cls d oe) (hf : ∃ vs, oe.data = .fields vs) : CallR (X.suite a ((a, oe) :: pn)) (.builtin "isinstance") (rIsEX K a cls d) := h ▸ call_isEX hz hf
/-! ## calls whose exception is caught here, by the slots they leave -/
def tMakeS (C : Addr) (sp : Sp) (E : L2.St → XK) (t : TA) : TE := fun σ H Q => t σ H fun vs H1 => ∀ x dx, H1 x = none → H1 dx = none → dx ≠ x → sp (.ref x :: vs) (upd (upd H1 dx (.own x)) x (.ins C dx [])) (fun v H2 => v = .non ∧ Q (.ref x) H2) (E σ)
def tMethAS (cs : Addr → Sp → Prop) (m : Str) (E : L2.St → XK) (ta : TE) (t : TA) : TE := fun σ H Q => ta σ H fun x H1 => ∃ a C dx fs sp, x = .ref a ∧ H1 a = some (.ins C dx fs) ∧ cs C sp ∧ fs.lookup m = none ∧ t σ H1 fun vs H2 => sp (x :: vs) H2 Q (E σ)
theorem run_makeS {X : Cx} {CX : CXT} {k : Nat} {C f : Addr} {fd : FuncData} {ps : List Str} {sp : Sp} {E : XK} {pins : List (Addr × Obj)} {σ : L2.St} {H : Hp} {s : Shared} {Q : VK} {us : List Value} {vs : List V} (M : Mk X.K C f) (F : FnOk X.prog X.w X.K X.mg X.base CX k f fd ps sp) (hr : Room (k + 1) X.A) (hb : Binds X.K fd ps [])
    (hx : PassesAt CX X σ E) (I : Inv X pins σ H s) (r : Vals vs us)
    (h : ∀ x dx, H x = none → H dx = none → dx ≠ x → sp (.ref x :: vs) (upd (upd H dx (.own x)) x (.ins C dx [])) (fun v H2 => v = .non ∧ Q (.ref x) H2) E) :
    wpAny (model X.prog X.w) X.A (call (.ref C) us) (EP X pins σ Q) X.xe s := by
  have hq := h (s.heap.objs.size + 1) s.heap.objs.size (I.hok.fresh (Nat.le_succ _)) (I.hok.fresh (Nat.le_refl _)) (Nat.ne_of_lt (Nat.lt_succ_self _))
  have I2 := Inv.made (C := C) I
  have r2 : Vals (V.ref (s.heap.objs.size + 1) :: vs) (Value.ref (s.heap.objs.size + 1) :: us) := .cons rfl r
  have hl : (Value.ref (s.heap.objs.size + 1) :: us).length = ps.length := by
    have e := r2.length
    rw [F.len _ _ _ _ hq] at e
    exact e.symm
  have b := hb _ (Value.ref (s.heap.objs.size + 1) :: us) I2.kIn (by rw [List.append_nil]; exact hl)
  rw [List.append_nil] at b
  refine wpAny_call (make_map (f := f) I.kIn M.makes M.init (beq_iff_eq.mp M.fn) (codeAny_mono (F.run _ X.stack _ _ ⟨Value.ref (s.heap.objs.size + 1) :: us, []⟩ (Value.ref (s.heap.objs.size + 1) :: us) _ _ E (hr.make C us [])
    (I2.env0.make C us []) b r2 hq) fun r s' hq' => ?_))
  cases r with
  | error e => exact hx pins _ _ e s' I2 hq'
  | ok fl =>
    cases fl with
    | ret u =>
      obtain ⟨v, H', I3, rv, ev, q3⟩ := I2.after hq'
      subst ev
      exact ⟨rv, ⟨V.ref (s.heap.objs.size + 1), H', I3, rfl, q3⟩⟩
    | next => exact False.elim hq'
    | brk => exact False.elim hq'
    | cont => exact False.elim hq'
section
variable {X : Cx} {x m : Str} {e o : Expr} {es : List Expr} {t : TA} {p pos apos : Pos} {k : Nat} {ps : List Str} {sp : Sp} {E : L2.St → XK} {ta : TE} {cs : Addr → Sp → Prop}
theorem kcS (G : DefOk X.prog X.w X.K X.mg X.base k (x, none) ps sp) (hm : X.mg x = some (.ref (He.ga X.K x))) (hr : Room k X.A) (hx : ∀ σ, PassesAt (L2.CX X.prog X.w) X σ (E σ)) (ha : PA X (e :: es) t) (hg : Gl X x := by rfl)
    (hdb : (x == ("__debug__" : Str)) = false := by decide) (he : starEach (e :: es) X.env = (false, eval e X.env) :: starEach es X.env := by rfl) (hpl : (backTo pos (starEach es X.env)).any (·.1) = false := by rfl) :
    PE X (.Call (.Name x p) (e :: es) [] pos) (tCallS sp E t) := by
  obtain ⟨⟨fd, F, b, _⟩, kp⟩ := G
  exact pe_callS F hr hg hm kp b hx ha hdb he hpl
theorem kmkS {ik : Str} (M : Mk X.K (He.ga X.K x) (He.ma X.K (He.ga X.K x) "__init__")) (G : DefOk X.prog X.w X.K X.mg X.base k (x, some "__init__") ps sp) (hm : X.mg x = some (.ref (He.ga X.K x))) (hr : Room (k + 1) X.A) (hx : ∀ σ, PassesAt (L2.CX X.prog X.w) X σ (E σ))
    (ha : PA X (e :: es) t) (hg : Gl X x := by rfl) (hdb : (x == ("__debug__" : Str)) = false := by decide)
    (he : starEach (e :: es) X.env = (false, eval e X.env) :: starEach es X.env := by rfl) (hpl : (backTo pos (starEach es X.env)).any (·.1) = false := by rfl) :
    PE X (.Call (.Name x p) (e :: es) [] pos) (tMakeS (He.ga X.K x) sp E t) := by
  obtain ⟨⟨fd, F, b, _⟩, kp⟩ := G
  refine ⟨fun pins s σ H Q I h => ?_⟩
  refine wpAny_Call_Name_kw (ld_glob I hg hm ?_ hdb)
  refine PySem.W.callWith_K (h₀ := X.base) I.ok.mod.kin M.kp (thn (ha.run pos pins s σ H _ I h) fun us s1 ⟨vs, H1, I1, r, q⟩ => ⟨I1.kIn, ?_⟩) he hpl
  exact run_makeS M F hr b (hx σ) I1 r q
theorem kmeS {pl : Sem Bool} (he : PE X o ta) (hw : ∀ C sp, cs C sp → Way X.prog X.w X.K X.mg X.base k m C sp) (hr : Room k X.A) (hx : ∀ σ, PassesAt (L2.CX X.prog X.w) X σ (E σ)) (ha : PA X (e :: es) t)
    (hst : starEach (e :: es) X.env = (false, eval e X.env) :: starEach es X.env := by rfl) (hpl : (backTo pos (starEach es X.env)).any (·.1) = false := by rfl)
    (ht : eval (.Call (.Attribute o m apos) (e :: es) [] pos) X.env = (eval o X.env >>= fun ov => standAt apos.atName >>= fun _ => holding [ov] (getMethod ov m pl) >>= fun z => callWith pos z.1 z.2 (backTo pos (starEach (e :: es) X.env)) (backToKw pos (keywordEach [] X.env))) := by rfl) :
    PE X (.Call (.Attribute o m apos) (e :: es) [] pos) (tMethAS cs m E ta t) := by
  refine ⟨fun pins s σ H Q I h => ?_⟩
  refine PySem.W.methodCall_KW (pl := pl) (thn (he.run pins s σ H _ I h) fun u s1 ⟨x, H1, I1, rx, a, C, dx, fs, sp, ex, ea, hc, l, q⟩ => ?_) ht
  obtain ⟨c, f, fd, ps, hm, F, hb⟩ := hw C sp hc
  subst ex
  obtain rfl : u = Value.ref a := rx
  refine getmeth_ok I1 ea c hm l ?_
  refine PySem.W.callWith_K (first := [.ref a]) (h₀ := X.base) I1.ok.mod.kin hm.kp (thn (ha.run pos pins s1 σ H1 _ I1 q) fun us s2 ⟨vs, H2, I2, r, q2⟩ => ⟨I2.kIn, ?_⟩) hst hpl
  exact run_fnS (us := .ref a :: us) (vs := .ref a :: vs) F hr hb (hx σ) I2 (.cons rfl r) q2
theorem kme0S {pl : Sem Bool} (he : PE X o ta) (hw : ∀ C sp, cs C sp → Way X.prog X.w X.K X.mg X.base k m C sp) (hr : Room k X.A) (hx : ∀ σ, PassesAt (L2.CX X.prog X.w) X σ (E σ))
    (ht : eval (.Call (.Attribute o m apos) [] [] pos) X.env = (eval o X.env >>= fun ov => standAt apos.atName >>= fun _ => holding [ov] (getMethod ov m pl) >>= fun z => callWith pos z.1 z.2 (backTo pos (starEach [] X.env)) (backToKw pos (keywordEach [] X.env))) := by rfl) :
    PE X (.Call (.Attribute o m apos) [] [] pos) (tMethAS cs m E ta tNil) := by
  refine ⟨fun pins s σ H Q I h => ?_⟩
  refine PySem.W.methodCall_KW (pl := pl) (thn (he.run pins s σ H _ I h) fun u s1 ⟨x, H1, I1, rx, a, C, dx, fs, sp, ex, ea, hc, l, q⟩ => ?_) ht
  obtain ⟨c, f, fd, ps, hm, F, hb⟩ := hw C sp hc
  subst ex
  obtain rfl : u = Value.ref a := rx
  refine getmeth_ok I1 ea c hm l ?_
  exact PySem.W.callWith_K0 (first := [.ref a]) I1.kIn hm.kp (run_fnS (us := [.ref a]) (vs := [.ref a]) F hr hb (hx σ) I1 (.cons rfl .nil) q)
end
/-! readings -/
section
variable {D : Ends} {σ : L2.St} {H : Hp} {Q : VK} {ta : TE} {t : TA} {sp : Sp} {E : L2.St → XK}
theorem s_callS (h : t σ H fun vs H1 => sp vs H1 Q (E σ)) : tCallS sp E t σ H Q := h
theorem s_makeS {C : Addr} (h : t σ H fun vs H1 => ∀ x dx, H1 x = none → H1 dx = none → dx ≠ x → sp (.ref x :: vs) (upd (upd H1 dx (.own x)) x (.ins C dx [])) (fun v H2 => v = .non ∧ Q (.ref x) H2) (E σ)) : tMakeS C sp E t σ H Q := h
theorem s_methS {cs : Addr → Sp → Prop} {m : Str} (h : ta σ H fun x H1 => ∃ a C dx fs sp, x = .ref a ∧ H1 a = some (.ins C dx fs) ∧ cs C sp ∧ fs.lookup m = none ∧ t σ H1 fun vs H2 => sp (x :: vs) H2 Q (E σ)) : tMethAS cs m E ta t σ H Q := h
end
/-- the class of the caught exception, and what the law asks of it -/
def excB (K : PySem.W.Frag) (D : Addr) : Bool := He.eqO (PySem.W.findIn K (.ref D) "__getattribute__") (some (some (.builtin "BaseException.__getattribute__"))) && (He.eqO (PySem.W.findIn K (.ref D) "__getattr__") (some none) && (decide (PySem.W.subIn K (.ref D) (.type "BaseException") = some true) && (decide (PySem.W.hasDictIn K D = true) &&
  (He.eqO (PySem.W.findIn K (.ref D) "__class__") (some (some (.builtin "object.__class__"))) && (He.eqO (PySem.W.specialIn K (.builtin "object.__class__") "__get__") (some (some (.builtin "getset_descriptor.__get__"))) && (decide (PySem.W.takesIn K (.builtin "object.__class__") = some true) && decide (PySem.W.mroIn K D (.type "object") = some true)))))))
theorem excB_ok {K : PySem.W.Frag} {D : Addr} (h : excB K D = true) : ExcC K D := by
  obtain ⟨h1, h⟩ := He.ba h
  obtain ⟨h2, h⟩ := He.ba h
  obtain ⟨h3, h⟩ := He.ba h
  obtain ⟨h4, h⟩ := He.ba h
  obtain ⟨h5, h⟩ := He.ba h
  obtain ⟨h6, h⟩ := He.ba h
  obtain ⟨h7, h8⟩ := He.ba h
  exact ⟨He.eqO_ok h1, He.eqO_ok h2, of_decide_eq_true h3, of_decide_eq_true h4, He.eqO_ok h5, He.eqO_ok h6, of_decide_eq_true h7, of_decide_eq_true h8⟩
end Kn

set_option Elab.async false
set_option linter.all false
set_option maxRecDepth 100000
set_option maxHeartbeats 2000000
namespace Kn
open PySem PySem.Spec PyProof.Rows L2
/-! ## things by value; what may change stands in a store by number -/
inductive DV where
  | non | bl (b : Bool) | int (i : Int) | str (x : Str)
  | tup (ds : List DV) | lst (ds : List DV) | scr (ds : List DV)
  | dct (ks : List Key) (ds : List DV)
  | ins (C : Addr) (ns : List Str) (ds : List DV)
  | ref (n : Nat) | adr (a : Addr) | ty (n : String)
structure Wd where
  F : Hp
  ι : Nat → Option Addr
  G : Hp
structure Wd.Le (W W' : Wd) : Prop where
  f : Same W.F W'.F
  i : ∀ n a, W.ι n = some a → W'.ι n = some a
  g : W'.G = W.G
theorem Wd.Le.refl (W : Wd) : W.Le W := ⟨Same.refl _, fun _ _ h => h, rfl⟩
theorem Wd.Le.trans {W W1 W2 : Wd} (a : W.Le W1) (b : W1.Le W2) : W.Le W2 := ⟨a.f.trans b.f, fun n x h => b.i n x (a.i n x h), b.g.trans a.g⟩
def SOk (s : Str) : Prop := PyData.strOk s = true ∧ s.length ≤ 100000
instance (s : Str) : Decidable (SOk s) := inferInstanceAs (Decidable (_ ∧ _))
/-- a class whose instances have such fields -/
structure CIn (K : PySem.W.Frag) (C : Addr) (ns : List Str) : Prop where
  c : Cls K C
  i : InsK K C
  n : ∀ f ∈ ns, NoAttr K C f
mutual
inductive Dv (K : PySem.W.Frag) (W : Wd) : V → DV → Prop
  | non : Dv K W .non .non
  | bl (b : Bool) : Dv K W (.bl b) (.bl b)
  | int (i : Int) : Dv K W (.int i) (.int i)
  | str (x : Str) (h : SOk x) : Dv K W (.str x) (.str x)
  | tup {a : Addr} {xs : List V} {ds : List DV} : SqT K W.F a xs → DvAll K W xs ds → Dv K W (.ref a) (.tup ds)
  | lst {a : Addr} {xs : List V} {ds : List DV} : W.F a = some (.lst xs) → DvAll K W xs ds → Dv K W (.ref a) (.lst ds)
  | scr {a : Addr} {xs : List V} {ds : List DV} : SqL K W.F a xs → DvAll K W xs ds → Dv K W (.ref a) (.scr ds)
  | dct {a : Addr} {kvs : List (Key × V)} {ks : List Key} {ds : List DV} : W.F a = some (.dK kvs) → kvs.map (·.1) = ks → DvAll K W (kvs.map (·.2)) ds → Dv K W (.ref a) (.dct ks ds)
  | ins {a C dx : Addr} {fs : List (Str × V)} {ns : List Str} {ds : List DV} : W.F a = some (.ins C dx fs) → CIn K C ns → fs.map (·.1) = ns → DvAll K W (fs.map (·.2)) ds → Dv K W (.ref a) (.ins C ns ds)
  | ref {a : Addr} {n : Nat} : W.ι n = some a → Dv K W (.ref a) (.ref n)
  | adr (a : Addr) : Dv K W (.ref a) (.adr a)
  | ty (n : String) : Dv K W (.ty n) (.ty n)
inductive DvAll (K : PySem.W.Frag) (W : Wd) : List V → List DV → Prop
  | nil : DvAll K W [] []
  | cons {v : V} {vs : List V} {d : DV} {ds : List DV} : Dv K W v d → DvAll K W vs ds → DvAll K W (v :: vs) (d :: ds)
end
mutual
theorem Dv.mono {K : PySem.W.Frag} {W W' : Wd} (sf : Same W.F W'.F) (si : ∀ n a, W.ι n = some a → W'.ι n = some a) : ∀ {d : DV} {v : V}, Dv K W v d → Dv K W' v d
  | _, _, .non => .non
  | _, _, .bl b => .bl b
  | _, _, .int i => .int i
  | _, _, .str x h => .str x h
  | _, _, .tup h1 h2 => .tup (sf.sqt h1) (DvAll.mono sf si h2)
  | _, _, .lst h1 h2 => .lst (sf.at_ h1) (DvAll.mono sf si h2)
  | _, _, .scr h1 h2 => .scr (sf.seq h1) (DvAll.mono sf si h2)
  | _, _, .dct h1 h2 h3 => .dct (sf.at_ h1) h2 (DvAll.mono sf si h3)
  | _, _, .ins h1 hc h2 h3 => .ins (sf.at_ h1) hc h2 (DvAll.mono sf si h3)
  | _, _, .ref h => .ref (si _ _ h)
  | _, _, .adr a => .adr a
  | _, _, .ty n => .ty n
theorem DvAll.mono {K : PySem.W.Frag} {W W' : Wd} (sf : Same W.F W'.F) (si : ∀ n a, W.ι n = some a → W'.ι n = some a) : ∀ {ds : List DV} {vs : List V}, DvAll K W vs ds → DvAll K W' vs ds
  | _, _, .nil => .nil
  | _, _, .cons h1 h2 => .cons (Dv.mono sf si h1) (DvAll.mono sf si h2)
end
theorem Dv.le {K : PySem.W.Frag} {W W' : Wd} {d : DV} {v : V} (l : W.Le W') (h : Dv K W v d) : Dv K W' v d := Dv.mono l.f l.i h
theorem DvAll.le {K : PySem.W.Frag} {W W' : Wd} {ds : List DV} {vs : List V} (l : W.Le W') (h : DvAll K W vs ds) : DvAll K W' vs ds := DvAll.mono l.f l.i h
section
variable {K : PySem.W.Frag} {W : Wd}
theorem DvAll.len : ∀ {vs : List V} {ds : List DV}, DvAll K W vs ds → vs.length = ds.length
  | _, _, .nil => rfl
  | _, _, .cons _ h => congrArg Nat.succ (DvAll.len h)
theorem DvAll.get : ∀ {vs : List V} {ds : List DV} {i : Nat} {d : DV}, DvAll K W vs ds → ds[i]? = some d → ∃ v, vs[i]? = some v ∧ Dv K W v d
  | _, _, 0, _, .cons h _, e => ⟨_, rfl, by injection e with e; rw [← e]; exact h⟩
  | _, _, i + 1, _, .cons _ h, e => DvAll.get (i := i) h e
theorem DvAll.getV : ∀ {vs : List V} {ds : List DV} {i : Nat} {v : V}, DvAll K W vs ds → vs[i]? = some v → ∃ d, ds[i]? = some d ∧ Dv K W v d
  | _, _, 0, _, .cons h _, e => ⟨_, rfl, by injection e with e; rw [← e]; exact h⟩
  | _, _, i + 1, _, .cons _ h, e => DvAll.getV (i := i) h e
theorem DvAll.app : ∀ {vs us : List V} {ds es : List DV}, DvAll K W vs ds → DvAll K W us es → DvAll K W (vs ++ us) (ds ++ es)
  | _, _, _, _, .nil, h => h
  | _, _, _, _, .cons h1 h2, h => .cons h1 (DvAll.app h2 h)
theorem DvAll.take : ∀ {vs : List V} {ds : List DV} (n : Nat), DvAll K W vs ds → DvAll K W (vs.take n) (ds.take n)
  | _, _, 0, _ => by simp only [List.take_zero]; exact .nil
  | _, _, _ + 1, .nil => .nil
  | _, _, n + 1, .cons h1 h2 => .cons h1 (DvAll.take n h2)
theorem DvAll.drop : ∀ {vs : List V} {ds : List DV} (n : Nat), DvAll K W vs ds → DvAll K W (vs.drop n) (ds.drop n)
  | _, _, 0, h => h
  | _, _, _ + 1, .nil => .nil
  | _, _, n + 1, .cons h1 h2 => DvAll.drop n h2
theorem DvAll.rev : ∀ {vs : List V} {ds : List DV}, DvAll K W vs ds → DvAll K W vs.reverse ds.reverse
  | _, _, .nil => .nil
  | _, _, .cons h1 h2 => by
    rw [List.reverse_cons, List.reverse_cons]
    exact (DvAll.rev h2).app (.cons h1 .nil)
theorem DvAll.set {v : V} {d : DV} (h : Dv K W v d) : ∀ {vs : List V} {ds : List DV} (i : Nat), DvAll K W vs ds → DvAll K W (vs.set i v) (ds.set i d)
  | _, _, _, .nil => .nil
  | _, _, 0, .cons _ t => .cons h t
  | _, _, i + 1, .cons q t => .cons q (DvAll.set h i t)
theorem DvAll.nil_iff {vs : List V} {ds : List DV} (h : DvAll K W vs ds) : vs = [] ↔ ds = [] := by
  cases h with
  | nil => simp
  | cons _ _ => simp
theorem DvAll.ints {ns : List Int} : DvAll K W (ns.map V.int) (ns.map DV.int) := by
  induction ns with
  | nil => exact .nil
  | cons a r ih => exact .cons (.int a) ih
theorem DvAll.lookup {f : Str} {d : DV} : ∀ {fs : List (Str × V)} {ns : List Str} {ds : List DV}, fs.map (·.1) = ns → DvAll K W (fs.map (·.2)) ds → (ns.zip ds).lookup f = some d → ∃ v, fs.lookup f = some v ∧ Dv K W v d
  | [], _, _, rfl, .nil, e => by cases e
  | (x, v) :: r, _, _, rfl, .cons h1 h2, e => by
    simp only [List.map_cons, List.zip_cons_cons, List.lookup_cons] at e ⊢
    cases q : f == x with
    | true =>
      simp only [q] at e ⊢
      injection e with e
      exact ⟨v, rfl, e ▸ h1⟩
    | false =>
      simp only [q] at e ⊢
      exact DvAll.lookup rfl h2 e
end
/-! ## the store -/
inductive OV where
  | lst (ds : List DV) | dct (ks : List Key) (ds : List DV) | ins (C : Addr) (ns : List Str) (ds : List DV) | well | lck (od : Obj) (kvs : List (Key × V)) (ks : List Key) (ds : List DV)
abbrev Sto := Nat → Option OV
def sset (st : Sto) (n : Nat) (o : OV) : Sto := fun m => if m = n then some o else st m
def sdel (st : Sto) (n : Nat) : Sto := fun m => if m = n then none else st m
theorem sset_same {st : Sto} {n : Nat} {o : OV} : sset st n o n = some o := if_pos rfl
theorem sset_ne {st : Sto} {n m : Nat} {o : OV} (h : m ≠ n) : sset st n o m = st m := if_neg h
theorem sdel_ne {st : Sto} {n m : Nat} (h : m ≠ n) : sdel st n m = st m := if_neg h
theorem sdel_same {st : Sto} {n : Nat} : sdel st n n = none := if_pos rfl
theorem sdel_set {st : Sto} {n : Nat} {o : OV} (h : st n = none) : sdel (sset st n o) n = st := by
  funext m
  by_cases e : m = n
  · rw [e, sdel_same, h]
  · rw [sdel_ne e, sset_ne e]
theorem sset_sset {st : Sto} {n : Nat} {o u : OV} : sset (sset st n o) n u = sset st n u := by
  funext m
  unfold sset
  split <;> rfl
theorem sne_of {st : Sto} {n m : Nat} {o : OV} (h : st m = some o) (h' : st n = none) : m ≠ n := fun e => by rw [e, h'] at h; cases h
def ObR (K : PySem.W.Frag) (W : Wd) (H : Hp) (a : Addr) : OV → Prop
  | .lst ds => ∃ vs, H a = some (.lst vs) ∧ DvAll K W vs ds
  | .dct ks ds => ∃ kvs : List (Key × V), H a = some (.dK kvs) ∧ kvs.map (·.1) = ks ∧ DvAll K W (kvs.map (·.2)) ds
  | .ins C ns ds => ∃ dx fs, H a = some (.ins C dx fs) ∧ CIn K C ns ∧ fs.map (·.1) = ns ∧ DvAll K W (fs.map (·.2)) ds
  | .well => ∃ i j k : Int, H a = some (.lst [.int i, .int j, .int k])
  | .lck od kvs ks ds => H a = some (.frz od (.dK kvs)) ∧ kvs.map (·.1) = ks ∧ DvAll K W (kvs.map (·.2)) ds
theorem ObR.ex {K W H a o} (h : ObR K W H a o) : ∃ u, H a = some u := by
  cases o with
  | lst _ => obtain ⟨_, h, _⟩ := h; exact ⟨_, h⟩
  | dct _ _ => obtain ⟨_, h, _⟩ := h; exact ⟨_, h⟩
  | ins _ _ _ => obtain ⟨_, _, h, _⟩ := h; exact ⟨_, h⟩
  | well => obtain ⟨_, _, _, h⟩ := h; exact ⟨_, h⟩
  | lck _ _ _ _ => obtain ⟨h, _, _⟩ := h; exact ⟨_, h⟩
theorem ObR.mono {K : PySem.W.Frag} {W W' : Wd} {H H' : Hp} {a : Addr} {o : OV} (sf : Same W.F W'.F) (si : ∀ n a, W.ι n = some a → W'.ι n = some a) (e : H' a = H a) (h : ObR K W H a o) : ObR K W' H' a o := by
  cases o with
  | lst _ => obtain ⟨x, h, q⟩ := h; exact ⟨x, e.trans h, q.mono sf si⟩
  | dct _ _ => obtain ⟨x, h, p, q⟩ := h; exact ⟨x, e.trans h, p, q.mono sf si⟩
  | ins _ _ _ => obtain ⟨x, y, h, r, p, q⟩ := h; exact ⟨x, y, e.trans h, r, p, q.mono sf si⟩
  | well => obtain ⟨x, y, z, h⟩ := h; exact ⟨x, y, z, e.trans h⟩
  | lck _ _ _ _ => obtain ⟨h, p, q⟩ := h; exact ⟨e.trans h, p, q.mono sf si⟩
/-- the store is held by the heap -/
structure Rl (K : PySem.W.Frag) (W : Wd) (st : Sto) (H : Hp) : Prop where
  fh : Same W.F H
  gh : Same W.G H
  fg : ∀ a o, W.G a = some o → W.F a = none
  ob : ∀ n o, st n = some o → ∃ a, W.ι n = some a ∧ W.F a = none ∧ ObR K W H a o
  inj : ∀ n m a, W.ι n = some a → W.ι m = some a → n = m
  up : ∀ n a, W.ι n = some a → ∃ o, H a = some o
  ig : ∀ n a, W.ι n = some a → W.G a = none
  bd : ∃ N, ∀ n, N ≤ n → W.ι n = none
section
variable {K : PySem.W.Frag} {W : Wd} {st : Sto} {H : Hp}
theorem Rl.fnone (R : Rl K W st H) {p : Addr} (h : H p = none) : W.F p = none := free_of R.fh h
theorem Rl.gnone (R : Rl K W st H) {p : Addr} (h : H p = none) : W.G p = none := free_of R.gh h
theorem Rl.inone (R : Rl K W st H) {p : Addr} (h : H p = none) (n : Nat) : W.ι n ≠ some p := fun e => by
  obtain ⟨o, q⟩ := R.up n p e
  rw [h] at q
  cases q
def Wd.fz (W : Wd) (p : Addr) (o : HO) : Wd := { W with F := upd W.F p o }
theorem Wd.fz_le {W : Wd} {p : Addr} {o : HO} (h : W.F p = none) : W.Le (W.fz p o) := ⟨Same.new h, fun _ _ h => h, rfl⟩
/-- a new thing that never changes -/
theorem Rl.new (R : Rl K W st H) {p : Addr} {o : HO} (h : H p = none) : Rl K (W.fz p o) st (upd H p o) where
  fh := fun a u e => by
    by_cases q : a = p
    · subst q
      have e : upd W.F a o a = some u := e
      rw [upd_same] at e ⊢
      exact e
    · have e : upd W.F p o a = some u := e
      rw [upd_ne q] at e ⊢
      exact R.fh.at_ e
  gh := R.gh.trans (Same.new h)
  fg := fun a u e => by
    have q : a ≠ p := ne_of_none e (R.gnone h)
    show upd W.F p o a = none
    rw [upd_ne q]
    exact R.fg a u e
  ob := fun n u e => by
    obtain ⟨a, h1, h2, h3⟩ := R.ob n u e
    have q : a ≠ p := fun z => R.inone h n (z ▸ h1)
    refine ⟨a, h1, ?_, h3.mono (W' := W.fz p o) (Wd.fz_le (R.fnone h)).f (fun _ _ z => z) (upd_ne q)⟩
    show upd W.F p o a = none
    rw [upd_ne q]
    exact h2
  inj := R.inj
  up := fun n a e => by
    obtain ⟨u, q⟩ := R.up n a e
    exact ⟨u, (Same.new h).at_ q⟩
  ig := R.ig
  bd := R.bd
/-- the heap grows by what none knows -/
theorem Rl.same (R : Rl K W st H) {H' : Hp} (s : Same H H') : Rl K W st H' where
  fh := R.fh.trans s
  gh := R.gh.trans s
  fg := R.fg
  ob := fun n u e => by
    obtain ⟨a, h1, h2, h3⟩ := R.ob n u e
    obtain ⟨v, q⟩ := h3.ex
    exact ⟨a, h1, h2, h3.mono (Same.refl _) (fun _ _ z => z) ((s.at_ q).trans q.symm)⟩
  inj := R.inj
  up := fun n a e => by
    obtain ⟨u, q⟩ := R.up n a e
    exact ⟨u, s.at_ q⟩
  ig := R.ig
  bd := R.bd
/-- a thing of the store is changed -/
theorem Rl.put (R : Rl K W st H) {n : Nat} {o o' : OV} {a : Addr} {u : HO} (h : st n = some o) (ha : W.ι n = some a) (hn : ObR K W (upd H a u) a o') : Rl K W (sset st n o') (upd H a u) where
  fh := fun b x e => by
    obtain ⟨a', h1, h2, h3⟩ := R.ob n o h
    rw [ha] at h1
    injection h1 with h1
    subst h1
    rw [upd_ne (ne_of_none e h2)]
    exact R.fh.at_ e
  gh := fun b x e => by
    rw [upd_ne (ne_of_none e (R.ig n a ha))]
    exact R.gh.at_ e
  fg := R.fg
  ob := fun m x e => by
    by_cases q : m = n
    · subst q
      rw [sset_same] at e
      injection e with e
      subst e
      obtain ⟨a', h1, h2, h3⟩ := R.ob m o h
      rw [ha] at h1
      injection h1 with h1
      subst h1
      exact ⟨a, ha, h2, hn⟩
    · rw [sset_ne q] at e
      obtain ⟨b, h1, h2, h3⟩ := R.ob m x e
      have qb : b ≠ a := fun z => q (R.inj m n a (z ▸ h1) ha)
      exact ⟨b, h1, h2, h3.mono (Same.refl _) (fun _ _ z => z) (upd_ne qb)⟩
  inj := R.inj
  up := fun m b e => by
    by_cases q : b = a
    · subst q; exact ⟨u, upd_same⟩
    · obtain ⟨x, z⟩ := R.up m b e
      exact ⟨x, by rw [upd_ne q]; exact z⟩
  ig := R.ig
  bd := R.bd
def Wd.nw (W : Wd) (n : Nat) (p : Addr) : Wd := { W with ι := fun m => if m = n then some p else W.ι m }
theorem Wd.nw_le {W : Wd} {n : Nat} {p : Addr} (h : W.ι n = none) : W.Le (W.nw n p) := ⟨Same.refl _, fun m a e => by
  show (if m = n then some p else W.ι m) = some a
  rw [if_neg (fun z => by rw [z, h] at e; cases e)]
  exact e, rfl⟩
theorem Wd.nw_at {W : Wd} {n : Nat} {p : Addr} : (W.nw n p).ι n = some p := if_pos rfl
/-- a new thing of the store -/
theorem Rl.alloc (R : Rl K W st H) {n : Nat} {p : Addr} {u : HO} {o : OV} (hn : W.ι n = none) (h : H p = none) (ho : ObR K (W.nw n p) (upd H p u) p o) : Rl K (W.nw n p) (sset st n o) (upd H p u) where
  fh := R.fh.trans (Same.new h)
  gh := R.gh.trans (Same.new h)
  fg := R.fg
  ob := fun m x e => by
    by_cases q : m = n
    · subst q
      rw [sset_same] at e
      injection e with e
      subst e
      exact ⟨p, Wd.nw_at, R.fnone h, ho⟩
    · rw [sset_ne q] at e
      obtain ⟨b, h1, h2, h3⟩ := R.ob m x e
      have qb : b ≠ p := fun z => R.inone h m (z ▸ h1)
      exact ⟨b, (Wd.nw_le hn).i m b h1, h2, h3.mono (Wd.nw_le hn).f (Wd.nw_le hn).i (upd_ne qb)⟩
  inj := fun m k a e1 e2 => by
    have e1 : (if m = n then some p else W.ι m) = some a := e1
    have e2 : (if k = n then some p else W.ι k) = some a := e2
    by_cases q1 : m = n
    · by_cases q2 : k = n
      · rw [q1, q2]
      · rw [if_pos q1] at e1
        rw [if_neg q2] at e2
        injection e1 with e1
        subst e1
        exact (R.inone h k e2).elim
    · by_cases q2 : k = n
      · rw [if_neg q1] at e1
        rw [if_pos q2] at e2
        injection e2 with e2
        subst e2
        exact (R.inone h m e1).elim
      · rw [if_neg q1] at e1
        rw [if_neg q2] at e2
        exact R.inj m k a e1 e2
  up := fun m a e => by
    have e : (if m = n then some p else W.ι m) = some a := e
    by_cases q1 : m = n
    · rw [if_pos q1] at e
      injection e with e
      subst e
      exact ⟨u, upd_same⟩
    · rw [if_neg q1] at e
      obtain ⟨x, z⟩ := R.up m a e
      exact ⟨x, (Same.new h).at_ z⟩
  ig := fun m a e => by
    have e : (if m = n then some p else W.ι m) = some a := e
    by_cases q1 : m = n
    · rw [if_pos q1] at e
      injection e with e
      subst e
      exact R.gnone h
    · rw [if_neg q1] at e
      exact R.ig m a e
  bd := by
    obtain ⟨N, hN⟩ := R.bd
    refine ⟨N + n + 1, fun m hm => ?_⟩
    show (if m = n then some p else W.ι m) = none
    rw [if_neg (by omega)]
    exact hN m (by omega)
theorem Rl.fresh (R : Rl K W st H) : ∃ n, W.ι n = none ∧ st n = none := by
  obtain ⟨N, hN⟩ := R.bd
  refine ⟨N, hN N (Nat.le_refl _), ?_⟩
  cases e : st N with
  | none => rfl
  | some o =>
    obtain ⟨a, h, _⟩ := R.ob N o e
    rw [hN N (Nat.le_refl _)] at h
    cases h
/-- a thing of the store is forgotten -/
theorem Rl.sub (R : Rl K W st H) {st' : Sto} (h : ∀ n o, st' n = some o → st n = some o) : Rl K W st' H where
  fh := R.fh
  gh := R.gh
  fg := R.fg
  ob := fun n o e => R.ob n o (h n o e)
  inj := R.inj
  up := R.up
  ig := R.ig
  bd := R.bd
theorem sub_del {st : Sto} {n : Nat} : ∀ m o, sdel st n m = some o → st m = some o := fun m o e => by
  by_cases q : m = n
  · rw [q, sdel_same] at e; cases e
  · rw [sdel_ne q] at e; exact e
/-- a thing of the store is frozen -/
theorem Rl.frz (R : Rl K W st H) {n : Nat} {o : OV} {a : Addr} {u : HO} (h : st n = some o) (ha : W.ι n = some a) (hu : H a = some u) : Rl K (W.fz a u) (sdel st n) H where
  fh := fun b x e => by
    have e : upd W.F a u b = some x := e
    by_cases q : b = a
    · subst q
      rw [upd_same] at e
      injection e with e
      rw [← e]; exact hu
    · rw [upd_ne q] at e
      exact R.fh.at_ e
  gh := R.gh
  fg := fun b x e => by
    show upd W.F a u b = none
    rw [upd_ne (ne_of_none e (R.ig n a ha))]
    exact R.fg b x e
  ob := fun m x e => by
    have q : m ≠ n := fun z => by rw [z, sdel_same] at e; cases e
    rw [sdel_ne q] at e
    obtain ⟨b, h1, h2, h3⟩ := R.ob m x e
    have qb : b ≠ a := fun z => q (R.inj m n a (z ▸ h1) ha)
    obtain ⟨a', g1, g2, _⟩ := R.ob n o h
    rw [ha] at g1
    injection g1 with g1
    subst g1
    refine ⟨b, h1, ?_, h3.mono (Wd.fz_le g2).f (fun _ _ z => z) rfl⟩
    show upd W.F a u b = none
    rw [upd_ne qb]
    exact h2
  inj := R.inj
  up := R.up
  ig := R.ig
  bd := R.bd
theorem Rl.re (R : Rl K W st H) {n : Nat} {o o' : OV} (h : st n = some o) (hn : ∀ a, W.ι n = some a → ObR K W H a o → ObR K W H a o') : Rl K W (sset st n o') H where
  fh := R.fh
  gh := R.gh
  fg := R.fg
  ob := fun m u e => by
    by_cases q : m = n
    · subst q
      rw [sset_same] at e
      injection e with e
      subst e
      obtain ⟨a, h1, h2, h3⟩ := R.ob m o h
      exact ⟨a, h1, h2, hn a h1 h3⟩
    · rw [sset_ne q] at e
      exact R.ob m u e
  inj := R.inj
  up := R.up
  ig := R.ig
  bd := R.bd
theorem Rl.tie (R : Rl K W st H) {n : Nat} {i j k : Int} (h : st n = some (.lst [.int i, .int j, .int k])) : Rl K W (sset st n .well) H :=
  R.re h fun a _ ⟨vs, h1, h2⟩ => by
    cases h2 with
    | cons a1 h2 => cases h2 with
      | cons a2 h2 => cases h2 with
        | cons a3 h2 => cases h2; cases a1; cases a2; cases a3; exact ⟨_, _, _, h1⟩
theorem Rl.untie (R : Rl K W st H) {n : Nat} (h : st n = some .well) : ∃ i j k : Int, Rl K W (sset st n (.lst [.int i, .int j, .int k])) H := by
  obtain ⟨a, h1, h2, i, j, k, h3⟩ := R.ob n _ h
  refine ⟨i, j, k, R.re h fun b hb _ => ?_⟩
  rw [h1] at hb; injection hb with hb; subst hb
  exact ⟨_, h3, .cons (.int i) (.cons (.int j) (.cons (.int k) .nil))⟩
end
end Kn

set_option Elab.async false
set_option linter.all false
set_option maxRecDepth 100000
set_option maxHeartbeats 2000000
namespace Kn
open PySem PySem.Spec PyProof.Rows L2
abbrev Sl := List (Option DV)
structure XV where
  C : Addr
  ns : List Str
  ds : List DV
abbrev KD := DV → Sto → Prop
abbrev KX := XV → Sto → Prop
abbrev TEd := KX → Sl → Sto → KD → Prop
abbrev TTd := KX → Sl → Sto → (Bool → Sto → Prop) → Prop
abbrev TAd := KX → Sl → Sto → (List DV → Sto → Prop) → Prop
structure Endd where
  nx : Sl → Sto → Prop
  rt : KD
  ex : XV → Sl → Sto → Prop
  bk : Sl → Sto → Prop := fun _ _ => False
  ct : Sl → Sto → Prop := fun _ _ => False
abbrev TSd := Endd → Sl → Sto → Prop
abbrev TGd := DV → KX → Sl → Sto → (Sl → Sto → Prop) → Prop
abbrev TGsd := List DV → KX → Sl → Sto → (Sl → Sto → Prop) → Prop
abbrev TId := KX → Sl → Sto → (List DV → (Sto → Prop) → Sto → Prop) → Prop
abbrev EK := L2.St → XK
abbrev R2d := DV → DV → Sto → KD → Prop
abbrev Spd := List DV → Sto → KD → KX → Prop
def SlR (K : PySem.W.Frag) (W : Wd) (sl : Sl) (σ : L2.St) : Prop := sl.length = σ.length ∧ ∀ (i : Nat) (d : DV), sl[i]? = some (some d) → ∃ v, σ[i]? = some (some v) ∧ Dv K W v d
def XR (K : PySem.W.Frag) (W : Wd) (H : Hp) (cls : Value) (d : Option Addr) (x : XV) : Prop := cls = .ref x.C ∧
  (x.ns = [] → d = none ∧ x.ds = []) ∧ (x.ns ≠ [] → ∃ a fs, d = some a ∧ H a = some (.xd fs) ∧ fs.map (·.1) = x.ns ∧ DvAll K W (fs.map (·.2)) x.ds)
def XS (K : PySem.W.Frag) (E : EK) (W : Wd) (σ : L2.St) (ex : KX) : Prop := ∀ W' st' H' cls d x, W.Le W' → Rl K W' st' H' → XR K W' H' cls d x → ex x st' → E σ cls d H'
structure At (K : PySem.W.Frag) (E : EK) (W : Wd) (sl : Sl) (st : Sto) (σ : L2.St) (H : Hp) (ex : KX) : Prop where
  r : Rl K W st H
  s : SlR K W sl σ
  x : XS K E W σ ex
section
variable {K : PySem.W.Frag} {E : EK} {W W' : Wd} {sl : Sl} {st st' : Sto} {σ : L2.St} {H H' : Hp} {ex : KX}
theorem SlR.le (l : W.Le W') (h : SlR K W sl σ) : SlR K W' sl σ := ⟨h.1, fun i d e => by
  obtain ⟨v, h1, h2⟩ := h.2 i d e
  exact ⟨v, h1, h2.le l⟩⟩
theorem SlR.mono (sf : Same W.F W'.F) (si : ∀ n a, W.ι n = some a → W'.ι n = some a) (h : SlR K W sl σ) : SlR K W' sl σ := ⟨h.1, fun i d e => by
  obtain ⟨v, h1, h2⟩ := h.2 i d e
  exact ⟨v, h1, h2.mono sf si⟩⟩
theorem SlR.set {i : Nat} {v : V} {d : DV} (D : Dv K W v d) (h : SlR K W sl σ) : SlR K W (sl.set i (some d)) (σ.set i (some v)) := ⟨by rw [List.length_set, List.length_set]; exact h.1, fun j e q => by
  rw [List.getElem?_set] at q ⊢
  by_cases hj : i = j
  · rw [if_pos hj] at q ⊢
    by_cases hl : i < sl.length
    · rw [if_pos hl] at q
      rw [if_pos (by rw [← h.1]; exact hl)]
      injection q with q
      injection q with q
      exact ⟨v, rfl, q ▸ D⟩
    · rw [if_neg hl] at q; cases q
  · rw [if_neg hj] at q ⊢
    exact h.2 j e q⟩
theorem SlR.unset {i : Nat} (h : SlR K W sl σ) : SlR K W (sl.set i none) (σ.set i none) := ⟨by rw [List.length_set, List.length_set]; exact h.1, fun j e q => by
  rw [List.getElem?_set] at q ⊢
  by_cases hj : i = j
  · rw [if_pos hj] at q
    by_cases hl : i < sl.length
    · rw [if_pos hl] at q; cases q
    · rw [if_neg hl] at q; cases q
  · rw [if_neg hj] at q ⊢
    exact h.2 j e q⟩
theorem XS.le (l : W.Le W') (h : XS K E W σ ex) : XS K E W' σ ex := fun W2 st2 H2 cls d x l2 => h W2 st2 H2 cls d x (l.trans l2)
theorem At.le (A : At K E W sl st σ H ex) (l : W.Le W') (R : Rl K W' st' H') : At K E W' sl st' σ H' ex := ⟨R, A.s.le l, A.x.le l⟩
end
/-! ## the readings told by values -/
section
variable (K : PySem.W.Frag) (E : EK)
def canE (td : TEd) : TE := fun σ H Q => ∃ (W : Wd) (sl : Sl) (st : Sto) (ex : KX) (Qd : KD), At K E W sl st σ H ex ∧ td ex sl st Qd ∧ ∀ W' st' H' v d, W.Le W' → Rl K W' st' H' → Dv K W' v d → Qd d st' → Q v H'
def canT (td : TTd) : TT := fun σ H Q => ∃ (W : Wd) (sl : Sl) (st : Sto) (ex : KX) (Qd : Bool → Sto → Prop), At K E W sl st σ H ex ∧ td ex sl st Qd ∧ ∀ W' st' H' b, W.Le W' → Rl K W' st' H' → Qd b st' → Q b H'
def canA (td : TAd) : TA := fun σ H Q => ∃ (W : Wd) (sl : Sl) (st : Sto) (ex : KX) (Qd : List DV → Sto → Prop), At K E W sl st σ H ex ∧ td ex sl st Qd ∧ ∀ W' st' H' vs ds, W.Le W' → Rl K W' st' H' → DvAll K W' vs ds → Qd ds st' → Q vs H'
structure EndR (W : Wd) (D : Ends) (Dd : Endd) : Prop where
  nx : ∀ W' sl' st' σ' H', W.Le W' → Rl K W' st' H' → SlR K W' sl' σ' → Dd.nx sl' st' → D.nx σ' H'
  rt : ∀ W' st' H' v d, W.Le W' → Rl K W' st' H' → Dv K W' v d → Dd.rt d st' → D.rt v H'
  ex : ∀ W' sl' st' σ' H' cls d x, W.Le W' → Rl K W' st' H' → SlR K W' sl' σ' → XR K W' H' cls d x → Dd.ex x sl' st' → E σ' cls d H'
  bk : ∀ W' sl' st' σ' H', W.Le W' → Rl K W' st' H' → SlR K W' sl' σ' → Dd.bk sl' st' → D.bk σ' H'
  ct : ∀ W' sl' st' σ' H', W.Le W' → Rl K W' st' H' → SlR K W' sl' σ' → Dd.ct sl' st' → D.ct σ' H'
def canS (td : TSd) : TS := fun D σ H => ∃ (W : Wd) (sl : Sl) (st : Sto) (Dd : Endd), Rl K W st H ∧ SlR K W sl σ ∧ EndR K E W D Dd ∧ td Dd sl st
def Chg (is : List Nat) (σ σ' : L2.St) : Prop := σ'.length = σ.length ∧ ∀ i, i ∉ is → σ'[i]? = σ[i]?
def canG (is : List Nat) (g : TGd) : TG := fun v σ H Q => ∃ (W : Wd) (sl : Sl) (st : Sto) (ex : KX) (Qd : Sl → Sto → Prop) (d : DV), At K E W sl st σ H ex ∧ Dv K W v d ∧ g d ex sl st Qd ∧ ∀ W' sl' st' σ' H', W.Le W' → Rl K W' st' H' → SlR K W' sl' σ' → Chg is σ σ' → Qd sl' st' → Q σ' H'
def canGs (is : List Nat) (g : TGsd) : TGs := fun vs σ H Q => ∃ (W : Wd) (sl : Sl) (st : Sto) (ex : KX) (Qd : Sl → Sto → Prop) (ds : List DV), At K E W sl st σ H ex ∧ DvAll K W vs ds ∧ g ds ex sl st Qd ∧ ∀ W' sl' st' σ' H', W.Le W' → Rl K W' st' H' → SlR K W' sl' σ' → Chg is σ σ' → Qd sl' st' → Q σ' H'
structure ItR (W : Wd) (J : It) (xs : List DV) (g : Sto → Prop) : Prop where
  go : ∀ i W' st' H', i < xs.length → Same W.F W'.F → (∀ n a, W.ι n = some a → W'.ι n = some a) → Rl K W' st' H' → g st' → J.go i H'
  stop : ∀ W' st' H', Same W.F W'.F → (∀ n a, W.ι n = some a → W'.ι n = some a) → Rl K W' st' H' → g st' → J.stop xs.length H'
  yld : ∀ i W' st' H' x H'', i < xs.length → Same W.F W'.F → (∀ n a, W.ι n = some a → W'.ι n = some a) → Rl K W' st' H' → g st' → J.yld i H' x H'' → ∃ W'' d, W'.Le W'' ∧ Rl K W'' st' H'' ∧ Dv K W'' x d ∧ xs[i]? = some d
def canI (td : TId) : TI := fun σ H R => ∃ (W : Wd) (sl : Sl) (st : Sto) (ex : KX) (Rd : List DV → (Sto → Prop) → Sto → Prop), At K E W sl st σ H ex ∧ td ex sl st Rd ∧ ∀ W' st' H' J xs g, W.Le W' → Rl K W' st' H' → ItR K W' J xs g → Rd xs g st' → R J H'
/-- by values -/
def canR (rd : R2d) : R2 := fun x y H Q => ∃ (W : Wd) (st : Sto) (dx dy : DV) (Qd : KD), Rl K W st H ∧ Dv K W x dx ∧ Dv K W y dy ∧ rd dx dy st Qd ∧ ∀ W' st' H' v d, W.Le W' → Rl K W' st' H' → Dv K W' v d → Qd d st' → Q v H'
def canU (rd : DV → Sto → KD → Prop) : V → Hp → VK → Prop := fun x H Q => ∃ (W : Wd) (st : Sto) (dx : DV) (Qd : KD), Rl K W st H ∧ Dv K W x dx ∧ rd dx st Qd ∧ ∀ W' st' H' v d, W.Le W' → Rl K W' st' H' → Dv K W' v d → Qd d st' → Q v H'
def canC (rd : List DV → Sto → KD → Prop) : List V → Hp → VK → Prop := fun xs H Q => ∃ (W : Wd) (st : Sto) (ds : List DV) (Qd : KD), Rl K W st H ∧ DvAll K W xs ds ∧ rd ds st Qd ∧ ∀ W' st' H' v d, W.Le W' → Rl K W' st' H' → Dv K W' v d → Qd d st' → Q v H'
def canM (rd : DV → List DV → Sto → KD → Prop) : V → List V → Hp → VK → Prop := fun x xs H Q => ∃ (W : Wd) (st : Sto) (dx : DV) (ds : List DV) (Qd : KD), Rl K W st H ∧ Dv K W x dx ∧ DvAll K W xs ds ∧ rd dx ds st Qd ∧ ∀ W' st' H' v d, W.Le W' → Rl K W' st' H' → Dv K W' v d → Qd d st' → Q v H'
def canL (rd : DV → Option Int → Option Int → Sto → KD → Prop) : V → Option Int → Option Int → Hp → VK → Prop := fun x lo hi H Q => ∃ (W : Wd) (st : Sto) (dx : DV) (Qd : KD), Rl K W st H ∧ Dv K W x dx ∧ rd dx lo hi st Qd ∧ ∀ W' st' H' v d, W.Le W' → Rl K W' st' H' → Dv K W' v d → Qd d st' → Q v H'
def canSet (rd : DV → DV → DV → Sto → (Sto → Prop) → Prop) : TSet := fun o i v H Q => ∃ (W : Wd) (st : Sto) (do_ di dv : DV) (Qd : Sto → Prop), Rl K W st H ∧ Dv K W o do_ ∧ Dv K W i di ∧ Dv K W v dv ∧ rd do_ di dv st Qd ∧ ∀ W' st' H', W.Le W' → Rl K W' st' H' → Qd st' → Q H'
/-- a def's promise -/
def spOf (spd : Spd) : Sp := fun vs H Q E => ∃ (W : Wd) (st : Sto) (ds : List DV) (Qd : KD) (Ed : KX), Rl K W st H ∧ DvAll K W vs ds ∧ spd ds st Qd Ed ∧ (∀ W' st' H' v d, W.Le W' → Rl K W' st' H' → Dv K W' v d → Qd d st' → Q v H') ∧
  (∀ W' st' H' cls d x, W.Le W' → Rl K W' st' H' → XR K W' H' cls d x → Ed x st' → E cls d H')
end
section
variable {K : PySem.W.Frag} {E : EK} {X : Cx} {W W' : Wd} {sl : Sl} {st st' : Sto} {σ : L2.St} {H H' : Hp} {ex : KX}
theorem EndR.le {D : Ends} {Dd : Endd} (l : W.Le W') (h : EndR K E W D Dd) : EndR K E W' D Dd :=
  ⟨fun W2 sl2 st2 σ2 H2 l2 => h.nx W2 sl2 st2 σ2 H2 (l.trans l2), fun W2 st2 H2 v d l2 => h.rt W2 st2 H2 v d (l.trans l2), fun W2 sl2 st2 σ2 H2 c d x l2 => h.ex W2 sl2 st2 σ2 H2 c d x (l.trans l2), fun W2 sl2 st2 σ2 H2 l2 => h.bk W2 sl2 st2 σ2 H2 (l.trans l2), fun W2 sl2 st2 σ2 H2 l2 => h.ct W2 sl2 st2 σ2 H2 (l.trans l2)⟩
theorem EndR.at_ {D : Ends} {Dd : Endd} (R : Rl K W st H) (S : SlR K W sl σ) (h : EndR K E W D Dd) : At K E W sl st σ H (fun x s => Dd.ex x sl s) :=
  ⟨R, S, fun W' st' H' cls d x l R' xr q => h.ex W' sl st' σ H' cls d x l R' (S.le l) xr q⟩
theorem EndR.nxR {D : Ends} {Dd : Endd} {N : L2.St → Hp → Prop} {Nd : Sl → Sto → Prop} (h : EndR K E W D Dd) (hn : ∀ W' sl' st' σ' H', W.Le W' → Rl K W' st' H' → SlR K W' sl' σ' → Nd sl' st' → N σ' H') : EndR K E W { D with nx := N } { Dd with nx := Nd } :=
  ⟨hn, h.rt, h.ex, h.bk, h.ct⟩
theorem peI {e : Expr} {t : TE} {td : TEd} (h : PE X e t) (i : ∀ {σ H Q W sl st ex} {Qd : KD}, At K E W sl st σ H ex → td ex sl st Qd → (∀ W' st' H' v d, W.Le W' → Rl K W' st' H' → Dv K W' v d → Qd d st' → Q v H') → t σ H Q) : PE X e (canE K E td) :=
  ⟨fun pins s σ H Q I ⟨W, sl, st, ex, Qd, A, h1, k⟩ => h.run pins s σ H Q I (i A h1 k)⟩
theorem ptI {e : Expr} {t : TT} {td : TTd} (h : PT X e t) (i : ∀ {σ H Q W sl st ex} {Qd : Bool → Sto → Prop}, At K E W sl st σ H ex → td ex sl st Qd → (∀ W' st' H' b, W.Le W' → Rl K W' st' H' → Qd b st' → Q b H') → t σ H Q) : PT X e (canT K E td) :=
  ⟨fun pins s σ H Q I ⟨W, sl, st, ex, Qd, A, h1, k⟩ => h.run pins s σ H Q I (i A h1 k)⟩
theorem pwI {e : Expr} {t : TT} {td : TTd} (h : PW X e t) (i : ∀ {σ H Q W sl st ex} {Qd : Bool → Sto → Prop}, At K E W sl st σ H ex → td ex sl st Qd → (∀ W' st' H' b, W.Le W' → Rl K W' st' H' → Qd b st' → Q b H') → t σ H Q) : PW X e (canT K E td) :=
  ⟨fun wh pins s σ H Q I ⟨W, sl, st, ex, Qd, A, h1, k⟩ => h.run wh pins s σ H Q I (i A h1 k)⟩
theorem paI {es : List Expr} {t : TA} {td : TAd} (h : PA X es t) (i : ∀ {σ H Q W sl st ex} {Qd : List DV → Sto → Prop}, At K E W sl st σ H ex → td ex sl st Qd → (∀ W' st' H' vs ds, W.Le W' → Rl K W' st' H' → DvAll K W' vs ds → Qd ds st' → Q vs H') → t σ H Q) : PA X es (canA K E td) :=
  ⟨fun pos pins s σ H Q I ⟨W, sl, st, ex, Qd, A, h1, k⟩ => h.run pos pins s σ H Q I (i A h1 k)⟩
theorem psI {s : Stmt} {t : TS} {td : TSd} (h : PS X s t) (i : ∀ {D σ H W sl st} {Dd : Endd}, Rl K W st H → SlR K W sl σ → EndR K E W D Dd → td Dd sl st → t D σ H) : PS X s (canS K E td) :=
  ⟨fun pins s σ H D I ⟨W, sl, st, Dd, R, S, N, q⟩ => h.run pins s σ H D I (i R S N q)⟩
theorem pssI {s : List Stmt} {t : TS} {td : TSd} (h : PSs X s t) (i : ∀ {D σ H W sl st} {Dd : Endd}, Rl K W st H → SlR K W sl σ → EndR K E W D Dd → td Dd sl st → t D σ H) : PSs X s (canS K E td) :=
  ⟨fun pins s σ H D I ⟨W, sl, st, Dd, R, S, N, q⟩ => h.run pins s σ H D I (i R S N q)⟩
theorem pgI {is : List Nat} {e : Expr} {g : TG} {gd : TGd} (h : PG X e g) (i : ∀ {v σ H Q W sl st ex d} {Qd : Sl → Sto → Prop}, At K E W sl st σ H ex → Dv K W v d → gd d ex sl st Qd → (∀ W' sl' st' σ' H', W.Le W' → Rl K W' st' H' → SlR K W' sl' σ' → Chg is σ σ' → Qd sl' st' → Q σ' H') → g v σ H Q) : PG X e (canG K E is gd) :=
  ⟨fun pins s σ H v u Q I r ⟨W, sl, st, ex, Qd, d, A, D, h1, k⟩ => h.run pins s σ H v u Q I r (i A D h1 k)⟩
theorem pgsI {is : List Nat} {e : List Expr} {g : TGs} {gd : TGsd} (h : PGs X e g) (i : ∀ {vs σ H Q W sl st ex ds} {Qd : Sl → Sto → Prop}, At K E W sl st σ H ex → DvAll K W vs ds → gd ds ex sl st Qd → (∀ W' sl' st' σ' H', W.Le W' → Rl K W' st' H' → SlR K W' sl' σ' → Chg is σ σ' → Qd sl' st' → Q σ' H') → g vs σ H Q) : PGs X e (canGs K E is gd) :=
  ⟨fun pins s σ H vs us Q I r ⟨W, sl, st, ex, Qd, ds, A, D, h1, k⟩ => h.run pins s σ H vs us Q I r (i A D h1 k)⟩
theorem piI {tg e : Expr} {t : TI} {td : TId} (h : PI X tg e t) (i : ∀ {σ H R W sl st ex} {Rd : List DV → (Sto → Prop) → Sto → Prop}, At K E W sl st σ H ex → td ex sl st Rd → (∀ W' st' H' J xs g, W.Le W' → Rl K W' st' H' → ItR K W' J xs g → Rd xs g st' → R J H') → t σ H R) : PI X tg e (canI K E td) :=
  ⟨fun pins s σ H R I ⟨W, sl, st, ex, Rd, A, h1, k⟩ => h.run pins s σ H R I (i A h1 k)⟩
theorem opI {f : Value → Value → Sem Value} {r : R2} {rd : R2d} (h : OpR X f r) (i : ∀ {x y H Q W st dx dy} {Qd : KD}, Rl K W st H → Dv K W x dx → Dv K W y dy → rd dx dy st Qd → (∀ W' st' H' v d, W.Le W' → Rl K W' st' H' → Dv K W' v d → Qd d st' → Q v H') → r x y H Q) : OpR X f (canR K rd) :=
  fun pins s σ H x y v u Q I rx ry ⟨W, st, dx, dy, Qd, R, D1, D2, h1, k⟩ => h pins s σ H x y v u Q I rx ry (i R D1 D2 h1 k)
theorem unI {f : Value → Sem Value} {r : V → Hp → VK → Prop} {rd : DV → Sto → KD → Prop} (h : UnR X f r) (i : ∀ {x H Q W st dx} {Qd : KD}, Rl K W st H → Dv K W x dx → rd dx st Qd → (∀ W' st' H' v d, W.Le W' → Rl K W' st' H' → Dv K W' v d → Qd d st' → Q v H') → r x H Q) : UnR X f (canU K rd) :=
  fun pins s σ H x v Q I rx ⟨W, st, dx, Qd, R, D1, h1, k⟩ => h pins s σ H x v Q I rx (i R D1 h1 k)
theorem ixI {r : R2} {rd : R2d} (h : IxR X r) (i : ∀ {x y H Q W st dx dy} {Qd : KD}, Rl K W st H → Dv K W x dx → Dv K W y dy → rd dx dy st Qd → (∀ W' st' H' v d, W.Le W' → Rl K W' st' H' → Dv K W' v d → Qd d st' → Q v H') → r x y H Q) : IxR X (canR K rd) :=
  fun a b pins s σ H x y v u Q I rx ry ⟨W, st, dx, dy, Qd, R, D1, D2, h1, k⟩ hs => h a b pins s σ H x y v u Q I rx ry (i R D1 D2 h1 k) hs
theorem crI {f : Value} {r : List V → Hp → VK → Prop} {rd : List DV → Sto → KD → Prop} (h : CallR X f r) (i : ∀ {xs H Q W st ds} {Qd : KD}, Rl K W st H → DvAll K W xs ds → rd ds st Qd → (∀ W' st' H' v d, W.Le W' → Rl K W' st' H' → Dv K W' v d → Qd d st' → Q v H') → r xs H Q) : CallR X f (canC K rd) :=
  fun pins s σ H xs us Q I r ⟨W, st, ds, Qd, R, D, h1, k⟩ => h pins s σ H xs us Q I r (i R D h1 k)
theorem mtI {id : String} {r : V → List V → Hp → VK → Prop} {rd : DV → List DV → Sto → KD → Prop} (h : MtR X id r) (i : ∀ {x xs H Q W st dx ds} {Qd : KD}, Rl K W st H → Dv K W x dx → DvAll K W xs ds → rd dx ds st Qd → (∀ W' st' H' v d, W.Le W' → Rl K W' st' H' → Dv K W' v d → Qd d st' → Q v H') → r x xs H Q) : MtR X id (canM K rd) :=
  fun pins s σ H x xs v us Q I rx r ⟨W, st, dx, ds, Qd, R, D1, D, h1, k⟩ => h pins s σ H x xs v us Q I rx r (i R D1 D h1 k)
/-! ## running a part -/
theorem runE {td : TEd} {Q : VK} {Qd : KD} (A : At K E W sl st σ H ex) (h : td ex sl st Qd) (k : ∀ W' st' H' v d, W.Le W' → At K E W' sl st' σ H' ex → Dv K W' v d → Qd d st' → Q v H') : canE K E td σ H Q :=
  ⟨W, sl, st, ex, Qd, A, h, fun W' st' H' v d l R D q => k W' st' H' v d l (A.le l R) D q⟩
theorem runT {td : TTd} {Q : Bool → Hp → Prop} {Qd : Bool → Sto → Prop} (A : At K E W sl st σ H ex) (h : td ex sl st Qd) (k : ∀ W' st' H' b, W.Le W' → At K E W' sl st' σ H' ex → Qd b st' → Q b H') : canT K E td σ H Q :=
  ⟨W, sl, st, ex, Qd, A, h, fun W' st' H' b l R q => k W' st' H' b l (A.le l R) q⟩
theorem runA {td : TAd} {Q : List V → Hp → Prop} {Qd : List DV → Sto → Prop} (A : At K E W sl st σ H ex) (h : td ex sl st Qd) (k : ∀ W' st' H' vs ds, W.Le W' → At K E W' sl st' σ H' ex → DvAll K W' vs ds → Qd ds st' → Q vs H') : canA K E td σ H Q :=
  ⟨W, sl, st, ex, Qd, A, h, fun W' st' H' vs ds l R D q => k W' st' H' vs ds l (A.le l R) D q⟩
theorem runG {is : List Nat} {g : TGd} {v : V} {d : DV} {Q : L2.St → Hp → Prop} {Qd : Sl → Sto → Prop} (A : At K E W sl st σ H ex) (D : Dv K W v d) (h : g d ex sl st Qd) (k : ∀ W' sl' st' σ' H', W.Le W' → Rl K W' st' H' → SlR K W' sl' σ' → Chg is σ σ' → Qd sl' st' → Q σ' H') : canG K E is g v σ H Q :=
  ⟨W, sl, st, ex, Qd, d, A, D, h, k⟩
end
/-! ## expressions -/
def dVar (i : Nat) : TEd := fun _ sl st Q => ∃ d, sl[i]? = some (some d) ∧ Q d st
def dC (d : DV) : TEd := fun _ _ st Q => Q d st
def dOp (r : R2d) (ta tb : TEd) : TEd := fun ex sl st Q => ta ex sl st fun x s1 => tb ex sl s1 fun y s2 => r x y s2 Q
def dUn (r : DV → Sto → KD → Prop) (ta : TEd) : TEd := fun ex sl st Q => ta ex sl st fun x s1 => r x s1 Q
def dChain (r r' : R2d) (ta tb tc : TEd) : TEd := fun ex sl st Q => ta ex sl st fun x s1 => tb ex sl s1 fun y s2 => r x y s2 fun z s3 => ∃ k, z = .bl k ∧ if k = true then tc ex sl s3 fun w s4 => r' y w s4 Q else Q (.bl false) s3
def dTest (t : TEd) : TTd := fun ex sl st Q => t ex sl st fun x s1 => ∃ k, x = .bl k ∧ Q k s1
def dAnd (t u : TTd) : TTd := fun ex sl st Q => t ex sl st fun c s1 => if c = true then u ex sl s1 Q else Q false s1
def dOr (t u : TTd) : TTd := fun ex sl st Q => t ex sl st fun c s1 => if c = true then Q true s1 else u ex sl s1 Q
def dNot (t : TTd) : TTd := fun ex sl st Q => t ex sl st fun c s1 => Q (!c) s1
def dAndV (ta tb : TEd) : TEd := fun ex sl st Q => ta ex sl st fun x s1 => ∃ c, x = .bl c ∧ if c = true then tb ex sl s1 Q else Q (.bl false) s1
def dOrV (ta tb : TEd) : TEd := fun ex sl st Q => ta ex sl st fun x s1 => ∃ c, x = .bl c ∧ if c = true then Q (.bl true) s1 else tb ex sl s1 Q
def dNotV (ta : TEd) : TEd := fun ex sl st Q => ta ex sl st fun x s1 => ∃ c, x = .bl c ∧ Q (.bl (!c)) s1
def dIf (t : TTd) (ta tb : TEd) : TEd := fun ex sl st Q => t ex sl st fun c s1 => if c = true then ta ex sl s1 Q else tb ex sl s1 Q
def dNil : TAd := fun _ _ st Q => Q [] st
def dCons (ta : TEd) (tr : TAd) : TAd := fun ex sl st Q => ta ex sl st fun x s1 => tr ex sl s1 fun xs s2 => Q (x :: xs) s2
def LenOk (n : Nat) : Prop := n ≤ 100000
def dTupE (t : TAd) : TEd := fun ex sl st Q => t ex sl st fun xs s1 => LenOk xs.length ∧ Q (.tup xs) s1
/-- a new list: frozen, or of the store -/
def NewL (ds : List DV) (st : Sto) (Q : KD) : Prop := Q (.lst ds) st ∨ ∀ n, st n = none → Q (.ref n) (sset st n (.lst ds))
def dLstE (t : TAd) : TEd := fun ex sl st Q => t ex sl st fun xs s1 => LenOk xs.length ∧ NewL xs s1 Q
def dCB (r : List DV → Sto → KD → Prop) (t : TAd) : TEd := fun ex sl st Q => t ex sl st fun xs s1 => r xs s1 Q
def dCall (sp : Spd) (t : TAd) : TEd := fun ex sl st Q => t ex sl st fun xs s1 => sp xs s1 Q ex
theorem szl {n : Nat} (h : n ≤ 100000) : n ≤ sizeLine := Nat.le_trans h (by decide)
section
variable {K : PySem.W.Frag} {W : Wd} {st : Sto} {H : Hp}
theorem newT {vs : List V} {ds : List DV} {Q : VK} {Qd : KD} (R : Rl K W st H) (D : DvAll K W vs ds) (q : Qd (.tup ds) st) (k : ∀ W' st' H' v d, W.Le W' → Rl K W' st' H' → Dv K W' v d → Qd d st' → Q v H') : ∀ p, H p = none → Q (.ref p) (upd H p (.tup vs)) := fun p hp =>
  k (W.fz p (.tup vs)) st _ _ _ (Wd.fz_le (R.fnone hp)) (R.new hp) (.tup (SqT.of upd_same) (D.le (Wd.fz_le (R.fnone hp)))) q
theorem newL {vs : List V} {ds : List DV} {Q : VK} {Qd : KD} (R : Rl K W st H) (D : DvAll K W vs ds) (q : NewL ds st Qd) (k : ∀ W' st' H' v d, W.Le W' → Rl K W' st' H' → Dv K W' v d → Qd d st' → Q v H') : ∀ p, H p = none → Q (.ref p) (upd H p (.lst vs)) := fun p hp => by
  rcases q with q | q
  · exact k (W.fz p (.lst vs)) st _ _ _ (Wd.fz_le (R.fnone hp)) (R.new hp) (.lst upd_same (D.le (Wd.fz_le (R.fnone hp)))) q
  · obtain ⟨n, h1, h2⟩ := R.fresh
    exact k (W.nw n p) _ _ _ _ (Wd.nw_le h1) (R.alloc (o := .lst ds) h1 hp ⟨vs, upd_same, D.le (Wd.nw_le h1)⟩) (.ref Wd.nw_at) (q n h2)
end
section
variable {K : PySem.W.Frag} {E : EK} {X : Cx} {a b c e : Expr} {es rest : List Expr} {ta tb tc : TEd} {tA tB : TTd} {tl : TAd} {pos : Pos}
theorem d_var {i : Nat} (h : PE X e (tVar i)) : PE X e (canE K E (dVar i)) := peI h fun A ⟨d, e, q⟩ k => by
  obtain ⟨v, h1, h2⟩ := A.s.2 _ _ e
  exact ⟨v, h1, k _ _ _ _ _ (Wd.Le.refl _) A.r h2 q⟩
theorem d_c {v : V} {d : DV} (h : PE X e (tC v)) (D : ∀ W, Dv K W v d) : PE X e (canE K E (dC d)) := peI h fun A q k => k _ _ _ _ _ (Wd.Le.refl _) A.r (D _) q
theorem d_int {i j pos} : PE X (.Constant (.int i) j pos) (canE K E (dC (.int i))) := d_c pe_int fun _ => .int i
theorem d_bl {i j pos} : PE X (.Constant (.bool i) j pos) (canE K E (dC (.bl i))) := d_c pe_bl fun _ => .bl i
theorem d_non {j pos} : PE X (.Constant .none j pos) (canE K E (dC .non)) := d_c pe_non fun _ => .non
theorem d_str {x j pos} (h : SOk x) : PE X (.Constant (.str x) j pos) (canE K E (dC (.str x))) := d_c pe_str fun _ => .str x h
theorem d_op {op : Operator} {r : R2d} (ho : OpR X (binaryOp op) (canR K r)) (ha : PE X a (canE K E ta)) (hb : PE X b (canE K E tb)) : PE X (.BinOp a op b pos) (canE K E (dOp r ta tb)) :=
  peI (pe_op ho ha hb) fun A h k => runE A h fun W1 s1 H1 v1 d1 l1 A1 D1 h1 => runE A1 h1 fun W2 s2 H2 v2 d2 l2 A2 D2 h2 => ⟨W2, s2, d1, d2, _, A2.r, D1.le l2, D2, h2, fun W3 s3 H3 v d l3 => k W3 s3 H3 v d (l1.trans (l2.trans l3))⟩
theorem d_cmp {op : CmpOp} {r : R2d} (ho : OpR X (compareOp op) (canR K r)) (ha : PE X a (canE K E ta)) (hb : PE X b (canE K E tb)) (hm : behindInMarks op b = false) : PE X (.Compare a [op] [b] pos) (canE K E (dOp r ta tb)) :=
  peI (pe_cmpR ho ha hb hm) fun A h k => runE A h fun W1 s1 H1 v1 d1 l1 A1 D1 h1 => runE A1 h1 fun W2 s2 H2 v2 d2 l2 A2 D2 h2 => ⟨W2, s2, d1, d2, _, A2.r, D1.le l2, D2, h2, fun W3 s3 H3 v d l3 => k W3 s3 H3 v d (l1.trans (l2.trans l3))⟩
theorem d_ix {r : R2d} (ho : IxR X (canR K r)) (ha : PE X a (canE K E ta)) (hb : PE X b (canE K E tb)) (hs : PlainIx b) : PE X (.Subscript a b pos) (canE K E (dOp r ta tb)) :=
  peI (pe_ix ho ha hb hs) fun A h k => runE A h fun W1 s1 H1 v1 d1 l1 A1 D1 h1 => runE A1 h1 fun W2 s2 H2 v2 d2 l2 A2 D2 h2 => ⟨W2, s2, d1, d2, _, A2.r, D1.le l2, D2, h2, fun W3 s3 H3 v d l3 => k W3 s3 H3 v d (l1.trans (l2.trans l3))⟩
theorem d_un {op : UnaryOp} {r : DV → Sto → KD → Prop} (ho : UnR X (unaryOp op) (canU K r)) (ha : PE X a (canE K E ta)) : PE X (.UnaryOp op a pos) (canE K E (dUn r ta)) :=
  peI (pe_un ho ha) fun A h k => runE A h fun W1 s1 H1 v1 d1 l1 A1 D1 h1 => ⟨W1, s1, d1, _, A1.r, D1, h1, fun W3 s3 H3 v d l3 => k W3 s3 H3 v d (l1.trans l3)⟩
theorem dv_bl {W : Wd} {v : V} {k : Bool} (h : Dv K W v (.bl k)) : v = .bl k := by
  cases h
  rfl
theorem d_chain {op op' : CmpOp} {r r' : R2d} (ho : OpR X (compareOp op) (canR K r)) (ho' : OpR X (compareOp op') (canR K r')) (ha : PE X a (canE K E ta)) (hb : PE X b (canE K E tb)) (hc : PE X c (canE K E tc))
    (hm : lastMarks [op, op'] [b, c] = false := by with_unfolding_all rfl) : PE X (.Compare a [op, op'] [b, c] pos) (canE K E (dChain r r' ta tb tc)) :=
  peI (pe_chain ho ho' ha hb hc hm) fun A h k => runE A h fun W1 s1 H1 v1 d1 l1 A1 D1 h1 => runE A1 h1 fun W2 s2 H2 v2 d2 l2 A2 D2 h2 => ⟨W2, s2, d1, d2, _, A2.r, D1.le l2, D2, h2, fun W3 s3 H3 v d l3 R3 D3 ⟨b, eb, q⟩ => by
    subst eb
    refine ⟨b, dv_bl D3, ?_⟩
    cases b with
    | true => exact runE (A2.le l3 R3) q fun W4 s4 H4 v4 d4 l4 A4 D4 h4 => ⟨W4, s4, d2, d4, _, A4.r, D2.le (l3.trans l4), D4, h4, fun W5 s5 H5 v d l5 => k W5 s5 H5 v d (l1.trans (l2.trans (l3.trans (l4.trans l5))))⟩
    | false => exact k W3 s3 H3 _ _ (l1.trans (l2.trans l3)) R3 (.bl false) q⟩
theorem d_test (he : PE X e (canE K E ta)) (ht : ∀ {t : TE}, PE X e t → PT X e (tTest t)) : PT X e (canT K E (dTest ta)) :=
  ptI (ht he) fun A h k => runE A h fun W1 s1 H1 v1 d1 l1 A1 D1 ⟨b, eb, q⟩ => by
    subst eb
    exact ⟨b, dv_bl D1, k _ _ _ _ l1 A1.r q⟩
theorem dt_val (h : PE X e (canE K E ta)) (he : ∀ whole, isTrue e X.env whole = (do let v ← whole; standAt e.pos; holding [v] (truthy v)) := by intro _; rfl) : PT X e (canT K E (dTest ta)) :=
  ptI (pt_val h he) fun A h k => runE A h fun W1 s1 H1 v1 d1 l1 A1 D1 ⟨b, eb, q⟩ => by
    subst eb
    exact ⟨b, dv_bl D1, k _ _ _ _ l1 A1.r q⟩
theorem dt_cmp {op : CmpOp} {r : R2d} (ho : OpR X (compareOp op) (canR K r)) (ha : PE X a (canE K E ta)) (hb : PE X b (canE K E tb)) (hm : behindInMarks op b = false) : PT X (.Compare a [op] [b] pos) (canT K E (dTest (dOp r ta tb))) :=
  ptI (pt_cmpR ho ha hb hm) fun A h k => runE A h fun W1 s1 H1 v1 d1 l1 A1 D1 h1 => runE A1 h1 fun W2 s2 H2 v2 d2 l2 A2 D2 h2 => ⟨W2, s2, d1, d2, _, A2.r, D1.le l2, D2, h2, fun W3 s3 H3 v d l3 R3 D3 ⟨b, eb, q⟩ => by
    subst eb
    exact ⟨b, dv_bl D3, k _ _ _ _ (l1.trans (l2.trans l3)) R3 q⟩⟩
theorem dt_chain {op op' : CmpOp} {r r' : R2d} (ho : OpR X (compareOp op) (canR K r)) (ho' : OpR X (compareOp op') (canR K r')) (ha : PE X a (canE K E ta)) (hb : PE X b (canE K E tb)) (hc : PE X c (canE K E tc))
    (hm : lastMarks [op, op'] [b, c] = false := by with_unfolding_all rfl) : PT X (.Compare a [op, op'] [b, c] pos) (canT K E (dTest (dChain r r' ta tb tc))) :=
  ptI (pt_chain ho ho' ha hb hc hm) fun A h k => runE A h fun W1 s1 H1 v1 d1 l1 A1 D1 h1 => runE A1 h1 fun W2 s2 H2 v2 d2 l2 A2 D2 h2 => ⟨W2, s2, d1, d2, _, A2.r, D1.le l2, D2, h2, fun W3 s3 H3 v d l3 R3 D3 ⟨b, eb, q⟩ => by
    subst eb
    refine ⟨b, dv_bl D3, ?_⟩
    cases b with
    | true => exact runE (A2.le l3 R3) q fun W4 s4 H4 v4 d4 l4 A4 D4 h4 => ⟨W4, s4, d2, d4, _, A4.r, D2.le (l3.trans l4), D4, h4, fun W5 s5 H5 v d l5 R5 D5 ⟨b, eb, q⟩ => by
        subst eb
        exact ⟨b, dv_bl D5, k W5 s5 H5 _ (l1.trans (l2.trans (l3.trans (l4.trans l5)))) R5 q⟩⟩
    | false =>
      obtain ⟨b, eb, q⟩ := q
      injection eb with eb
      subst eb
      exact ⟨false, rfl, k W3 s3 H3 _ (l1.trans (l2.trans l3)) R3 q⟩⟩
theorem dw_1 (h : PW X e (canT K E tA)) : PT X e (canT K E tA) := h.pt
theorem dw_and1 (ha : PT X a (canT K E tA)) : PW X (.BoolOp .And [a] pos) (canT K E tA) := pw_and1 ha
theorem dw_or1 (ha : PT X a (canT K E tA)) : PW X (.BoolOp .Or [a] pos) (canT K E tA) := pw_or1 ha
theorem dw_and (ha : PT X a (canT K E tA)) (hb : PW X (.BoolOp .And (b :: rest) pos) (canT K E tB)) : PW X (.BoolOp .And (a :: b :: rest) pos) (canT K E (dAnd tA tB)) :=
  pwI (pw_and ha hb) fun A h k => runT A h fun W1 s1 H1 b1 l1 A1 h1 => by
    cases b1 with
    | true => exact runT A1 h1 fun W2 s2 H2 b2 l2 A2 h2 => k _ _ _ _ (l1.trans l2) A2.r h2
    | false => exact k _ _ _ _ l1 A1.r h1
theorem dw_or (ha : PT X a (canT K E tA)) (hb : PW X (.BoolOp .Or (b :: rest) pos) (canT K E tB)) : PW X (.BoolOp .Or (a :: b :: rest) pos) (canT K E (dOr tA tB)) :=
  pwI (pw_or ha hb) fun A h k => runT A h fun W1 s1 H1 b1 l1 A1 h1 => by
    cases b1 with
    | false => exact runT A1 h1 fun W2 s2 H2 b2 l2 A2 h2 => k _ _ _ _ (l1.trans l2) A2.r h2
    | true => exact k _ _ _ _ l1 A1.r h1
theorem dt_not (ha : PT X a (canT K E tA)) : PT X (.UnaryOp .Not a pos) (canT K E (dNot tA)) :=
  ptI (pt_not ha) fun A h k => runT A h fun W1 s1 H1 b1 l1 A1 h1 => k _ _ _ _ l1 A1.r h1
theorem d_one {op} (h : PE X a (canE K E ta)) : PE X (.BoolOp op [a] pos) (canE K E ta) := pe_one h
theorem d_and (ha : PE X a (canE K E ta)) (hb : PE X (.BoolOp .And (b :: rest) pos) (canE K E tb)) : PE X (.BoolOp .And (a :: b :: rest) pos) (canE K E (dAndV ta tb)) :=
  peI (pe_and ha hb) fun A h k => runE A h fun W1 s1 H1 v1 d1 l1 A1 D1 ⟨c, ec, h1⟩ => by
    subst ec
    refine ⟨c, dv_bl D1, ?_⟩
    cases c with
    | true => exact runE A1 h1 fun W2 s2 H2 v2 d2 l2 A2 D2 h2 => k _ _ _ _ _ (l1.trans l2) A2.r D2 h2
    | false => exact k _ _ _ _ _ l1 A1.r (.bl false) h1
theorem d_or (ha : PE X a (canE K E ta)) (hb : PE X (.BoolOp .Or (b :: rest) pos) (canE K E tb)) : PE X (.BoolOp .Or (a :: b :: rest) pos) (canE K E (dOrV ta tb)) :=
  peI (L2.pe_or ha hb) fun A h k => runE A h fun W1 s1 H1 v1 d1 l1 A1 D1 ⟨c, ec, h1⟩ => by
    subst ec
    refine ⟨c, dv_bl D1, ?_⟩
    cases c with
    | false => exact runE A1 h1 fun W2 s2 H2 v2 d2 l2 A2 D2 h2 => k _ _ _ _ _ (l1.trans l2) A2.r D2 h2
    | true => exact k _ _ _ _ _ l1 A1.r (.bl true) h1
theorem d_not (ha : PE X a (canE K E ta)) : PE X (.UnaryOp .Not a pos) (canE K E (dNotV ta)) :=
  peI (pe_not ha) fun A h k => runE A h fun W1 s1 H1 v1 d1 l1 A1 D1 ⟨c, ec, h1⟩ => by
    subst ec
    exact ⟨c, dv_bl D1, k _ _ _ _ _ l1 A1.r (.bl (!c)) h1⟩
theorem d_ifE {c : Expr} (hc : PT X c (canT K E tA)) (ha : PE X a (canE K E ta)) (hb : PE X b (canE K E tb)) : PE X (.IfExp c a b pos) (canE K E (dIf tA ta tb)) :=
  peI (pe_ifExp hc ha hb) fun A h k => runT A h fun W1 s1 H1 b1 l1 A1 h1 => by
    cases b1 with
    | true => exact runE A1 h1 fun W2 s2 H2 v2 d2 l2 A2 D2 h2 => k _ _ _ _ _ (l1.trans l2) A2.r D2 h2
    | false => exact runE A1 h1 fun W2 s2 H2 v2 d2 l2 A2 D2 h2 => k _ _ _ _ _ (l1.trans l2) A2.r D2 h2
theorem da_nil : PA X [] (canA K E dNil) := paI pa_nil fun A h k => k _ _ _ _ _ (Wd.Le.refl _) A.r .nil h
theorem da_cons (ha : PE X e (canE K E ta)) (hr : PA X es (canA K E tl)) (hs : starEach (e :: es) X.env = (false, eval e X.env) :: starEach es X.env := by rfl) : PA X (e :: es) (canA K E (dCons ta tl)) :=
  paI (pa_cons ha hr hs) fun A h k => runE A h fun W1 s1 H1 v1 d1 l1 A1 D1 h1 => runA A1 h1 fun W2 s2 H2 vs ds l2 A2 D2 h2 => k _ _ _ _ _ (l1.trans l2) A2.r (.cons (D1.le l2) D2) h2
theorem d_tup {x1} (h : PA X es (canA K E tl)) : PE X (.Tuple es x1 pos) (canE K E (dTupE tl)) :=
  peI (pe_tup h) fun A h k => runA A h fun W1 s1 H1 vs ds l1 A1 D1 ⟨hl, q⟩ => ⟨by rw [D1.len]; exact szl hl, newT A1.r D1 q fun W2 s2 H2 v d l2 => k W2 s2 H2 v d (l1.trans l2)⟩
theorem d_lst (h : PA X es (canA K E tl)) : PE X (.List es pos) (canE K E (dLstE tl)) :=
  peI (pe_lst h) fun A h k => runA A h fun W1 s1 H1 vs ds l1 A1 D1 ⟨hl, q⟩ => ⟨by rw [D1.len]; exact szl hl, newL A1.r D1 q fun W2 s2 H2 v d l2 => k W2 s2 H2 v d (l1.trans l2)⟩
theorem d_callB {id : String} {x : Str} {p : Pos} {r : List DV → Sto → KD → Prop} (hc : CallR X (.builtin id) (canC K r)) (hg : Gl X x) (hm : X.mg x = none) (hv : bootBuiltins x = some (.builtin id)) (ha : PA X (e :: es) (canA K E tl)) (hn : x ≠ "__name__" := by decide) (hdb : (x == ("__debug__" : Str)) = false := by decide)
    (he : starEach (e :: es) X.env = (false, eval e X.env) :: starEach es X.env := by rfl) (hpl : (backTo pos (starEach es X.env)).any (·.1) = false := by rfl) : PE X (.Call (.Name x p) (e :: es) [] pos) (canE K E (dCB r tl)) :=
  peI (pe_callB hc hg hm hv ha hn hdb he hpl) fun A h k => runA A h fun W1 s1 H1 vs ds l1 A1 D1 q => ⟨W1, s1, ds, _, A1.r, D1, q, fun W2 s2 H2 v d l2 => k W2 s2 H2 v d (l1.trans l2)⟩
theorem d_callTy {T : String} {x : Str} {p : Pos} {r : List DV → Sto → KD → Prop} (hc : CallR X (.type T) (canC K r)) (hg : Gl X x) (hm : X.mg x = none) (hv : bootBuiltins x = some (.type T)) (ha : PA X (e :: es) (canA K E tl)) (hn : x ≠ "__name__" := by decide) (hdb : (x == ("__debug__" : Str)) = false := by decide)
    (he : starEach (e :: es) X.env = (false, eval e X.env) :: starEach es X.env := by rfl) (hpl : (backTo pos (starEach es X.env)).any (·.1) = false := by rfl) : PE X (.Call (.Name x p) (e :: es) [] pos) (canE K E (dCB r tl)) :=
  peI (pe_callTy hc hg hm hv ha hn hdb he hpl) fun A h k => runA A h fun W1 s1 H1 vs ds l1 A1 D1 q => ⟨W1, s1, ds, _, A1.r, D1, q, fun W2 s2 H2 v d l2 => k W2 s2 H2 v d (l1.trans l2)⟩
/-- what of exceptions is taken -/
abbrev Tk (X : Cx) (E : EK) : Prop := Takes X (fun cls d σ H => E σ cls d H)
theorem d_call {k : Nat} {ps : List Str} {x : Str} {p : Pos} {sp : Spd} (tk : Tk X E) (G : DefOk X.prog X.w X.K X.mg X.base k (x, none) ps (spOf K sp)) (hm : X.mg x = some (.ref (He.ga X.K x))) (hr : Room k X.A) (ha : PA X (e :: es) (canA K E tl)) (hg : Gl X x := by rfl)
    (hdb : (x == ("__debug__" : Str)) = false := by decide) (he : starEach (e :: es) X.env = (false, eval e X.env) :: starEach es X.env := by rfl) (hpl : (backTo pos (starEach es X.env)).any (·.1) = false := by rfl) :
    PE X (.Call (.Name x p) (e :: es) [] pos) (canE K E (dCall sp tl)) :=
  peI (kcS (E := E) G hm hr (fun σ => passAt tk σ) ha hg hdb he hpl) fun A h k => runA A h fun W1 s1 H1 vs ds l1 A1 D1 q =>
    ⟨W1, s1, ds, _, _, A1.r, D1, q, fun W2 s2 H2 v d l2 => k W2 s2 H2 v d (l1.trans l2), fun W2 s2 H2 c d x l2 R2 xr q => A1.x W2 s2 H2 c d x l2 R2 xr q⟩
end
end Kn

set_option Elab.async false
set_option linter.all false
set_option maxRecDepth 100000
set_option maxHeartbeats 2000000
namespace Kn
open PySem PySem.Spec PyProof.Rows L2
/-! ## statements -/
def dNext : TSd := fun D sl st => D.nx sl st
def dSeq (t u : TSd) : TSd := fun D sl st => t { D with nx := u D } sl st
def dBrk : TSd := fun D sl st => D.bk sl st
def dCont : TSd := fun D sl st => D.ct sl st
def dDrop (te : TEd) : TSd := fun D sl st => te (fun x s => D.ex x sl s) sl st fun _ s1 => D.nx sl s1
/-- what is told may be frozen, and things of the store forgotten -/
inductive Gv : DV → Sto → DV → Sto → Prop
  | refl {d st} : Gv d st d st
  | lst {n ds st d' st'} : st n = some (.lst ds) → Gv (.lst ds) (sdel st n) d' st' → Gv (.ref n) st d' st'
  | dct {n ks ds st d' st'} : st n = some (.dct ks ds) → Gv (.dct ks ds) (sdel st n) d' st' → Gv (.ref n) st d' st'
  | ins {n C ns ds st d' st'} : st n = some (.ins C ns ds) → Gv (.ins C ns ds) (sdel st n) d' st' → Gv (.ref n) st d' st'
  | del {d st n d' st'} : Gv d (sdel st n) d' st' → Gv d st d' st'
  | sub {d : DV} {st s2 : Sto} {d' st'} : (∀ n o, s2 n = some o → st n = some o) → Gv d s2 d' st' → Gv d st d' st'
  | well {n : Nat} {i j k : Int} {d st d' st'} : st n = some (.lst [.int i, .int j, .int k]) → Gv d (sset st n .well) d' st' → Gv d st d' st'
def dRet (te : TEd) : TSd := fun D sl st => te (fun x s => D.ex x sl s) sl st fun d s1 => ∃ d' s2, Gv d s1 d' s2 ∧ D.rt d' s2
def dRetN : TSd := fun D _ st => ∃ d' s2, Gv .non st d' s2 ∧ D.rt d' s2
def dIfS (c : TTd) (t u : TSd) : TSd := fun D sl st => c (fun x s => D.ex x sl s) sl st fun b s1 => if b = true then t D sl s1 else u D sl s1
def dAsg (te : TEd) (g : TGd) : TSd := fun D sl st => te (fun x s => D.ex x sl s) sl st fun d s1 => g d (fun x s => D.ex x sl s) sl s1 D.nx
def noX : KX := fun _ _ => False
def gNm (i : Nat) : TGd := fun d _ sl st Q => Q (sl.set i (some d)) st
def gNl : TGsd := fun ds _ sl st Q => ds = [] ∧ Q sl st
def gCn (g : TGd) (gs : TGsd) : TGsd := fun ds ex sl st Q => ∃ d r, ds = d :: r ∧ g d ex sl st fun sl1 s1 => gs r noX sl1 s1 Q
/-- the items of a tuple or list -/
def itsOf (st : Sto) : DV → Option (List DV)
  | .tup ds => some ds
  | .lst ds => some ds
  | .scr ds => some ds
  | .ref n => match st n with | some (.lst ds) => some ds | _ => none
  | _ => none
def gSq (n : Nat) (gs : TGsd) : TGd := fun d ex sl st Q => ∃ ds, itsOf st d = some ds ∧ ds.length = n ∧ gs ds ex sl st Q
def gSb (to ti : TEd) (t : DV → DV → DV → Sto → (Sto → Prop) → Prop) : TGd := fun d ex sl st Q => to ex sl st fun o s1 => ti ex sl s1 fun i s2 => t o i d s2 fun s3 => Q sl s3
def dForE (wi : TId) (g : TGd) (tb : TSd) : TSd := fun D sl st => wi (fun x s => D.ex x sl s) sl st fun xs gd s1 => ∃ Pv : Nat → Sl → Sto → Prop, Pv 0 sl s1 ∧ (∀ i sl st, i ≤ xs.length → Pv i sl st → gd st) ∧
  (∀ i x sl st, xs[i]? = some x → Pv i sl st → g x (fun x s => D.ex x sl s) sl st fun sl2 s2 => tb { D with nx := Pv (i + 1), ct := Pv (i + 1), bk := D.nx } sl2 s2) ∧ (∀ sl st, Pv xs.length sl st → D.nx sl st)
def wipeD (sl : Sl) : List Nat → Sl
  | [] => sl
  | v :: vs => (wipeD sl vs).set v none
def dLcE (wi : TId) (g : TGd) (tt : TTd) (te : TEd) (vs : List Nat) : TEd := fun ex sl st Q => wi ex sl st fun xs gd s1 => xs.length ≤ 100000 ∧ ∃ Pv : Nat → List DV → Sto → Prop, Pv 0 [] s1 ∧ (∀ i acc st, i ≤ xs.length → Pv i acc st → gd st) ∧
  (∀ i x acc st, xs[i]? = some x → Pv i acc st → g x noX (wipeD sl vs) st fun sl2 s2 => tt noX sl2 s2 fun b s3 => if b = true then te noX sl2 s3 fun y s4 => Pv (i + 1) (acc ++ [y]) s4 else Pv (i + 1) acc s3) ∧
  (∀ acc st, Pv xs.length acc st → NewL acc st Q)
section
variable {K : PySem.W.Frag} {E : EK} {X : Cx} {W W' : Wd} {sl : Sl} {st st' : Sto} {σ : L2.St} {H H' : Hp} {ex : KX}
theorem Rl.gv {d : DV} {d' : DV} (h : Gv d st d' st') : ∀ {W v}, Rl K W st H → Dv K W v d → ∃ W', W.Le W' ∧ Rl K W' st' H ∧ Dv K W' v d' := by
  induction h with
  | refl => intro W v R D; exact ⟨W, Wd.Le.refl W, R, D⟩
  | lst e _ ih =>
    intro W v R D
    cases D with
    | ref ha =>
      obtain ⟨a, h1, h2, vs, h3, h4⟩ := R.ob _ _ e
      rw [ha] at h1; injection h1 with h1; subst h1
      obtain ⟨W2, l, R2, D2⟩ := ih (R.frz e ha h3) (.lst upd_same (h4.le (Wd.fz_le h2)))
      exact ⟨W2, (Wd.fz_le h2).trans l, R2, D2⟩
  | dct e _ ih =>
    intro W v R D
    cases D with
    | ref ha =>
      obtain ⟨a, h1, h2, vs, h3, h4, h5⟩ := R.ob _ _ e
      rw [ha] at h1; injection h1 with h1; subst h1
      obtain ⟨W2, l, R2, D2⟩ := ih (R.frz e ha h3) (.dct upd_same h4 (h5.le (Wd.fz_le h2)))
      exact ⟨W2, (Wd.fz_le h2).trans l, R2, D2⟩
  | ins e _ ih =>
    intro W v R D
    cases D with
    | ref ha =>
      obtain ⟨a, h1, h2, dx, vs, h3, hc, h4, h5⟩ := R.ob _ _ e
      rw [ha] at h1; injection h1 with h1; subst h1
      obtain ⟨W2, l, R2, D2⟩ := ih (R.frz e ha h3) (.ins upd_same hc h4 (h5.le (Wd.fz_le h2)))
      exact ⟨W2, (Wd.fz_le h2).trans l, R2, D2⟩
  | del _ ih =>
    intro W v R D
    exact ih (R.sub sub_del) D
  | sub e _ ih =>
    intro W v R D
    exact ih (R.sub e) D
  | well e _ ih =>
    intro W v R D
    exact ih (R.tie e) D
theorem dss_nil : PSs X [] (canS K E dNext) := pssI pss_nil fun R S N q => N.nx _ _ _ _ _ (Wd.Le.refl _) R S q
theorem dss_one {s : Stmt} {t : TSd} (h : PS X s (canS K E t)) : PSs X [s] (canS K E t) := pss_one h
theorem dss_cons {s : Stmt} {rest : List Stmt} {t u : TSd} (h1 : PS X s (canS K E t)) (h2 : PSs X rest (canS K E u)) : PSs X (s :: rest) (canS K E (dSeq t u)) :=
  pssI (pss_cons h1 h2) fun R S N q => ⟨_, _, _, _, R, S, N.nxR fun W1 sl1 s1 σ1 H1 l R1 S1 q1 => ⟨W1, sl1, s1, _, R1, S1, N.le l, q1⟩, q⟩
theorem ds_pass {pos} : PS X (.Pass pos) (canS K E dNext) := psI ps_pass fun R S N q => N.nx _ _ _ _ _ (Wd.Le.refl _) R S q
theorem ds_break {pos} : PS X (.Break pos) (canS K E dBrk) := psI ps_break fun R S N q => N.bk _ _ _ _ _ (Wd.Le.refl _) R S q
theorem ds_continue {pos} : PS X (.Continue pos) (canS K E dCont) := psI ps_continue fun R S N q => N.ct _ _ _ _ _ (Wd.Le.refl _) R S q
theorem ds_expr {e : Expr} {te : TEd} {pos : Pos} (he : PE X e (canE K E te)) (hs : swapsWith e none pos.line X.env = pure false := by rfl) : PS X (.Expr e pos) (canS K E (dDrop te)) :=
  psI (ps_expr he hs) fun R S N q => runE (N.at_ R S) q fun W1 s1 H1 v d l A1 D q1 => N.nx _ _ _ _ _ l A1.r A1.s q1
theorem ds_ret {e : Expr} {te : TEd} {pos : Pos} (he : PE X e (canE K E te)) : PS X (.Return (some e) pos) (canS K E (dRet te)) :=
  psI (ps_ret he) fun R S N q => runE (N.at_ R S) q fun W1 s1 H1 v d l A1 D ⟨d', s2, g, q1⟩ => by
    obtain ⟨W2, l2, R2, D2⟩ := Rl.gv g A1.r D
    exact N.rt _ _ _ _ _ (l.trans l2) R2 D2 q1
theorem ds_retN {pos : Pos} : PS X (.Return none pos) (canS K E dRetN) := psI ps_retN fun R S N ⟨d', s2, g, q1⟩ => by
    obtain ⟨W2, l2, R2, D2⟩ := Rl.gv g R .non
    exact N.rt _ _ _ _ _ l2 R2 D2 q1
theorem ds_if {c : Expr} {a b : List Stmt} {tc : TTd} {t u : TSd} {pos : Pos} (hc : PT X c (canT K E tc)) (ha : PSs X a (canS K E t)) (hb : PSs X b (canS K E u)) : PS X (.If c a b pos) (canS K E (dIfS tc t u)) :=
  psI (ps_if hc ha hb) fun R S N q => runT (N.at_ R S) q fun W1 s1 H1 b1 l A1 q1 => by
    cases b1 with
    | true => exact ⟨_, _, _, _, A1.r, A1.s, N.le l, q1⟩
    | false => exact ⟨_, _, _, _, A1.r, A1.s, N.le l, q1⟩
theorem Chg.refl {is : List Nat} (σ : L2.St) : Chg is σ σ := ⟨rfl, fun _ _ => rfl⟩
theorem Chg.trans {is js ks : List Nat} {σ σ1 σ2 : L2.St} (h1 : Chg is σ σ1) (h2 : Chg js σ1 σ2) (s1 : ∀ i ∈ is, i ∈ ks) (s2 : ∀ i ∈ js, i ∈ ks) : Chg ks σ σ2 :=
  ⟨h2.1.trans h1.1, fun i hi => (h2.2 i fun z => hi (s2 i z)).trans (h1.2 i fun z => hi (s1 i z))⟩
theorem dg_name {i : Nat} {e : Expr} (h : PG X e (gName i)) : PG X e (canG K E [i] (gNm i)) :=
  pgI h fun A D q k => k _ _ _ _ _ (Wd.Le.refl _) A.r (A.s.set D) ⟨List.length_set, fun j hj => List.getElem?_set_ne (fun z => hj (by rw [z]; exact List.mem_singleton_self _))⟩ q
theorem dgs_nil : PGs X [] (canGs K E [] gNl) := pgsI pgs_nil fun A D ⟨e, q⟩ k => by
  subst e
  cases D
  exact ⟨rfl, k _ _ _ _ _ (Wd.Le.refl _) A.r A.s (Chg.refl _) q⟩
theorem dgs_cons {e : Expr} {es : List Expr} {g : TGd} {gs : TGsd} {is js : List Nat} (h1 : PG X e (canG K E is g)) (h2 : PGs X es (canGs K E js gs))
    (hs : (assignEach (e :: es) X.env).map (·.2) = assign e X.env :: (assignEach es X.env).map (·.2) := by rfl) : PGs X (e :: es) (canGs K E (is ++ js) (gCn g gs)) :=
  pgsI (pgs_cons h1 h2 hs) fun {vs σ H Q W sl st ex ds Qd} A D ⟨d, r, ed, q⟩ k => by
    subst ed
    cases D with
    | cons D1 D2 =>
      refine ⟨_, _, rfl, runG A D1 q fun W1 sl1 s1 σ1 H1 l1 R1 S1 c1 q1 => ?_⟩
      exact ⟨W1, sl1, s1, _, _, _, ⟨R1, S1, fun _ _ _ _ _ _ _ _ _ z => z.elim⟩, D2.le l1, q1, fun W2 sl2 s2 σ2 H2 l2 R2 S2 c2 q2 => k _ _ _ _ _ (l1.trans l2) R2 S2 (c1.trans c2 (fun _ h => List.mem_append_left _ h) (fun _ h => List.mem_append_right _ h)) q2⟩
theorem dv_its {v : V} {d : DV} {ds : List DV} (R : Rl K W st H) (D : Dv K W v d) (h : itsOf st d = some ds) : ∃ a vs, v = .ref a ∧ DvAll K W vs ds ∧ ((SqT K H a vs ∧ ∃ ds, d = .tup ds) ∨ SqL K H a vs) := by
  cases D with
  | tup h1 h2 => injection h with h; subst h; exact ⟨_, _, rfl, h2, .inl ⟨R.fh.sqt h1, _, rfl⟩⟩
  | lst h1 h2 => injection h with h; subst h; exact ⟨_, _, rfl, h2, .inr (SqL.of (R.fh.at_ h1))⟩
  | scr h1 h2 => injection h with h; subst h; exact ⟨_, _, rfl, h2, .inr (R.fh.seq h1)⟩
  | ref ha =>
    rename_i n
    unfold itsOf at h
    cases e : st n with
    | none => simp only [e] at h; cases h
    | some o =>
      simp only [e] at h
      cases o with
      | lst ds' =>
        injection h with h
        subst h
        obtain ⟨a, h1, h2, vs, h3, h4⟩ := R.ob _ _ e
        rw [ha] at h1; injection h1 with h1; subst h1
        exact ⟨_, _, rfl, h4, .inr (SqL.of h3)⟩
      | _ => cases h
  | _ => cases h
theorem dg_seq {es : List Expr} {k : Nat} {gs : TGsd} {n : Nat} {is : List Nat} {pos : Pos} (hc : X.calm = true) (hK : X.K = K) (hp : PGs X es (canGs K E is gs)) (hn : (assignEach es X.env).length = n := by rfl) (hst : (assignEach es X.env).findIdx? (·.1) = none := by rfl) :
    PG X (.Tuple es k pos) (canG K E is (gSq n gs)) :=
  pgI (gtK K hK hc hp hn hst) fun A D ⟨ds, e, hl, q⟩ k => by
    obtain ⟨a, vs, rfl, D2, h⟩ := dv_its A.r D e
    have hl2 : vs.length = n := D2.len.trans hl
    have g := (⟨_, _, _, _, _, _, A, D2, q, k⟩ : canGs K E is gs vs _ _ _)
    rcases h with ⟨h, _⟩ | h
    · exact .inl ⟨a, vs, rfl, h, hl2, g⟩
    · exact .inr ⟨a, vs, rfl, h, hl2, g⟩
theorem dg_sub {o i : Expr} {to ti : TEd} {t : DV → DV → DV → Sto → (Sto → Prop) → Prop} {pos : Pos} (ho : PE X o (canE K E to)) (hi : PE X i (canE K E ti)) (hs : PSet X (canSet K t))
    (ha : ∀ v, assign (.Subscript o i pos) X.env v = (do
      let ov ← holding [v] (eval o X.env)
      let iv ← holding [v, ov] (eval i X.env)
      standAt pos
      holding [v, ov, iv] (setItem ov iv v)
      release [v, ov, iv] []) := by intro _; rfl) : PG X (.Subscript o i pos) (canG K E [] (gSb to ti t)) :=
  pgI (pg_sub ho hi hs ha) fun A D q k => runE A q fun W1 s1 H1 v1 d1 l1 A1 D1 q1 => runE A1 q1 fun W2 s2 H2 v2 d2 l2 A2 D2 q2 => ⟨W2, s2, _, _, _, _, A2.r, D1.le l2, D2, D.le (l1.trans l2), q2, fun W3 s3 H3 l3 R3 q3 => k W3 _ s3 _ H3 (l1.trans (l2.trans l3)) R3 (A2.s.le l3) (Chg.refl _) q3⟩
theorem ds_asg {tg e : Expr} {te : TEd} {g : TGd} {is : List Nat} {pos : Pos} (he : PE X e (canE K E te)) (hg : PG X tg (canG K E is g)) (hs : swapsWithSole [tg] e pos.line X.env = pure false := by rfl) (hw : swappedStores [tg] e X.env = pure none := by rfl)
    (h1 : (assignEach [tg] X.env).map (·.2) = [assign tg X.env] := by rfl) : PS X (.Assign [tg] e pos) (canS K E (dAsg te g)) :=
  psI (ps_asg he hg hs hw h1) fun R S N q => runE (N.at_ R S) q fun W1 s1 H1 v d l A1 D q1 => runG A1 D q1 fun W2 sl2 s2 σ2 H2 l2 R2 S2 c q2 => N.nx _ _ _ _ _ (l.trans l2) R2 S2 q2
theorem ds_set {i : Nat} {x : Str} {e : Expr} {te : TEd} {pos pos' : Pos} (hN : X.N.Nodup) (hi : X.N[i]? = some x) (hx : Loc X.env.scope x) (he : PE X e (canE K E te)) (hs : swapsWith e (some (.Name x pos')) pos.line X.env = pure false := by rfl) (hf : X.fn x = true ∨ X.env.scope.names.lookup x = some .local := by first | exact .inl rfl | exact .inr rfl | assumption) :
    PS X (.Assign [.Name x pos'] e pos) (canS K E (dAsg te (gNm i))) :=
  psI (ps_set hN hi hx he hs hf) fun R S N q => runE (N.at_ R S) q fun W1 s1 H1 v d l A1 D q1 => N.nx _ _ _ _ _ l A1.r (A1.s.set D) q1
/-! ## walks -/
theorem ItR.of {J : It} {xs : List V} {ds : List DV} {G : Hp → Prop} {g : Sto → Prop} (w : Walk J xs.length G (YAt xs)) (D : DvAll K W xs ds)
    (hG : ∀ W' st' H', Same W.F W'.F → (∀ n a, W.ι n = some a → W'.ι n = some a) → Rl K W' st' H' → g st' → G H' ∧ DvAll K W' xs ds) : ItR K W J ds g where
  go := fun i W' st' H' hi f j R q => w.goes i H' (by rw [D.len]; exact hi) (hG W' st' H' f j R q).1
  stop := fun W' st' H' f j R q => by rw [← D.len]; exact w.stops H' (hG W' st' H' f j R q).1
  yld := fun i W' st' H' x H'' hi f j R q y => by
    obtain ⟨h1, h2⟩ := hG W' st' H' f j R q
    obtain ⟨rfl, hx⟩ := w.yields i H' x H'' (by rw [D.len]; exact hi) h1 y
    obtain ⟨d, hd, D2⟩ := h2.getV hx
    exact ⟨W', d, Wd.Le.refl _, R, D2, hd⟩
def iSq (te : TEd) : TId := fun ex sl st R => te ex sl st fun d s1 => ∃ ds, itsOf s1 d = some ds ∧ R ds (fun s => itsOf s d = some ds) s1
theorem its_ref {s : Sto} {n : Nat} {ds : List DV} (e : itsOf s (.ref n) = some ds) : s n = some (.lst ds) := by
  unfold itsOf at e
  cases z : s n with
  | none => simp only [z] at e; cases e
  | some o =>
    simp only [z] at e
    cases o with
    | lst ds' => injection e with e; subst e; rfl
    | _ => cases e
end
def iBoth (K : PySem.W.Frag) (tl : TE) : TI := fun σ H R => tl σ H fun x H1 => ∃ a, x = .ref a ∧ (((∃ xs, SqL K H1 a xs) ∧ R (Itl K a) H1) ∨ ((∃ xs, SqT K H1 a xs) ∧ R (Itt K a) H1))
theorem pi_both {X : Cx} {tg l : Expr} {tl : TE} (hl : PE X l tl) : PI X tg l (iBoth X.K tl) := by
  refine ⟨fun pins s σ H R I h => ?_⟩
  refine thn (hl.run pins s σ H _ I h) fun v s1 ⟨x, H1, I1, r1, q1⟩ => ?_
  obtain ⟨a, e, q⟩ := q1
  subst e
  cases r1
  rcases q with ⟨⟨xs, hq⟩, q⟩ | ⟨⟨xs, hq⟩, q⟩
  · obtain ⟨its, rv, p, hz⟩ := I1.list hq
    refine wpAny_pyIter_list p.isList ?_
    refine ⟨s1.heap.objs.size, [s1.heap.objs.size], _, _, H1, rfl, I1.kept (t' := s1.toks) fun b o e => Heap.get?_push_of_some _ e, turn_list a _, ⟨_, Heap.get?_push_size _ rfl, rfl, rfl⟩, fun b hb => ?_, q⟩
    have e : b = s1.heap.objs.size := by simpa using hb
    subst e
    exact I1.fpOk (Nat.le_refl _) (I1.hok.fresh (Nat.le_refl _))
  · obtain ⟨its, rv, p, hz⟩ := I1.tuple hq
    refine wpAny_pyIter_tuple (show s1.heap.IsTuple a its.toArray from p) ?_
    refine ⟨s1.heap.objs.size, [s1.heap.objs.size], _, _, H1, rfl, I1.kept (t' := s1.toks) fun b o e => Heap.get?_push_of_some _ e, turn_tuple a _, ⟨_, Heap.get?_push_size _ rfl, rfl, rfl⟩, fun b hb => ?_, q⟩
    have e : b = s1.heap.objs.size := by simpa using hb
    subst e
    exact I1.fpOk (Nat.le_refl _) (I1.hok.fresh (Nat.le_refl _))
theorem piBK (K : PySem.W.Frag) {X : Cx} (h : X.K = K) {tg l : Expr} {tl : TE} (hl : PE X l tl) : PI X tg l (iBoth K tl) := h ▸ pi_both hl
section
variable {K : PySem.W.Frag} {E : EK} {X : Cx} {W W' : Wd} {sl : Sl} {st st' : Sto} {σ : L2.St} {H H' : Hp} {ex : KX}
theorem ItR.lst {a : Addr} {vs : List V} {ds : List DV} {g : Sto → Prop} (h : ∀ W' st' H', Same W.F W'.F → (∀ n a, W.ι n = some a → W'.ι n = some a) → Rl K W' st' H' → g st' → ∃ vs, SqL K H' a vs ∧ DvAll K W' vs ds) : ItR K W (Itl K a) ds g where
  go := fun i W' st' H' hi f j R q => by
    obtain ⟨vs, h1, h2⟩ := h W' st' H' f j R q
    exact ⟨vs, vs[i]'(by rw [h2.len]; exact hi), h1, List.getElem?_eq_getElem _⟩
  stop := fun W' st' H' f j R q => by
    obtain ⟨vs, h1, h2⟩ := h W' st' H' f j R q
    exact ⟨vs, h1, by rw [h2.len]; exact Nat.le_refl _⟩
  yld := fun i W' st' H' x H'' hi f j R q y => by
    obtain ⟨vs, h1, h2⟩ := h W' st' H' f j R q
    obtain ⟨rfl, hx⟩ := y
    obtain ⟨d, hd, D2⟩ := h2.getV (hx vs h1)
    exact ⟨W', d, Wd.Le.refl _, R, D2, hd⟩
theorem ItR.tup {a : Addr} {vs : List V} {ds : List DV} {g : Sto → Prop} (h : SqT K W.F a vs) (D : DvAll K W vs ds) : ItR K W (Itt K a) ds g where
  go := fun i W' st' H' hi f j R q => ⟨vs, vs[i]'(by rw [D.len]; exact hi), R.fh.sqt (f.sqt h), List.getElem?_eq_getElem _⟩
  stop := fun W' st' H' f j R q => ⟨vs, R.fh.sqt (f.sqt h), by rw [D.len]; exact Nat.le_refl _⟩
  yld := fun i W' st' H' x H'' hi f j R q y => by
    obtain ⟨rfl, hx⟩ := y
    obtain ⟨d, hd, D2⟩ := (D.mono f j).getV (hx vs (R.fh.sqt (f.sqt h)))
    exact ⟨W', d, Wd.Le.refl _, R, D2, hd⟩
theorem di_seq {tg e : Expr} {te : TEd} (hK : X.K = K) (he : PE X e (canE K E te)) : PI X tg e (canI K E (iSq te)) :=
  piI (piBK K hK he) fun A h k => runE A h fun W1 s1 H1 v d l A1 D ⟨ds, e, q⟩ => by
    cases D with
    | tup h1 h2 =>
      injection e with e; subst e
      exact ⟨_, rfl, .inr ⟨⟨_, A1.r.fh.sqt h1⟩, k W1 s1 H1 _ _ _ l A1.r (ItR.tup h1 h2) q⟩⟩
    | lst h1 h2 =>
      injection e with e; subst e
      exact ⟨_, rfl, .inl ⟨⟨_, SqL.of (A1.r.fh.at_ h1)⟩, k W1 s1 H1 _ _ _ l A1.r (ItR.lst (vs := []) fun W' st' H' f j R _ => ⟨_, SqL.of (R.fh.at_ (f.at_ h1)), h2.mono f j⟩) q⟩⟩
    | scr h1 h2 =>
      injection e with e; subst e
      exact ⟨_, rfl, .inl ⟨⟨_, A1.r.fh.seq h1⟩, k W1 s1 H1 _ _ _ l A1.r (ItR.lst (vs := []) fun W' st' H' f j R _ => ⟨_, R.fh.seq (f.seq h1), h2.mono f j⟩) q⟩⟩
    | ref ha =>
      obtain ⟨a, g1, g2, vs, g3, g4⟩ := A1.r.ob _ _ (its_ref e)
      rw [ha] at g1; injection g1 with g1; subst g1
      refine ⟨_, rfl, .inl ⟨⟨_, SqL.of g3⟩, k W1 s1 H1 _ _ _ l A1.r (ItR.lst (vs := []) fun W' st' H' f j R q' => ?_) q⟩⟩
      obtain ⟨a', g1, g2, vs', g3, g4⟩ := R.ob _ _ (its_ref q')
      rw [j _ _ ha] at g1; injection g1 with g1; subst g1
      exact ⟨vs', SqL.of g3, g4⟩
    | _ => cases e
/-- 0, 1, .. -/
def rgD (lo : Int) (n : Nat) : List DV := (List.range n).map fun i : Nat => .int (lo + (i : Int))
theorem ItR.rng {lo : Int} {n : Nat} {g : Sto → Prop} : ItR K W (Itr lo n) (rgD lo n) g where
  go := fun i W' st' H' hi f j R q => by
    have : i < n := by simpa [rgD] using hi
    exact this
  stop := fun W' st' H' f j R q => by
    show n ≤ (rgD lo n).length
    simp [rgD]
  yld := fun i W' st' H' x H'' hi f j R q y => by
    have hi : i < n := by simpa [rgD] using hi
    obtain ⟨rfl, rfl⟩ := y
    exact ⟨W', .int (lo + i), Wd.Le.refl _, R, .int _, by simp [rgD, hi]⟩
def iR1 (t : TAd) : TId := fun ex sl st R => t ex sl st fun ds s1 => ∃ j : Int, ds = [.int j] ∧ (-(2 ^ 62) ≤ j ∧ j < 2 ^ 62) ∧ R (rgD 0 j.toNat) (fun _ => True) s1
def iR2 (t : TAd) : TId := fun ex sl st R => t ex sl st fun ds s1 => ∃ i j : Int, ds = [.int i, .int j] ∧ (-(2 ^ 62) ≤ i ∧ i < 2 ^ 62 ∧ -(2 ^ 62) ≤ j ∧ j < 2 ^ 62) ∧ R (rgD i (j - i).toNat) (fun _ => True) s1
theorem dvI {v : V} {i : Int} (h : Dv K W v (.int i)) : v = .int i := by cases h; rfl
theorem dvS {v : V} {x : Str} (h : Dv K W v (.str x)) : v = .str x ∧ SOk x := by cases h; exact ⟨rfl, by assumption⟩
theorem dvN {v : V} (h : Dv K W v .non) : v = .non := by cases h; rfl
theorem dv1 {vs : List V} {d : DV} (h : DvAll K W vs [d]) : ∃ v, vs = [v] ∧ Dv K W v d := by
  cases h with
  | cons h1 h2 => cases h2; exact ⟨_, rfl, h1⟩
theorem dv2 {vs : List V} {d e : DV} (h : DvAll K W vs [d, e]) : ∃ v u, vs = [v, u] ∧ Dv K W v d ∧ Dv K W u e := by
  cases h with
  | cons h1 h2 => cases h2 with
    | cons h2 h3 => cases h3; exact ⟨_, _, rfl, h1, h2⟩
theorem di_rng1 {tg a : Expr} {ta : TAd} {p pos : Pos} (hg : Gl X "range") (hm : X.mg "range" = none) (ha : PA X [a] (canA K E ta)) (hs : starEach [a] X.env = [(false, eval a X.env)] := by rfl) : PI X tg (.Call (.Name "range" p) [a] [] pos) (canI K E (iR1 ta)) :=
  piI (pi_range1 hg hm ha hs) fun A h k => runA A h fun W1 s1 H1 vs ds l A1 D ⟨j, e, ⟨h1, h2⟩, q⟩ => by
    subst e
    obtain ⟨v, rfl, D1⟩ := dv1 D
    exact ⟨j, by rw [dvI D1], h1, h2, k W1 s1 H1 _ _ _ l A1.r ItR.rng q⟩
theorem di_rng2 {tg a b : Expr} {ta : TAd} {p pos : Pos} (hg : Gl X "range") (hm : X.mg "range" = none) (ha : PA X [a, b] (canA K E ta)) (hs : starEach [a, b] X.env = [(false, eval a X.env), (false, eval b X.env)] := by rfl) (hs2 : starEach [b] X.env = [(false, eval b X.env)] := by rfl) : PI X tg (.Call (.Name "range" p) [a, b] [] pos) (canI K E (iR2 ta)) :=
  piI (pi_range2 hg hm ha hs hs2) fun A h k => runA A h fun W1 s1 H1 vs ds l A1 D ⟨i, j, e, hb, q⟩ => by
    subst e
    obtain ⟨v, u, rfl, D1, D2⟩ := dv2 D
    exact ⟨i, j, by rw [dvI D1, dvI D2], hb, k W1 s1 H1 _ _ _ l A1.r ItR.rng q⟩
theorem sok_one {x : Str} (h : SOk x) {c : Nat} {i : Nat} (hc : x.cps[i]? = some c) : SOk ⟨#[c]⟩ := by
  refine ⟨?_, by show 1 ≤ 100000; decide⟩
  have h1 := h.1
  unfold PyData.strOk at h1 ⊢
  rw [← Array.all_toList] at h1 ⊢
  have hm : c ∈ x.cps.toList := by
    rw [← Array.getElem?_toList] at hc
    exact List.mem_of_getElem? hc
  have := List.all_eq_true.mp h1 c hm
  simpa using this
def sgD (x : Str) : List DV := x.cps.toList.map fun c => .str ⟨#[c]⟩
def iSt (te : TEd) : TId := fun ex sl st R => te ex sl st fun d s1 => ∃ x, d = .str x ∧ R (sgD x) (fun _ => True) s1
theorem di_str {tg e : Expr} {te : TEd} (he : PE X e (canE K E te)) : PI X tg e (canI K E (iSt te)) :=
  piI (pi_str he) fun A h k => runE A h fun W1 s1 H1 v d l A1 D ⟨x, e, q⟩ => by
    subst e
    obtain ⟨rfl, sx⟩ := dvS D
    refine ⟨x, rfl, k W1 s1 H1 _ _ _ l A1.r ⟨fun i W' st' H' hi f j R q => ?_, fun W' st' H' f j R q => ?_, fun i W' st' H' y H'' hi f j R q z => ?_⟩ q⟩
    · exact (walk_str (z := x)).goes i H' (by simpa [sgD] using hi) trivial
    · have := (walk_str (z := x)).stops H' trivial
      simpa [sgD] using this
    · obtain ⟨rfl, c, hc, rfl⟩ := (walk_str (z := x)).yields i H' y H'' (by simpa [sgD] using hi) trivial z
      exact ⟨W', _, Wd.Le.refl _, R, .str _ (sok_one sx hc), by simp [sgD, hc]⟩
end
/-! ## for -/
section
variable {K : PySem.W.Frag} {E : EK} {X : Cx}
theorem ds_for {tg iter : Expr} {body : List Stmt} {wi : TId} {g : TGd} {is : List Nat} {tb : TSd} {pos : Pos} (hp : PassesOwn (model X.prog X.w) X.A X.env X.xe) (hc : X.calm = true) (hi : PI X tg iter (canI K E wi)) (hg : PG X tg (canG K E is g)) (hb : PSs X body (canS K E tb))
    (hs : ∀ x, foldedSetIterable iter X.env x = pure x := by intro _; rfl) : PS X (.For tg iter body [] pos) (canS K E (dForE wi g tb)) :=
  psI (ps_for hp hc hi hg hb hs) fun {D σ H W sl st Dd} R S N q => ⟨W, sl, st, _, _, N.at_ R S, q, fun W1 s1 H1 J xs gd l R1 hJ ⟨Pv, h0, hgd, hst, hd⟩ => by
    refine ⟨fun i m σ H => m = xs.length - i ∧ i ≤ xs.length ∧ ∃ W' sl st, W1.Le W' ∧ Rl K W' st H ∧ SlR K W' sl σ ∧ Pv i sl st, ⟨xs.length, by simp, Nat.zero_le _, W1, sl, s1, Wd.Le.refl _, R1, S.le l, h0⟩, ?_⟩
    rintro i m σ2 H2 ⟨rfl, hi, W2, sl2, s2, l2, R2, S2, p⟩
    have gd2 := hgd i sl2 s2 hi p
    by_cases hlt : i < xs.length
    · refine .inr ⟨hJ.go i W2 s2 H2 hlt l2.f l2.i R2 gd2, fun σ H => ∃ W' sl st, W1.Le W' ∧ Rl K W' st H ∧ SlR K W' sl σ ∧ Pv (i + 1) sl st, fun σ' H' q => ⟨xs.length - (i + 1), by omega, rfl, hlt, q⟩, fun x H3 y => ?_⟩
      obtain ⟨W3, d, l3, R3, D3, hx⟩ := hJ.yld i W2 s2 H2 x H3 hlt l2.f l2.i R2 gd2 y
      have N3 := N.le (l.trans (l2.trans l3))
      refine runG (N3.at_ R3 (S2.le l3)) D3 (hst i d sl2 s2 hx p) fun W4 sl4 s4 σ4 H4 l4 R4 S4 _ q4 => ⟨W4, sl4, s4, _, R4, S4, ?_, q4⟩
      have N4 := N3.le l4
      have l14 := l2.trans (l3.trans l4)
      exact ⟨fun W5 sl5 s5 σ5 H5 l5 R5 S5 q5 => ⟨W5, sl5, s5, l14.trans l5, R5, S5, q5⟩, N4.rt, N4.ex, N4.nx, fun W5 sl5 s5 σ5 H5 l5 R5 S5 q5 => ⟨W5, sl5, s5, l14.trans l5, R5, S5, q5⟩⟩
    · have e : i = xs.length := by omega
      subst e
      exact .inl ⟨hJ.stop W2 s2 H2 l2.f l2.i R2 gd2, N.nx _ _ _ _ _ (l.trans l2) R2 S2 (hd sl2 s2 p)⟩⟩
end
end Kn

set_option Elab.async false
set_option linter.all false
set_option maxRecDepth 100000
set_option maxHeartbeats 2000000
namespace Kn
open PySem PySem.Spec PyProof.Rows L2
/-! ## a thing guarded while others are at work -/
def Wd.gd (W : Wd) (D : Addr) (o : HO) : Wd := { W with G := upd W.G D o }
def Wd.uf (W : Wd) (D : Addr) (o : HO) (G' : Hp) : Wd := { F := upd W.F D o, ι := W.ι, G := G' }
def Wd.us (W : Wd) (n : Nat) (D : Addr) (G' : Hp) : Wd := { F := W.F, ι := (W.nw n D).ι, G := G' }
section
variable {K : PySem.W.Frag} {E : EK} {X : Cx} {W W' : Wd} {sl : Sl} {st st' : Sto} {σ : L2.St} {H H' : Hp} {ex : KX}
theorem Rl.guard {D : Addr} {o : HO} (R : Rl K W st H) (h : H D = some o) (hf : W.F D = none) (hi : ∀ n, W.ι n ≠ some D) : Rl K (W.gd D o) st H where
  fh := R.fh
  gh := fun a u e => by
    have e : upd W.G D o a = some u := e
    by_cases q : a = D
    · subst q; rw [upd_same] at e; rw [← e]; exact h
    · rw [upd_ne q] at e; exact R.gh.at_ e
  fg := fun a u e => by
    have e : upd W.G D o a = some u := e
    by_cases q : a = D
    · subst q; exact hf
    · rw [upd_ne q] at e; exact R.fg a u e
  ob := fun n u e => by
    obtain ⟨a, h1, h2, h3⟩ := R.ob n u e
    exact ⟨a, h1, h2, h3.mono (W := W) (W' := W.gd D o) (Same.refl _) (fun _ _ z => z) rfl⟩
  inj := R.inj
  up := R.up
  ig := fun n a e => by
    show upd W.G D o a = none
    rw [upd_ne (fun z => hi n (by rw [← z]; exact e))]
    exact R.ig n a e
  bd := R.bd
theorem Rl.reguard {D : Addr} {o o' : HO} (R : Rl K W st H) (h : W.G D = some o) : Rl K (W.gd D o') st (upd H D o') where
  fh := fun a u e => by
    have e : W.F a = some u := e
    rw [upd_ne (fun z => by rw [z, R.fg D o h] at e; cases e)]
    exact R.fh.at_ e
  gh := fun a u e => by
    have e : upd W.G D o' a = some u := e
    by_cases q : a = D
    · subst q; rw [upd_same] at e ⊢; exact e
    · rw [upd_ne q] at e ⊢; exact R.gh.at_ e
  fg := fun a u e => by
    have e : upd W.G D o' a = some u := e
    by_cases q : a = D
    · subst q; exact R.fg a o h
    · rw [upd_ne q] at e; exact R.fg a u e
  ob := fun n u e => by
    obtain ⟨a, h1, h2, h3⟩ := R.ob n u e
    have q : a ≠ D := fun z => by rw [← z, R.ig n a h1] at h; cases h
    exact ⟨a, h1, h2, h3.mono (W := W) (W' := W.gd D o') (Same.refl _) (fun _ _ z => z) (upd_ne q)⟩
  inj := R.inj
  up := fun n a e => by
    have q : a ≠ D := fun z => by rw [← z, R.ig n a e] at h; cases h
    obtain ⟨u, g⟩ := R.up n a e
    exact ⟨u, by rw [upd_ne q]; exact g⟩
  ig := fun n a e => by
    have q : a ≠ D := fun z => by rw [← z, R.ig n a e] at h; cases h
    show upd W.G D o' a = none
    rw [upd_ne q]
    exact R.ig n a e
  bd := R.bd
theorem Rl.unguardF {D : Addr} {o : HO} {G' : Hp} (R : Rl K W st H) (h : W.G D = some o) (hs : Same G' W.G) (hD : G' D = none) : Rl K (W.uf D o G') st H where
  fh := fun a u e => by
    have e : upd W.F D o a = some u := e
    by_cases q : a = D
    · subst q; rw [upd_same] at e; rw [← e]; exact R.gh.at_ h
    · rw [upd_ne q] at e; exact R.fh.at_ e
  gh := hs.trans R.gh
  fg := fun a u e => by
    have e : G' a = some u := e
    have q : a ≠ D := fun z => by rw [z, hD] at e; cases e
    show upd W.F D o a = none
    rw [upd_ne q]
    exact R.fg a u (hs.at_ e)
  ob := fun n u e => by
    obtain ⟨a, h1, h2, h3⟩ := R.ob n u e
    have q : a ≠ D := fun z => by rw [← z, R.ig n a h1] at h; cases h
    refine ⟨a, h1, ?_, h3.mono (W := W) (W' := W.uf D o G') (Same.new (R.fg D o h)) (fun _ _ z => z) rfl⟩
    show upd W.F D o a = none
    rw [upd_ne q]
    exact h2
  inj := R.inj
  up := R.up
  ig := fun n a e => free_of hs (R.ig n a e)
  bd := R.bd
theorem Rl.unguardS {D : Addr} {n : Nat} {o : OV} {u : HO} {G' : Hp} (R : Rl K W st H) (h : W.G D = some u) (hs : Same G' W.G) (hD : G' D = none) (hn : W.ι n = none) (ho : ObR K (W.nw n D) H D o) : Rl K (W.us n D G') (sset st n o) H where
  fh := R.fh
  gh := hs.trans R.gh
  fg := fun a u e => R.fg a u (hs.at_ e)
  ob := fun m x e => by
    by_cases q : m = n
    · subst q
      rw [sset_same] at e
      injection e with e
      subst e
      exact ⟨D, Wd.nw_at, R.fg D u h, ho.mono (W := W.nw m D) (W' := W.us m D G') (Same.refl _) (fun _ _ z => z) rfl⟩
    · rw [sset_ne q] at e
      obtain ⟨b, h1, h2, h3⟩ := R.ob m x e
      exact ⟨b, (Wd.nw_le hn).i m b h1, h2, h3.mono (W := W) (W' := W.us n D G') (Wd.nw_le (p := D) hn).f (Wd.nw_le (p := D) hn).i rfl⟩
  inj := fun m k a e1 e2 => by
    have nD : ∀ m, W.ι m ≠ some D := fun m z => by rw [R.ig m D z] at h; cases h
    have e1 : (if m = n then some D else W.ι m) = some a := e1
    have e2 : (if k = n then some D else W.ι k) = some a := e2
    by_cases q1 : m = n
    · by_cases q2 : k = n
      · rw [q1, q2]
      · rw [if_pos q1] at e1
        rw [if_neg q2] at e2
        injection e1 with e1
        subst e1
        exact (nD k e2).elim
    · by_cases q2 : k = n
      · rw [if_neg q1] at e1
        rw [if_pos q2] at e2
        injection e2 with e2
        subst e2
        exact (nD m e1).elim
      · rw [if_neg q1] at e1
        rw [if_neg q2] at e2
        exact R.inj m k a e1 e2
  up := fun m a e => by
    have e : (if m = n then some D else W.ι m) = some a := e
    by_cases q1 : m = n
    · rw [if_pos q1] at e
      injection e with e
      subst e
      exact ⟨u, R.gh.at_ h⟩
    · rw [if_neg q1] at e
      exact R.up m a e
  ig := fun m a e => by
    have e : (if m = n then some D else W.ι m) = some a := e
    by_cases q1 : m = n
    · rw [if_pos q1] at e
      injection e with e
      subst e
      exact hD
    · rw [if_neg q1] at e
      exact free_of hs (R.ig m a e)
  bd := by
    obtain ⟨N, hN⟩ := R.bd
    refine ⟨N + n + 1, fun m hm => ?_⟩
    show (if m = n then some D else W.ι m) = none
    rw [if_neg (by omega)]
    exact hN m (by omega)
/-! ## comprehensions -/
theorem wipeD_length (sl : Sl) : ∀ vs : List Nat, (wipeD sl vs).length = sl.length
  | [] => rfl
  | v :: vs => by unfold wipeD; rw [List.length_set, wipeD_length sl vs]
theorem SlR.wipe (h : SlR K W sl σ) : ∀ vs : List Nat, SlR K W (wipeD sl vs) (wipe σ vs)
  | [] => h
  | v :: vs => (SlR.wipe h vs).unset
theorem wipe_eq {σ2 : L2.St} : ∀ {vs : List Nat} {is : List Nat}, Chg is (wipe σ vs) σ2 → (∀ i ∈ is, i ∈ vs) → wipe σ2 vs = wipe σ vs := by
  intro vs is h hs
  have key : ∀ i : Nat, (wipe σ2 vs)[i]? = (wipe σ vs)[i]? := by
    intro i
    by_cases hi : i ∈ vs
    · have gen : ∀ (σ : L2.St) {vs : List Nat}, i ∈ vs → (wipe σ vs)[i]? = if i < σ.length then some none else none := by
        intro σ vs
        induction vs with
        | nil => intro h; cases h
        | cons v vs ih =>
          intro h
          unfold wipe
          rw [List.getElem?_set]
          by_cases e : v = i
          · rw [if_pos e, wipe_length]; subst e; rfl
          · rw [if_neg e]
            rcases List.mem_cons.mp h with h | h
            · exact (e h.symm).elim
            · exact ih h
      rw [gen σ2 hi, gen σ hi, h.1, wipe_length]
    · rw [wipe_out hi]
      exact h.2 i fun z => hi (hs i z)
  exact List.ext_getElem? key
abbrev E0c : EK := fun _ _ _ _ => False
theorem lc_can {wi : TId} {g : TGd} {is : List Nat} {tt : TTd} {te : TEd} {vsn : List Nat} (hsub : ∀ i ∈ is, i ∈ vsn) {σ : L2.St} {H : Hp} {Q : VK} {W : Wd} {sl : Sl} {st : Sto} {ex : KX} {Qd : KD} (A : At K E W sl st σ H ex) (h : dLcE wi g tt te vsn ex sl st Qd)
    (k : ∀ W' st' H' v d, W.Le W' → Rl K W' st' H' → Dv K W' v d → Qd d st' → Q v H') : tLc (canI K E wi) (canG K E0c is g) (canT K E0c tt) (canE K E0c te) vsn σ H Q :=
  ⟨W, sl, st, ex, _, A, h, fun W1 s1 H1 J xs gd l R1 hJ ⟨hlen, Pv, h0, hgd, hst, hd⟩ => by
    intro D hD
    have R1' : Rl K (W1.gd D (.lst [])) s1 (upd H1 D (.lst [])) := (R1.same (Same.new hD)).guard upd_same (R1.fnone hD) (R1.inone hD)
    refine ⟨fun i m H => m = xs.length - i ∧ i ≤ xs.length ∧ ∃ W' acc vs st, Same W1.F W'.F ∧ (∀ n a, W1.ι n = some a → W'.ι n = some a) ∧ W'.G = upd W1.G D (.lst vs) ∧ Rl K W' st H ∧ DvAll K W' vs acc ∧ acc.length ≤ i ∧ Pv i acc st,
      ⟨xs.length, by simp, Nat.zero_le _, (W1.gd D (.lst [])), [], [], s1, Same.refl _, fun _ _ z => z, rfl, R1', .nil, Nat.zero_le _, h0⟩, ?_⟩
    rintro i m H2 ⟨rfl, hi, W2, acc, vs, s2, f2, i2, g2, R2, D2, la, p⟩
    have gd2 := hgd i acc s2 hi p
    have S0 : SlR K W2 (wipeD sl vsn) (wipe σ vsn) := ((A.s.le l).mono f2 i2).wipe _
    by_cases hlt : i < xs.length
    · refine .inr ⟨hJ.go i W2 s2 H2 hlt f2 i2 R2 gd2, fun H => ∃ W' acc vs st, Same W1.F W'.F ∧ (∀ n a, W1.ι n = some a → W'.ι n = some a) ∧ W'.G = upd W1.G D (.lst vs) ∧ Rl K W' st H ∧ DvAll K W' vs acc ∧ acc.length ≤ i + 1 ∧ Pv (i + 1) acc st,
        fun H' q => ⟨xs.length - (i + 1), by omega, rfl, hlt, q⟩, fun x H3 y => ?_⟩
      obtain ⟨W3, d, l3, R3, D3, hx⟩ := hJ.yld i W2 s2 H2 x H3 hlt f2 i2 R2 gd2 y
      have A3 : At K E0c W3 (wipeD sl vsn) s2 (wipe σ vsn) H3 noX := ⟨R3, S0.le l3, fun _ _ _ _ _ _ _ _ _ z => z.elim⟩
      refine runG A3 D3 (hst i d acc s2 hx p) fun W4 sl4 s4 σ4 H4 l4 R4 S4 c4 q4 => ⟨wipe_eq c4 hsub, ?_⟩
      have A4 : At K E0c W4 sl4 s4 σ4 H4 noX := ⟨R4, S4, fun _ _ _ _ _ _ _ _ _ z => z.elim⟩
      refine runT A4 q4 fun W5 s5 H5 b l5 A5 q5 => ?_
      have l25 := l3.trans (l4.trans l5)
      cases b with
      | false => exact ⟨W5, acc, vs, s5, f2.trans l25.f, fun n a z => l25.i n a (i2 n a z), l25.g.trans g2, A5.r, D2.le l25, by omega, q5⟩
      | true =>
        refine runE A5 q5 fun W6 s6 H6 v6 d6 l6 A6 D6 q6 => ?_
        have l26 := l25.trans l6
        have hG : W6.G D = some (.lst vs) := by rw [l26.g, g2]; exact upd_same
        refine ⟨vs, A6.r.gh.at_ hG, ?_, W6.gd D (.lst (vs ++ [v6])), acc ++ [d6], vs ++ [v6], s6, f2.trans l26.f, fun n a z => l26.i n a (i2 n a z), ?_, A6.r.reguard hG, ?_, ?_, q6⟩
        · rw [D2.len]
          exact Nat.lt_of_lt_of_le (Nat.lt_of_le_of_lt la (Nat.lt_of_lt_of_le hlt hlen)) (by decide)
        · show upd W6.G D _ = _
          rw [l26.g, g2, upd_upd]
        · exact ((D2.le l26).app (.cons D6 .nil)).mono (W := W6) (W' := W6.gd D (.lst (vs ++ [v6]))) (Same.refl _) (fun _ _ z => z)
        · rw [List.length_append, List.length_singleton]; omega
    · have e : i = xs.length := by omega
      subst e
      refine .inl ⟨hJ.stop W2 s2 H2 f2 i2 R2 gd2, ?_⟩
      have hG : W2.G D = some (.lst vs) := by rw [g2]; exact upd_same
      have gD : W1.G D = none := R1.gnone hD
      have hsm : Same W1.G W2.G := by rw [g2]; exact Same.new gD
      rcases hd acc s2 p with q | q
      · have R3 := R2.unguardF hG hsm gD
        exact k (W2.uf D (.lst vs) W1.G) _ _ _ _ (l.trans ⟨f2.trans (Same.new (R2.fg D _ hG)), i2, rfl⟩) R3 (.lst upd_same (D2.mono (W := W2) (W' := W2.uf D (.lst vs) W1.G) (Same.new (R2.fg D _ hG)) fun _ _ z => z)) q
      · obtain ⟨n, h1, h2⟩ := R2.fresh
        have R3 := R2.unguardS (o := .lst acc) hG hsm gD h1 ⟨vs, R2.gh.at_ hG, D2.le (Wd.nw_le h1)⟩
        exact k (W2.us n D W1.G) _ _ _ _ (l.trans ⟨f2, fun m a z => (Wd.nw_le h1).i m a (i2 m a z), rfl⟩) R3 (.ref Wd.nw_at) (q n h2)⟩
theorem d_lc {elt tg iter : Expr} {ifs : List Expr} {scope : Scope} {own : List (Str × Nat)} {pos : Pos} {wi : TId} {g : TGd} {is : List Nat} {tt : TTd} {te : TEd} (hc : X.calm = true) (hN : X.N.Nodup) (hi : PI X tg iter (canI K E wi)) (ok : BlkOk X.N X.env.scope scope own) (hsub : ∀ i ∈ is, i ∈ own.map (·.2))
    (hg : ∀ (s : Shared) (H : Hp) (C : Addr) (cl : List (Str × Addr)) (fp : List Addr), PG (X.blk s H scope (compEnvC scope cl C X.env) fp) tg (canG K E0c is g)) (ht : ∀ (s : Shared) (H : Hp) (C : Addr) (cl : List (Str × Addr)) (fp : List Addr), PTs (X.blk s H scope (compEnvC scope cl C X.env) fp) ifs (canT K E0c tt))
    (he : ∀ (s : Shared) (H : Hp) (C : Addr) (cl : List (Str × Addr)) (fp : List Addr), PE (X.blk s H scope (compEnvC scope cl C X.env) fp) elt (canE K E0c te)) (hs : ∀ x, foldedSetIterable iter X.env x = pure x := by intro _; rfl) :
    PE X (.ListComp elt [⟨tg, iter, ifs, 0⟩] scope pos) (canE K E (dLcE wi g tt te (own.map (·.2)))) :=
  peI (pe_lc hc hN hi ok hg ht he hs) fun A h k => lc_can hsub A h k
theorem ds_setLc {i : Nat} {y : Str} {py : Pos} {elt tg iter : Expr} {ifs : List Expr} {scope : Scope} {own : List (Str × Nat)} {pos spos : Pos} {wi : TId} {g : TGd} {is : List Nat} {tt : TTd} {te : TEd} (hc : X.calm = true) (hN : X.N.Nodup) (hy : X.N[i]? = some y) (hyl : X.env.scope.names.lookup y = some .local)
    (hsw : swapsWith (.ListComp elt [⟨tg, iter, ifs, 0⟩] scope pos) (some (.Name y py)) spos.line X.env = pure true) (hi : PI X tg iter (canI K E wi)) (ok : BlkOk X.N X.env.scope scope own) (hsub : ∀ i ∈ is, i ∈ own.map (·.2))
    (hg : ∀ (s : Shared) (H : Hp) (C : Addr) (cl : List (Str × Addr)) (fp : List Addr), PG (X.blk s H scope (compEnvC scope cl C X.env) fp) tg (canG K E0c is g)) (ht : ∀ (s : Shared) (H : Hp) (C : Addr) (cl : List (Str × Addr)) (fp : List Addr), PTs (X.blk s H scope (compEnvC scope cl C X.env) fp) ifs (canT K E0c tt))
    (he : ∀ (s : Shared) (H : Hp) (C : Addr) (cl : List (Str × Addr)) (fp : List Addr), PE (X.blk s H scope (compEnvC scope cl C X.env) fp) elt (canE K E0c te)) (hs : ∀ x, foldedSetIterable iter X.env x = pure x := by intro _; rfl) :
    PS X (.Assign [.Name y py] (.ListComp elt [⟨tg, iter, ifs, 0⟩] scope pos) spos) (canS K E (dAsg (dLcE wi g tt te (own.map (·.2))) (gNm i))) :=
  psI (ps_setLc hc hN hy hyl hsw hi ok hg ht he hs) fun R S N q => lc_can hsub (N.at_ R S) q fun W1 s1 H1 v d l R1 D q1 => N.nx _ _ _ _ _ l R1 ((S.le l).set D) q1
/-- without any test -/
def dYes : TTd := fun _ _ st Q => Q true st
theorem dts_nil : PTs X [] (canT K E dYes) := ⟨fun pins s σ H Q I ⟨W, sl, st, ex, Qd, A, h, k⟩ => pts_nil.run pins s σ H Q I (k _ _ _ _ (Wd.Le.refl _) A.r h)⟩
theorem dts_one {c : Expr} {t : TTd} (h : PT X c (canT K E t)) : PTs X [c] (canT K E t) := pts_one h
end
end Kn

set_option Elab.async false
set_option linter.all false
set_option maxRecDepth 100000
set_option maxHeartbeats 2000000
namespace Kn
open PySem PySem.Spec PyProof.Rows L2
/-! ## a def, from its body -/
def startD (N : List Str) (ds : List DV) : Sl := ds.map some ++ List.replicate (N.length - ds.length) none
def Sub (a b : Sto) : Prop := ∀ n o, a n = some o → b n = some o
theorem Sub.refl (a : Sto) : Sub a a := fun _ _ h => h
/-- the ends of a def's body -/
abbrev endsD (Q : KD) (X : KX) : Endd where
  nx := fun _ s => ∃ d' s2, Gv .non s d' s2 ∧ Q d' s2
  rt := Q
  ex := fun x _ s => ∃ s2, Sub s2 s ∧ X x s2
/-- a well may be opened at the start -/
def Opn (st : Sto) (Q : Sto → Prop) : Prop := Q st ∨ ∃ n, st n = some .well ∧ ∀ i j k : Int, Q (sset st n (.lst [.int i, .int j, .int k]))
theorem start_slr {K : PySem.W.Frag} {W : Wd} {N : List Str} {vs : List V} {ds : List DV} (D : DvAll K W vs ds) : SlR K W (startD N ds) (L2.start N vs) := by
  unfold startD L2.start
  refine ⟨by rw [List.length_append, List.length_append, List.length_map, List.length_map, List.length_replicate, List.length_replicate, D.len], fun i d e => ?_⟩
  by_cases hi : i < ds.length
  · rw [List.getElem?_append_left (by rw [List.length_map]; exact hi), List.getElem?_map] at e
    obtain ⟨d', h1, h2⟩ := Option.map_eq_some_iff.mp e
    injection h2 with h2
    subst h2
    obtain ⟨v, h3, h4⟩ := D.get h1
    exact ⟨v, by rw [List.getElem?_append_left (by rw [List.length_map, D.len]; exact hi), List.getElem?_map, h3]; rfl, h4⟩
  · rw [List.getElem?_append_right (by rw [List.length_map]; omega), List.getElem?_replicate] at e
    split at e
    · injection e with e; cases e
    · cases e
section
variable {w : World} {P : Program} {mg : Str → Option Value} {K : PySem.W.Frag} {base : Heap}
theorem mkOkD {x qual : Str} {q : Str × Option Str} {params : Arguments} {body : List Stmt} {scope : Scope} {N ps : List Str} {k : Nat} {sp : Spd}
    (h : ∃ fd, FunD K x qual params body scope [] [] (He.fAd K q) fd) (S : FnScope N ps scope) (len : ∀ ds st Q E, sp ds st Q E → ds.length = ps.length)
    (b : ∀ (kV doc pm : Value) (an : Option Addr) (cdv ct : Value) (us : List Value), us.length = ps.length → bindArgs (PySem.W.fnOf x qual params body scope .none kV doc pm an cdv ct) ⟨us, []⟩ = pure (ps.zip us))
    (hbody : ∀ (cdv : Value) (A : Around) (outer : List Env) (s : Shared) (H : Hp) (E : XK), Room k (A.deeper (envOfC qual scope s.heap.objs.size (He.fAd K q) cdv)) → ∀ ds st Qd Ed, sp ds st Qd Ed →
      ∃ t, PSs (cxOf (L2.CX P w) P w K mg base N qual scope (He.fAd K q) cdv A outer s H E) body (canS K (fun _ => E) t) ∧ Opn st fun st => t (endsD Qd Ed) (startD N ds) st) :
    DefOk P w K mg base (k + 1) q ps (spOf K sp) := by
  refine mkOk h S (fun vs H Q E ⟨W, st, ds, Qd, Ed, R, D, hs, _⟩ => D.len.trans (len ds st Qd Ed hs)) b fun cdv A outer s H vs Q E hr ⟨W, st, ds, Qd, Ed, R, D, hs, kq, ke⟩ => ?_
  obtain ⟨t, p, q⟩ := hbody cdv A outer s H E hr ds st Qd Ed hs
  have key : ∃ st', Rl K W st' H ∧ t (endsD Qd Ed) (startD N ds) st' := by
    rcases q with q | ⟨n, hn, q⟩
    · exact ⟨st, R, q⟩
    · obtain ⟨i, j, k, R2⟩ := R.untie hn
      exact ⟨_, R2, q i j k⟩
  obtain ⟨st', R', q⟩ := key
  refine ⟨_, p, W, startD N ds, st', endsD Qd Ed, R', start_slr D, ⟨?_, kq, ?_, fun _ _ _ _ _ _ _ _ z => z.elim, fun _ _ _ _ _ _ _ _ z => z.elim⟩, q⟩
  · rintro W1 sl1 s1 σ1 H1 l R1 S1 ⟨d', s2, g, q⟩
    obtain ⟨W2, l2, R2, D2⟩ := Rl.gv g R1 .non
    have e : ∀ {d st d' st'}, Gv d st d' st' → d = .non → d' = .non := fun {d st d' st'} g => by
      induction g with
      | refl => exact id
      | lst _ _ _ => intro z; cases z
      | dct _ _ _ => intro z; cases z
      | ins _ _ _ => intro z; cases z
      | del _ ih => exact ih
      | sub _ _ ih => exact ih
      | well _ _ ih => exact ih
    have e2 := e g rfl
    subst e2
    exact kq _ _ _ _ _ (l.trans l2) R2 .non q
  · rintro W1 sl1 s1 σ1 H1 cls d x l R1 S1 xr ⟨s2, sb, q⟩
    exact ke _ _ _ _ _ _ l (R1.sub sb) xr q
end
/-! ## calls -/
section
variable {X : Cx} {x m : Str} {e o : Expr} {es : List Expr} {t : TA} {p pos apos : Pos} {k : Nat} {ps : List Str} {sp : Sp} {E : L2.St → XK}
theorem kc0S (G : DefOk X.prog X.w X.K X.mg X.base k (x, none) ps sp) (hm : X.mg x = some (.ref (He.ga X.K x))) (hr : Room k X.A) (hx : ∀ σ, PassesAt (L2.CX X.prog X.w) X σ (E σ)) (hg : Gl X x := by rfl)
    (hdb : (x == ("__debug__" : Str)) = false := by decide) : PE X (.Call (.Name x p) [] [] pos) (tCallS sp E tNil) := by
  obtain ⟨⟨fd, F, b, _⟩, kp⟩ := G
  refine ⟨fun pins s σ H Q I h => ?_⟩
  refine wpAny_Call_Name_kw (ld_glob I hg hm ?_ hdb)
  exact PySem.W.callWith_K0 I.kIn kp (run_fnS (us := []) F hr b (hx σ) I .nil h)
end
/-- the instance's class and the names of its fields -/
def insOf (st : Sto) : DV → Option (Addr × List Str × List DV)
  | .ins C ns ds => some (C, ns, ds)
  | .ref n => match st n with | some (.ins C ns ds) => some (C, ns, ds) | _ => none
  | _ => none
def NewI (n : Nat) (st : Sto) (Q : KD) : Prop := Q (.ref n) st ∨ ∃ C ns ds, st n = some (.ins C ns ds) ∧ Q (.ins C ns ds) (sdel st n)
def dMake (C : Addr) (sp : Spd) (t : TAd) : TEd := fun ex sl st Q => t ex sl st fun ds s1 => ∀ n, s1 n = none → sp (.ref n :: ds) (sset s1 n (.ins C [] [])) (fun v s2 => v = .non ∧ NewI n s2 Q) fun x s2 => ex x (sdel s2 n)
def dMethE (cs : Addr → Spd → Prop) (m : Str) (ta : TEd) (t : TAd) : TEd := fun ex sl st Q => ta ex sl st fun d s1 => ∃ C ns fs sp, insOf s1 d = some (C, ns, fs) ∧ cs C sp ∧ (ns.all fun f => !(f == m)) = true ∧ t ex sl s1 fun ds s2 => sp (d :: ds) s2 Q ex
def dFld (ta : TEd) (f : Str) : TEd := fun ex sl st Q => ta ex sl st fun d s1 => ∃ C ns ds v, insOf s1 d = some (C, ns, ds) ∧ (ns.zip ds).lookup f = some v ∧ Q v s1
def putN (ns : List Str) (f : Str) : List Str := if f ∈ ns then ns else ns ++ [f]
def putD (ns : List Str) (ds : List DV) (f : Str) (d : DV) : List DV := if f ∈ ns then ds.set (ns.idxOf f) d else ds ++ [d]
def dSFld (K : PySem.W.Frag) (ta tv : TEd) (f : Str) : TSd := fun D sl st => tv (fun x s => D.ex x sl s) sl st fun v s1 => ta (fun x s => D.ex x sl s) sl s1 fun d s2 => ∃ n C ns ds, d = .ref n ∧ s2 n = some (.ins C ns ds) ∧ NoAttr K C f ∧ ns.length < 999 ∧ D.nx sl (sset s2 n (.ins C (putN ns f) (putD ns ds f v)))
theorem look_none {f : Str} : ∀ {fs : List (Str × V)}, ((fs.map (·.1)).all fun g => !(g == f)) = true → fs.lookup f = none
  | [], _ => rfl
  | (g, z) :: r, h => by
    have h2 : (!(g == f) && (r.map (·.1)).all fun q => !(q == f)) = true := h
    obtain ⟨h3, h4⟩ := He.ba h2
    have hg : (f == g) = false := by
      cases q : f == g with
      | false => rfl
      | true =>
        have := eq_of_beq q
        subst this
        simp at h3
    rw [List.lookup_cons, hg]
    exact look_none h4
theorem putF_keys {f : Str} {v : V} : ∀ (fs : List (Str × V)), (putF f v fs).map (·.1) = putN (fs.map (·.1)) f
  | [] => rfl
  | (g, z) :: r => by
    have ih := putF_keys (f := f) (v := v) r
    unfold putN at ih ⊢
    show (if g = f then (g, v) :: r else (g, z) :: putF f v r).map (·.1) = _
    by_cases e : g = f
    · subst e
      simp
    · have e' : ¬ f = g := fun z => e z.symm
      rw [if_neg e]
      simp only [List.map_cons, List.mem_cons, e', false_or]
      rw [ih]
      by_cases h : f ∈ r.map (·.1)
      · rw [if_pos h, if_pos h]
      · rw [if_neg h, if_neg h]; rfl
theorem putF_vals {K : PySem.W.Frag} {W : Wd} {f : Str} {v : V} {d : DV} (D : Dv K W v d) : ∀ {fs : List (Str × V)} {ds : List DV}, DvAll K W (fs.map (·.2)) ds → DvAll K W ((putF f v fs).map (·.2)) (putD (fs.map (·.1)) ds f d)
  | [], _, .nil => .cons D .nil
  | (g, z) :: r, _, .cons h1 h2 => by
    have ih := putF_vals (f := f) D (fs := r) h2
    unfold putD at ih ⊢
    show DvAll K W ((if g = f then (g, v) :: r else (g, z) :: putF f v r).map (·.2)) _
    by_cases e : g = f
    · subst e
      rw [if_pos rfl, if_pos (by simp)]
      simp only [List.map_cons, List.idxOf_cons_self, List.set_cons_zero]
      exact .cons D h2
    · have e' : ¬ f = g := fun z => e z.symm
      rw [if_neg e]
      have eb : (g == f) = false := beq_eq_false_iff_ne.mpr e
      simp only [List.map_cons, List.mem_cons, e', false_or]
      by_cases h : f ∈ r.map (·.1)
      · rw [if_pos h] at ih ⊢
        rw [List.idxOf_cons, eb]
        exact .cons h1 ih
      · rw [if_neg h] at ih ⊢
        exact .cons h1 ih
section
variable {K : PySem.W.Frag} {E : EK} {X : Cx} {W W' : Wd} {sl : Sl} {st st' : Sto} {σ : L2.St} {H H' : Hp} {ex : KX} {e o : Expr} {es : List Expr} {ta tb : TEd} {tl : TAd} {pos apos p : Pos} {k : Nat} {ps : List Str} {x m f : Str} {sp : Spd}
theorem d_call0 (tk : Tk X E) (G : DefOk X.prog X.w X.K X.mg X.base k (x, none) ps (spOf K sp)) (hm : X.mg x = some (.ref (He.ga X.K x))) (hr : Room k X.A) (hg : Gl X x := by rfl)
    (hdb : (x == ("__debug__" : Str)) = false := by decide) : PE X (.Call (.Name x p) [] [] pos) (canE K E (dCall sp dNil)) :=
  peI (kc0S (E := E) G hm hr (fun σ => passAt tk σ) hg hdb) fun {σ H Q W sl st ex Qd} A h k => ⟨W, st, [], _, _, A.r, .nil, h, fun W2 s2 H2 v d l2 => k W2 s2 H2 v d l2, fun W2 s2 H2 c d x l2 R2 xr q => A.x W2 s2 H2 c d x l2 R2 xr q⟩
theorem d_make {ik : Str} (tk : Tk X E) (hK : X.K = K) (M : Mk K (He.ga K x) (He.ma K (He.ga K x) "__init__")) (hc : Cls K (He.ga K x)) (hi : InsK K (He.ga K x)) (G : DefOk X.prog X.w X.K X.mg X.base k (x, some "__init__") ps (spOf K sp)) (hm : X.mg x = some (.ref (He.ga X.K x))) (hr : Room (k + 1) X.A)
    (ha : PA X (e :: es) (canA K E tl)) (hg : Gl X x := by rfl) (hdb : (x == ("__debug__" : Str)) = false := by decide)
    (he : starEach (e :: es) X.env = (false, eval e X.env) :: starEach es X.env := by rfl) (hpl : (backTo pos (starEach es X.env)).any (·.1) = false := by rfl) :
    PE X (.Call (.Name x p) (e :: es) [] pos) (canE K E (dMake (He.ga K x) sp tl)) := by
  subst hK
  refine peI (kmkS (E := E) (ik := ik) M G hm hr (fun σ => passAt tk σ) ha hg hdb he hpl) fun A h k => runA A h fun W1 s1 H1 vs ds l1 A1 D1 q => ?_
  intro y dx hy hdx hne
  obtain ⟨n, h1, h2⟩ := A1.r.fresh
  have hy2 : upd H1 dx (.own y) y = none := by rw [upd_ne hne.symm]; exact hy
  have R2 := (A1.r.same (Same.new (o := .own y) hdx)).alloc (u := .ins (He.ga X.K x) dx []) (o := .ins (He.ga X.K x) [] []) h1 hy2 ⟨dx, [], upd_same, ⟨hc, hi, fun _ z => nomatch z⟩, rfl, .nil⟩
  have l2 := Wd.nw_le (p := y) h1
  refine ⟨_, _, _, _, _, R2, .cons (.ref Wd.nw_at) (D1.le l2), q n h2, fun W3 s3 H3 v d l3 R3 D3 ⟨e, nq⟩ => ?_, fun W3 s3 H3 c d x l3 R3 xr q => A1.x W3 _ H3 c d x (l2.trans l3) (R3.sub sub_del) xr q⟩
  subst e
  refine ⟨by cases D3; rfl, ?_⟩
  have ha : W3.ι n = some y := l3.i _ _ Wd.nw_at
  rcases nq with q | ⟨C, ns, ds', e, q⟩
  · exact k _ _ _ _ _ (l1.trans (l2.trans l3)) R3 (.ref ha) q
  · obtain ⟨a', g1, g2, dx', fs, g3, gc, g4, g5⟩ := R3.ob _ _ e
    rw [ha] at g1; injection g1 with g1; subst g1
    exact k _ _ _ _ _ ((l1.trans (l2.trans l3)).trans (Wd.fz_le g2)) (R3.frz e ha g3) (.ins upd_same gc g4 (g5.le (Wd.fz_le g2))) q
theorem dv_ins {v : V} {d : DV} {C : Addr} {ns : List Str} {ds : List DV} (R : Rl K W st H) (D : Dv K W v d) (h : insOf st d = some (C, ns, ds)) : ∃ a dx fs, v = .ref a ∧ H a = some (.ins C dx fs) ∧ CIn K C ns ∧ fs.map (·.1) = ns ∧ DvAll K W (fs.map (·.2)) ds := by
  cases D with
  | ins h1 hc h2 h3 => injection h with h; injection h with e1 h; injection h with e2 e3; subst e1 e2 e3; exact ⟨_, _, _, rfl, R.fh.at_ h1, hc, h2, h3⟩
  | ref ha =>
    rename_i n
    unfold insOf at h
    cases e : st n with
    | none => simp only [e] at h; cases h
    | some o =>
      simp only [e] at h
      cases o with
      | ins C' ns' ds' =>
        injection h with h; injection h with e1 h; injection h with e2 e3
        subst e1 e2 e3
        obtain ⟨a, h1, h2, dx, fs, h3, hc, h4, h5⟩ := R.ob _ _ e
        rw [ha] at h1; injection h1 with h1; subst h1
        exact ⟨_, _, _, rfl, h3, hc, h4, h5⟩
      | _ => cases h
  | _ => cases h
theorem d_fld (hK : X.K = K) (ha : PE X e (canE K E ta)) (hb : attributeBase e f X.env (eval e X.env) = eval e X.env) : PE X (.Attribute e f pos) (canE K E (dFld ta f)) :=
  peI (fldK K hK ha hb) fun A h k => runE A h fun W1 s1 H1 v d l A1 D ⟨C, ns, ds, y, hi, hl, q⟩ => by
    obtain ⟨a, dx, fs, rfl, h1, hc, h2, h3⟩ := dv_ins A1.r D hi
    obtain ⟨z, h4, h5⟩ := h3.lookup h2 hl
    have hm : f ∈ ns := by
      have : f ∈ (ns.zip ds).map (·.1) := by
        have gen : ∀ {l : List (Str × DV)} {y : DV}, l.lookup f = some y → f ∈ l.map (·.1) := fun {l} => by
          induction l with
          | nil => intro y h; cases h
          | cons p r ih =>
            intro y h
            rw [List.lookup_cons] at h
            cases z : f == p.1 with
            | true => rw [eq_of_beq z]; exact List.mem_cons_self ..
            | false => rw [z] at h; exact List.mem_cons_of_mem _ (ih h)
        exact gen hl
      obtain ⟨⟨a1, b1⟩, m1, m2⟩ := List.mem_map.mp this
      rw [← m2]
      exact (List.of_mem_zip m1).1
    exact ⟨a, C, dx, fs, z, rfl, h1, hc.c, hc.n f hm, h4, k _ _ _ _ _ l A1.r h5 q⟩
theorem ds_fld {value : Expr} {pos' : Pos} (hK : X.K = K) (ha : PE X o (canE K E ta)) (hv : PE X value (canE K E tb)) (hs : swapsWith value (some (.Attribute o f pos')) pos.line X.env = pure false) : PS X (.Assign [.Attribute o f pos'] value pos) (canS K E (dSFld K ta tb f)) :=
  psI (psfK K hK ha hv hs) fun R S N q => runE (N.at_ R S) q fun W1 s1 H1 v d l1 A1 D1 q1 => runE A1 q1 fun W2 s2 H2 v2 d2 l2 A2 D2 ⟨n, C, ns, ds, ed, e, hn, hl, q2⟩ => by
    subst ed
    obtain ⟨a, dx, fs, e1, h1, hc, h2, h3⟩ := dv_ins A2.r D2 (show insOf s2 (.ref n) = some (C, ns, ds) from by show (match s2 n with | some (.ins C ns ds) => some (C, ns, ds) | _ => none) = _; rw [e])
    subst e1
    cases D2 with
    | ref ha =>
      have hl' : fs.length < 999 := by
        have : fs.length = ns.length := by rw [← h2, List.length_map]
        omega
      refine ⟨a, C, dx, fs, rfl, h1, hc.c, hn, by omega, ?_⟩
      refine N.nx _ _ _ _ _ (l1.trans l2) (A2.r.put (o' := .ins C (putN ns f) (putD ns ds f d)) e ha ⟨dx, putF f v fs, upd_same, ⟨hc.c, hc.i, ?_⟩, by rw [putF_keys, h2], ?_⟩) (A2.s) q2
      · intro g hg
        unfold putN at hg
        split at hg
        · exact hc.n g hg
        · rcases List.mem_append.mp hg with hg | hg
          · exact hc.n g hg
          · rw [List.mem_singleton.mp hg]; exact hn
      · rw [← h2]
        exact putF_vals (D1.le l2) h3
theorem d_meth {pl : Sem Bool} {cs : Addr → Spd → Prop} (tk : Tk X E) (hK : X.K = K) (he : PE X o (canE K E ta)) (hw : ∀ C sp, cs C sp → Way X.prog X.w K X.mg X.base k m C (spOf K sp)) (hr : Room k X.A) (ha : PA X (e :: es) (canA K E tl))
    (hst : starEach (e :: es) X.env = (false, eval e X.env) :: starEach es X.env := by rfl) (hpl : (backTo pos (starEach es X.env)).any (·.1) = false := by rfl)
    (ht : eval (.Call (.Attribute o m apos) (e :: es) [] pos) X.env = (eval o X.env >>= fun ov => standAt apos.atName >>= fun _ => holding [ov] (getMethod ov m pl) >>= fun z => callWith pos z.1 z.2 (backTo pos (starEach (e :: es) X.env)) (backToKw pos (keywordEach [] X.env))) := by rfl) :
    PE X (.Call (.Attribute o m apos) (e :: es) [] pos) (canE K E (dMethE cs m ta tl)) := by
  subst hK
  refine peI (kmeS (E := E) (cs := fun C sp => ∃ s, cs C s ∧ sp = spOf X.K s) (k := k) he (fun C sp ⟨s, h1, h2⟩ => h2 ▸ hw C s h1) hr (fun σ => passAt tk σ) ha hst hpl ht) fun A h k => runE A h fun W1 s1 H1 v d l1 A1 D ⟨C, ns, ds, sp, hi, hc, hm, q⟩ => ?_
  obtain ⟨a, dx, fs, rfl, h1, _, h2, h3⟩ := dv_ins A1.r D hi
  refine ⟨a, C, dx, fs, spOf X.K sp, rfl, h1, ⟨sp, hc, rfl⟩, look_none (h2 ▸ hm), runA A1 q fun W2 s2 H2 vs es l2 A2 D2 q2 => ?_⟩
  exact ⟨W2, s2, d :: es, _, _, A2.r, .cons (D.le l2) D2, q2, fun W3 s3 H3 v d l3 => k W3 s3 H3 v d (l1.trans (l2.trans l3)), fun W3 s3 H3 c d x l3 R3 xr q => A2.x W3 s3 H3 c d x l3 R3 xr q⟩
theorem d_meth0 {pl : Sem Bool} {cs : Addr → Spd → Prop} (tk : Tk X E) (hK : X.K = K) (he : PE X o (canE K E ta)) (hw : ∀ C sp, cs C sp → Way X.prog X.w K X.mg X.base k m C (spOf K sp)) (hr : Room k X.A)
    (ht : eval (.Call (.Attribute o m apos) [] [] pos) X.env = (eval o X.env >>= fun ov => standAt apos.atName >>= fun _ => holding [ov] (getMethod ov m pl) >>= fun z => callWith pos z.1 z.2 (backTo pos (starEach [] X.env)) (backToKw pos (keywordEach [] X.env))) := by rfl) :
    PE X (.Call (.Attribute o m apos) [] [] pos) (canE K E (dMethE cs m ta dNil)) := by
  subst hK
  refine peI (kme0S (E := E) (cs := fun C sp => ∃ s, cs C s ∧ sp = spOf X.K s) (k := k) he (fun C sp ⟨s, h1, h2⟩ => h2 ▸ hw C s h1) hr (fun σ => passAt tk σ) ht) fun A h k => runE A h fun W1 s1 H1 v d l1 A1 D ⟨C, ns, ds, sp, hi, hc, hm, q⟩ => ?_
  obtain ⟨a, dx, fs, rfl, h1, _, h2, h3⟩ := dv_ins A1.r D hi
  refine ⟨a, C, dx, fs, spOf X.K sp, rfl, h1, ⟨sp, hc, rfl⟩, look_none (h2 ▸ hm), ?_⟩
  exact ⟨W1, s1, [d], _, _, A1.r, .cons D .nil, q, fun W3 s3 H3 v d l3 => k W3 s3 H3 v d (l1.trans l3), fun W3 s3 H3 c d x l3 R3 xr q => A1.x W3 s3 H3 c d x l3 R3 xr q⟩
/-! ## raise, try -/
def dRaise (C : Addr) : TSd := fun D sl st => D.ex ⟨C, [], []⟩ sl st
theorem ds_raise {C : Addr} (hc : X.calm = true) (tk : Tk X E) (h : PMk X e fun _ H Q => Q (.ref C) none H) : PS X (.Raise (some e) none pos) (canS K E (dRaise C)) :=
  psI (ps_raise hc tk h) fun R S N q => N.ex _ _ _ _ _ _ _ _ (Wd.Le.refl _) R S ⟨rfl, fun _ => ⟨rfl, rfl⟩, fun z => (z rfl).elim⟩ q
/-- try: body, except c as (slot i): suite -/
abbrev sufD (i : Nat) (D : Endd) : Endd := { nx := fun sl2 s2 => D.nx (sl2.set i none) s2, rt := D.rt, ex := fun _ _ _ => False, bk := fun sl2 s2 => D.bk (sl2.set i none) s2, ct := fun sl2 s2 => D.ct (sl2.set i none) s2 }
def tryX (K : PySem.W.Frag) (c : Value) (i : Nat) (ts : Addr → Addr → TSd) (D : Endd) : XV → Sl → Sto → Prop := fun x sl s => ∃ b, PySem.W.exmOne K (.ref x.C) c = some b ∧ (b = true → x.ns = [] ∧ ∀ a, ts a x.C (sufD i D) (sl.set i (some (.adr a))) s) ∧ (b = false → D.ex x sl s)
def dTry (K : PySem.W.Frag) (c : Value) (i : Nat) (tb : TSd) (ts : Addr → Addr → TSd) : TSd := fun D sl st => tb { D with ex := tryX K c i ts D } sl st
theorem ds_try {n : Str} {c : Value} {i : Nat} {body suite : List Stmt} {b₀ : Stmt} {np pos' : Pos} {tb : TSd} {ts : Addr → Addr → TSd} (hK : X.K = K) (hs : X.stack = X.env :: X.outer) (hf : X.env.frame = some X.env.locals) (hN : X.N.Nodup) (hi : X.N[i]? = some n) (hln : X.env.kindOf n = some .local) (hc : Names X x c) (tk : Tk X E)
    (hb : ∀ (W : WX) (pn : List (Addr × Obj)) (xe : Value → Shared → Prop), Takes (X.tr pn xe) W → PassesOwn (model X.prog X.w) X.A X.env xe → PSs (X.tr pn xe) body (canS K (fun σ cls d H => W cls d σ H) tb))
    (hsu : ∀ (a C : Addr) (oe : Obj) (pn : List (Addr × Obj)), Zc (.ref C) none oe → (∃ vs, oe.data = .fields vs) → PSs (X.suite a ((a, oe) :: pn)) (b₀ :: suite) (canS K E0c (ts a C))) :
    PS X (.Try body [.ExceptHandler (some (.Name x np)) (some n) (b₀ :: suite) pos'] [] [] pos) (canS K E (dTry K c i tb ts)) := by
  subst hK
  refine psI (ps_try_as (Wout := fun cls d σ H => E σ cls d H) (tb := fun W => canS X.K (fun σ cls d H => W cls d σ H) tb) (ts := fun a cls d D σ H => ∃ C, cls = .ref C ∧ d = none ∧ canS X.K E0c (ts a C) D σ H) hs hf hN hi hln hc tk hb ?_) fun {D σ H W sl st Dd} R S N q => ?_
  · intro a oe cls d pn hz hv
    refine ⟨fun pins s σ H D I ⟨C, e1, e2, h⟩ => ?_⟩
    subst e1 e2
    exact (hsu a C oe pn hz hv).run pins s σ H D I h
  · refine ⟨W, sl, st, { Dd with ex := tryX X.K c i ts Dd }, R, S, ⟨N.nx, N.rt, ?_, N.bk, N.ct⟩, q⟩
    rintro W1 sl1 s1 σ1 H1 cls d ⟨C, ns, ds⟩ l R1 S1 ⟨e, x1, x2⟩ ⟨b, hb, hy, hn⟩
    have e : cls = .ref C := e
    subst e
    refine ⟨b, hb, fun e a ha => ?_, fun e => N.ex _ _ _ _ _ _ _ _ l R1 S1 ⟨rfl, x1, x2⟩ (hn e)⟩
    obtain ⟨en, q⟩ := hy e
    refine ⟨C, rfl, (x1 en).1, W1, _, s1, sufD i Dd, R1, S1.set (.adr a), ⟨?_, ?_, fun _ _ _ _ _ _ _ _ _ _ _ _ z => z.elim, ?_, ?_⟩, q a⟩
    · intro W2 sl2 s2 σ2 H2 l2 R2 S2 q2; exact N.nx _ _ _ _ _ (l.trans l2) R2 S2.unset q2
    · intro W2 s2 H2 v d l2 R2 D2 q2; exact N.rt _ _ _ _ _ (l.trans l2) R2 D2 q2
    · intro W2 sl2 s2 σ2 H2 l2 R2 S2 q2; exact N.bk _ _ _ _ _ (l.trans l2) R2 S2.unset q2
    · intro W2 sl2 s2 σ2 H2 l2 R2 S2 q2; exact N.ct _ _ _ _ _ (l.trans l2) R2 S2.unset q2
end
end Kn

set_option Elab.async false
set_option linter.all false
set_option maxRecDepth 100000
set_option maxHeartbeats 2000000
namespace Kn
open PySem PySem.Spec PyProof.Rows L2
/-! ## data as such -/
mutual
def py : DV → PyData
  | .non => .none
  | .bl b => .bool b
  | .int i => .int i
  | .str s => .str s
  | .tup ds => .tuple (pyL ds)
  | .lst ds => .list (pyL ds)
  | .scr ds => .list (pyL ds)
  | _ => .none
def pyL : List DV → List PyData
  | [] => []
  | d :: ds => py d :: pyL ds
end
theorem pyL_map : ∀ ds : List DV, pyL ds = ds.map py
  | [] => rfl
  | d :: ds => by simp only [pyL, List.map_cons, pyL_map ds]
/-- data of depth at most n: no instance, nothing of the store -/
def okD : Nat → DV → Bool
  | _, .non => true
  | _, .bl _ => true
  | _, .int _ => true
  | _, .str _ => true
  | n + 1, .tup ds => ds.all (okD n)
  | n + 1, .lst ds => ds.all (okD n)
  | n + 1, .scr ds => ds.all (okD n)
  | _, _ => false
theorem dp_all {K : PySem.W.Frag} {W : Wd} {H : Hp} {n : Nat} (ih : ∀ {d : DV} {v : V}, Dv K W v d → okD n d = true → Dp K H v (py d)) : ∀ {ds : List DV} {vs : List V}, DvAll K W vs ds → ds.all (okD n) = true → DpAll K H vs (pyL ds)
  | [], _, .nil, _ => .nil
  | d :: ds, _, .cons h1 h2, h => by
    obtain ⟨a, b⟩ := He.ba (show (okD n d && ds.all (okD n)) = true from h)
    exact .cons (ih h1 a) (dp_all ih h2 b)
theorem Dv.dp {K : PySem.W.Frag} {W : Wd} {H : Hp} (s : Same W.F H) : ∀ {n : Nat} {d : DV} {v : V}, Dv K W v d → okD n d = true → Dp K H v (py d) := by
  intro n
  induction n with
  | zero =>
    intro d v h ok
    cases h with
    | non => exact .non
    | bl b => exact .bl b
    | int i => exact .int i
    | str x hx => exact .str x
    | _ => cases ok
  | succ n ih =>
    intro d v h ok
    cases h with
    | non => exact .non
    | bl b => exact .bl b
    | int i => exact .int i
    | str x hx => exact .str x
    | tup h1 h2 => exact .tup (s.sqt h1) (dp_all ih h2 ok)
    | lst h1 h2 => exact .lst (SqL.of (s.at_ h1)) (dp_all ih h2 ok)
    | scr h1 h2 => exact .lst (s.seq h1) (dp_all ih h2 ok)
    | _ => cases ok
theorem lay_all {K : PySem.W.Frag} {W : Wd} {n : Nat} (ih : ∀ {d : DV} {v : V}, Dv K W v d → okD n d = true → (py d).canLay0 = true ∧ (py d).depth ≤ n + 1) : ∀ {ds : List DV} {vs : List V}, DvAll K W vs ds → ds.all (okD n) = true → PyData.canLayAll0 (pyL ds) = true ∧ PyData.depthAll (pyL ds) ≤ n + 1
  | [], _, .nil, _ => ⟨rfl, Nat.zero_le _⟩
  | d :: ds, _, .cons h1 h2, h => by
    obtain ⟨a, b⟩ := He.ba (show (okD n d && ds.all (okD n)) = true from h)
    obtain ⟨a1, a2⟩ := ih h1 a
    obtain ⟨b1, b2⟩ := lay_all ih h2 b
    refine ⟨?_, ?_⟩
    · simp only [pyL, PyData.canLayAll0, a1, b1, Bool.and_self]
    · simp only [pyL, PyData.depthAll]
      exact Nat.max_le.mpr ⟨a2, b2⟩
theorem Dv.lay {K : PySem.W.Frag} {W : Wd} : ∀ {n : Nat} {d : DV} {v : V}, Dv K W v d → okD n d = true → (py d).canLay0 = true ∧ (py d).depth ≤ n + 1 := by
  intro n
  induction n with
  | zero =>
    intro d v h ok
    cases h with
    | non => exact ⟨rfl, by simp [py, PyData.depth]⟩
    | bl b => exact ⟨rfl, by simp [py, PyData.depth]⟩
    | int i => exact ⟨rfl, by simp [py, PyData.depth]⟩
    | str x hx => exact ⟨by simpa only [py, PyData.canLay0] using hx.1, by simp [py, PyData.depth]⟩
    | _ => cases ok
  | succ n ih =>
    intro d v h ok
    cases h with
    | non => exact ⟨rfl, by simp [py, PyData.depth]⟩
    | bl b => exact ⟨rfl, by simp [py, PyData.depth]⟩
    | int i => exact ⟨rfl, by simp [py, PyData.depth]⟩
    | str x hx => exact ⟨by simpa only [py, PyData.canLay0] using hx.1, by simp [py, PyData.depth]⟩
    | tup h1 h2 =>
      obtain ⟨a, b⟩ := lay_all ih h2 ok
      exact ⟨by simpa only [py, PyData.canLay0] using a, by simp only [py, PyData.depth]; omega⟩
    | lst h1 h2 =>
      obtain ⟨a, b⟩ := lay_all ih h2 ok
      exact ⟨by simpa only [py, PyData.canLay0] using a, by simp only [py, PyData.depth]; omega⟩
    | scr h1 h2 =>
      obtain ⟨a, b⟩ := lay_all ih h2 ok
      exact ⟨by simpa only [py, PyData.canLay0] using a, by simp only [py, PyData.depth]; omega⟩
    | _ => cases ok
theorem Dv.shaped {K : PySem.W.Frag} {W : Wd} {n : Nat} {d : DV} {v : V} (h : Dv K W v d) (ok : okD n d = true) (hn : n ≤ 60) : SeqAt.shaped (py d) = true := by
  obtain ⟨a, b⟩ := h.lay ok
  exact Bool.and_eq_true_iff.mpr ⟨a, decide_eq_true (by omega)⟩
def deq (x y : DV) : Bool := PyData.eqv (py x) (py y)
/-- a list of the store is read as it stands -/
def vw (st : Sto) : DV → DV
  | .ref n => match st n with | some (.lst ds) => .lst ds | _ => .ref n
  | d => d
section
variable {K : PySem.W.Frag} {E : EK} {X : Cx} {W W' : Wd} {sl : Sl} {st st' : Sto} {σ : L2.St} {H H' : Hp} {ex : KX}
theorem vw_dp {n : Nat} {v : V} {d : DV} (R : Rl K W st H) (D : Dv K W v d) (ok : okD n (vw st d) = true) (hn : n ≤ 60) : Dp K H v (py (vw st d)) ∧ SeqAt.shaped (py (vw st d)) = true := by
  cases D with
  | ref ha =>
    rename_i a m
    cases e : st m with
    | none => rw [show vw st (.ref m) = .ref m from by show (match st m with | some (.lst ds) => DV.lst ds | _ => .ref m) = _; rw [e]] at ok; cases n <;> cases ok
    | some o =>
      cases o with
      | lst ds =>
        have ev : vw st (.ref m) = .lst ds := by show (match st m with | some (.lst ds) => DV.lst ds | _ => .ref m) = _; rw [e]
        rw [ev] at ok ⊢
        obtain ⟨a', g1, g2, vs, g3, g4⟩ := R.ob _ _ e
        rw [ha] at g1; injection g1 with g1; subst g1
        have R2 := R.frz e ha g3
        have D2 : Dv K (W.fz a (.lst vs)) (.ref a) (.lst ds) := .lst upd_same (g4.le (Wd.fz_le g2))
        exact ⟨D2.dp R2.fh ok, D2.shaped ok hn⟩
      | _ => rw [show vw st (.ref m) = .ref m from by show (match st m with | some (.lst ds) => DV.lst ds | _ => .ref m) = _; rw [e]] at ok; cases n <;> cases ok
  | non => exact ⟨.non, Dv.shaped (K := K) (W := W) .non ok hn⟩
  | bl b => exact ⟨.bl b, Dv.shaped (K := K) (W := W) (.bl b) ok hn⟩
  | int i => exact ⟨.int i, Dv.shaped (K := K) (W := W) (.int i) ok hn⟩
  | str x hx => exact ⟨.str x, Dv.shaped (K := K) (W := W) (.str x hx) ok hn⟩
  | tup h1 h2 => exact ⟨Dv.dp R.fh (.tup h1 h2) ok, Dv.shaped (Dv.tup h1 h2) ok hn⟩
  | lst h1 h2 => exact ⟨Dv.dp R.fh (.lst h1 h2) ok, Dv.shaped (Dv.lst h1 h2) ok hn⟩
  | scr h1 h2 => exact ⟨Dv.dp R.fh (.scr h1 h2) ok, Dv.shaped (Dv.scr h1 h2) ok hn⟩
  | dct _ _ _ => cases n <;> cases ok
  | ins _ _ _ _ => cases n <;> cases ok
  | adr _ => cases n <;> cases ok
  | ty _ => cases n <;> cases ok
/-! ## == != -/
def qEq : R2d := fun x y st Q => okD 60 (vw st x) = true ∧ okD 60 (vw st y) = true ∧ Q (.bl (deq (vw st x) (vw st y))) st
def qNe : R2d := fun x y st Q => okD 60 (vw st x) = true ∧ okD 60 (vw st y) = true ∧ Q (.bl (!deq (vw st x) (vw st y))) st
theorem kEqD {k : Nat} (hK : X.K = K) (hr : Room k X.A) : OpR X (compareOp .Eq) (canR K qEq) := opI (eqK K hK hr) fun R D1 D2 ⟨o1, o2, q⟩ k => by
  obtain ⟨a1, a2⟩ := vw_dp R D1 o1 (Nat.le_refl _)
  obtain ⟨b1, b2⟩ := vw_dp R D2 o2 (Nat.le_refl _)
  exact .inr ⟨_, _, a1, b1, a2, b2, k _ _ _ _ _ (Wd.Le.refl _) R (.bl _) q⟩
theorem kNeD {k : Nat} (hK : X.K = K) (hr : Room k X.A) : OpR X (compareOp .NotEq) (canR K qNe) := opI (neK K hK hr) fun R D1 D2 ⟨o1, o2, q⟩ k => by
  obtain ⟨a1, a2⟩ := vw_dp R D1 o1 (Nat.le_refl _)
  obtain ⟨b1, b2⟩ := vw_dp R D2 o2 (Nat.le_refl _)
  exact .inr ⟨_, _, a1, b1, a2, b2, k _ _ _ _ _ (Wd.Le.refl _) R (.bl _) q⟩
/-! ## in -/
def flatD : DV → Bool
  | .non => true
  | .bl _ => true
  | .int _ => true
  | .str _ => true
  | _ => false
def qInB (x y : DV) (st : Sto) (Q : Bool → Prop) : Prop :=
  (∃ ds, vw st y = .lst ds ∧ okD 59 (vw st x) = true ∧ ds.all (okD 59) = true ∧ Q (ds.any fun z => deq z (vw st x))) ∨
  (∃ ds, vw st y = .scr ds ∧ okD 59 (vw st x) = true ∧ ds.all (okD 59) = true ∧ Q (ds.any fun z => deq z (vw st x))) ∨
  (∃ ds, y = .tup ds ∧ flatD x = true ∧ ds.all flatD = true ∧ Q (ds.any fun z => deq z x)) ∨
  (∃ a b, x = .str a ∧ y = .str b ∧ Q (!(Builtin.Str.occurrences b a 0 b.length 1).isEmpty))
def qIn : R2d := fun x y st Q => qInB x y st fun b => Q (.bl b) st
def qNi : R2d := fun x y st Q => qInB x y st fun b => Q (.bl (!b)) st
theorem flat_v {v : V} {d : DV} (D : Dv K W v d) (h : flatD d = true) : flatV v = true := by
  cases D <;> first | rfl | cases h
theorem flat_all : ∀ {vs : List V} {ds : List DV}, DvAll K W vs ds → ds.all flatD = true → vs.all flatV = true
  | _, _, .nil, _ => rfl
  | _, _, .cons h1 h2, h => by
    obtain ⟨a, b⟩ := He.ba h
    show (_ && _) = true
    rw [flat_v h1 a]
    exact flat_all h2 b
theorem eqV_deq {v u : V} {d e : DV} (D1 : Dv K W v d) (D2 : Dv K W u e) (h1 : flatD d = true) (h2 : flatD e = true) : eqV v u = deq d e := by
  cases D1 <;> first | cases h1 | skip
  all_goals (cases D2 <;> first | cases h2 | skip)
  all_goals (simp [eqV, deq, py, PyData.eqv])
theorem inV_deq {v : V} {d : DV} (D : Dv K W v d) (h : flatD d = true) : ∀ {vs : List V} {ds : List DV}, DvAll K W vs ds → ds.all flatD = true → inV v vs = ds.any fun z => deq z d
  | _, _, .nil, _ => rfl
  | _, _, .cons h1 h2, hh => by
    obtain ⟨a, b⟩ := He.ba hh
    have ih := inV_deq D h h2 b
    unfold inV at ih ⊢
    rw [List.any_cons, List.any_cons, ih, eqV_deq h1 D a h]
theorem pyL_any {x : DV} : ∀ ds : List DV, ((pyL ds).any fun z => PyData.eqv z (py x)) = ds.any fun z => deq z x
  | [] => rfl
  | d :: ds => by
    simp only [pyL, List.any_cons, pyL_any ds]
    rfl
theorem kInD {k : Nat} (hK : X.K = K) (hr : Room k X.A) : OpR X (compareOp .In) (canR K qIn) := opI (inK K hK hr) fun R D1 D2 h k => by
  rcases h with ⟨ds, e, o1, o2, q⟩ | ⟨ds, e, o1, o2, q⟩ | ⟨ds, rfl, o1, o2, q⟩ | ⟨a, b, rfl, rfl, q⟩
  · obtain ⟨a1, a2⟩ := vw_dp R D1 o1 (by decide)
    obtain ⟨b1, b2⟩ := vw_dp R D2 (n := 60) (by rw [e]; exact o2) (by decide)
    rw [e] at b1 b2
    exact .inr (.inr ⟨_, pyL ds, a1, b1, a2, b2, k _ _ _ _ _ (Wd.Le.refl _) R (.bl _) (by rw [pyL_any]; exact q)⟩)
  · obtain ⟨a1, a2⟩ := vw_dp R D1 o1 (by decide)
    obtain ⟨b1, b2⟩ := vw_dp R D2 (n := 60) (by rw [e]; exact o2) (by decide)
    rw [e] at b1 b2
    exact .inr (.inr ⟨_, pyL ds, a1, b1, a2, b2, k _ _ _ _ _ (Wd.Le.refl _) R (.bl _) (by rw [pyL_any]; exact q)⟩)
  · cases D2 with
    | tup h1 h2 => exact .inl ⟨_, _, rfl, .inr (R.fh.sqt h1), flat_v D1 o1, flat_all h2 o2, k _ _ _ _ _ (Wd.Le.refl _) R (.bl _) (by rw [if_neg Bool.false_ne_true, inV_deq D1 o1 h2 o2]; exact q)⟩
  · obtain ⟨rfl, _⟩ := dvS D1
    obtain ⟨rfl, _⟩ := dvS D2
    exact .inr (.inl ⟨a, b, rfl, rfl, k _ _ _ _ _ (Wd.Le.refl _) R (.bl _) q⟩)
theorem kNiD {k : Nat} (hK : X.K = K) (hr : Room k X.A) : OpR X (compareOp .NotIn) (canR K qNi) := opI (niK K hK hr) fun R D1 D2 h k => by
  rcases h with ⟨ds, e, o1, o2, q⟩ | ⟨ds, e, o1, o2, q⟩ | ⟨ds, rfl, o1, o2, q⟩ | ⟨a, b, rfl, rfl, q⟩
  · obtain ⟨a1, a2⟩ := vw_dp R D1 o1 (by decide)
    obtain ⟨b1, b2⟩ := vw_dp R D2 (n := 60) (by rw [e]; exact o2) (by decide)
    rw [e] at b1 b2
    exact .inr (.inr ⟨_, pyL ds, a1, b1, a2, b2, k _ _ _ _ _ (Wd.Le.refl _) R (.bl _) (by rw [pyL_any]; exact q)⟩)
  · obtain ⟨a1, a2⟩ := vw_dp R D1 o1 (by decide)
    obtain ⟨b1, b2⟩ := vw_dp R D2 (n := 60) (by rw [e]; exact o2) (by decide)
    rw [e] at b1 b2
    exact .inr (.inr ⟨_, pyL ds, a1, b1, a2, b2, k _ _ _ _ _ (Wd.Le.refl _) R (.bl _) (by rw [pyL_any]; exact q)⟩)
  · cases D2 with
    | tup h1 h2 => exact .inl ⟨_, _, rfl, .inr (R.fh.sqt h1), flat_v D1 o1, flat_all h2 o2, k _ _ _ _ _ (Wd.Le.refl _) R (.bl _) (by rw [if_pos rfl, inV_deq D1 o1 h2 o2]; exact q)⟩
  · obtain ⟨rfl, _⟩ := dvS D1
    obtain ⟨rfl, _⟩ := dvS D2
    exact .inr (.inl ⟨a, b, rfl, rfl, k _ _ _ _ _ (Wd.Le.refl _) R (.bl _) q⟩)
/-! ## is None -/
def isN : DV → Bool
  | .non => true
  | _ => false
def qIs : R2d := fun x y st Q => y = .non ∧ Q (.bl (isN x)) st
def qIsNot : R2d := fun x y st Q => y = .non ∧ Q (.bl (!isN x)) st
theorem isN_v {v : V} {d : DV} (D : Dv K W v d) : decide (v = .non) = isN d := by cases D <;> simp [isN]
theorem kIsD : OpR X (compareOp .Is) (canR K qIs) := opI kIs fun R D1 D2 ⟨e, q⟩ k => by
  subst e
  refine ⟨dvN D2, ?_⟩
  rw [isN_v D1]
  exact k _ _ _ _ _ (Wd.Le.refl _) R (.bl _) q
theorem kIsNotD : OpR X (compareOp .IsNot) (canR K qIsNot) := opI kIsNot fun R D1 D2 ⟨e, q⟩ k => by
  subst e
  refine ⟨dvN D2, ?_⟩
  rw [isN_v D1]
  exact k _ _ _ _ _ (Wd.Le.refl _) R (.bl _) q
/-! ## numbers -/
def qII (g : Int → Int → DV) : R2d := fun x y st Q => ∃ i j, x = .int i ∧ y = .int j ∧ Q (g i j) st
def qIC (C : Int → Int → Prop) (g : Int → Int → DV) : R2d := fun x y st Q => ∃ i j, x = .int i ∧ y = .int j ∧ C i j ∧ Q (g i j) st
theorem kLtD : OpR X (compareOp .Lt) (canR K (qII fun i j => .bl (decide (i < j)))) := opI kLt fun R D1 D2 ⟨i, j, e1, e2, q⟩ k => by
  subst e1 e2; exact ⟨i, j, dvI D1, dvI D2, k _ _ _ _ _ (Wd.Le.refl _) R (.bl _) q⟩
theorem kLeD : OpR X (compareOp .LtE) (canR K (qII fun i j => .bl (decide (i ≤ j)))) := opI kLe fun R D1 D2 ⟨i, j, e1, e2, q⟩ k => by
  subst e1 e2; exact ⟨i, j, dvI D1, dvI D2, k _ _ _ _ _ (Wd.Le.refl _) R (.bl _) q⟩
theorem kGtD : OpR X (compareOp .Gt) (canR K (qII fun i j => .bl (decide (j < i)))) := opI kGt fun R D1 D2 ⟨i, j, e1, e2, q⟩ k => by
  subst e1 e2; exact ⟨i, j, dvI D1, dvI D2, k _ _ _ _ _ (Wd.Le.refl _) R (.bl _) q⟩
theorem kGeD : OpR X (compareOp .GtE) (canR K (qII fun i j => .bl (decide (j ≤ i)))) := opI kGe fun R D1 D2 ⟨i, j, e1, e2, q⟩ k => by
  subst e1 e2; exact ⟨i, j, dvI D1, dvI D2, k _ _ _ _ _ (Wd.Le.refl _) R (.bl _) q⟩
theorem kSubD : OpR X (binaryOp .Sub) (canR K (qII fun i j => .int (i - j))) := opI kSub fun R D1 D2 ⟨i, j, e1, e2, q⟩ k => by
  subst e1 e2; exact ⟨i, j, dvI D1, dvI D2, k _ _ _ _ _ (Wd.Le.refl _) R (.int _) q⟩
theorem kDivD : OpR X (binaryOp .FloorDiv) (canR K (qIC CDivW fun i j => .int (i / j))) := opI kDiv fun R D1 D2 ⟨i, j, e1, e2, c, q⟩ k => by
  subst e1 e2; exact ⟨i, j, dvI D1, dvI D2, c, k _ _ _ _ _ (Wd.Le.refl _) R (.int _) q⟩
theorem kModD : OpR X (binaryOp .Mod) (canR K (qIC (fun _ j => j ≠ 0) fun i j => .int (i.fmod j))) := opI kMod fun R D1 D2 ⟨i, j, e1, e2, c, q⟩ k => by
  subst e1 e2; exact ⟨i, j, dvI D1, dvI D2, c, k _ _ _ _ _ (Wd.Le.refl _) R (.int _) q⟩
theorem kPowD : OpR X (binaryOp .Pow) (canR K (qIC CPow fun i j => .int (i ^ j.toNat))) := opI kPow fun R D1 D2 ⟨i, j, e1, e2, c, q⟩ k => by
  subst e1 e2; exact ⟨i, j, dvI D1, dvI D2, c, k _ _ _ _ _ (Wd.Le.refl _) R (.int _) q⟩
/-- a tracked list -/
def lstOf (st : Sto) : DV → Option (List DV)
  | .lst ds => some ds
  | .ref n => match st n with | some (.lst ds) => some ds | _ => none
  | _ => none
theorem dv_lst {v : V} {d : DV} {ds : List DV} (R : Rl K W st H) (D : Dv K W v d) (h : lstOf st d = some ds) : ∃ a vs, v = .ref a ∧ H a = some (.lst vs) ∧ DvAll K W vs ds := by
  cases D with
  | lst h1 h2 => injection h with h; subst h; exact ⟨_, _, rfl, R.fh.at_ h1, h2⟩
  | ref ha =>
    rename_i n
    unfold lstOf at h
    cases e : st n with
    | none => simp only [e] at h; cases h
    | some o =>
      simp only [e] at h
      cases o with
      | lst ds' =>
        injection h with h; subst h
        obtain ⟨a, h1, h2, vs, h3, h4⟩ := R.ob _ _ e
        rw [ha] at h1; injection h1 with h1; subst h1
        exact ⟨_, _, rfl, h3, h4⟩
      | _ => cases h
  | _ => cases h
theorem sok_app {a b : Str} (h1 : SOk a) (h2 : SOk b) (hl : a.length + b.length ≤ 100000) : SOk (a ++ b) := by
  refine ⟨?_, ?_⟩
  · show (a.cps ++ b.cps).all _ = true
    rw [Array.all_append]
    exact Bool.and_eq_true_iff.mpr ⟨h1.1, h2.1⟩
  · show (a.cps ++ b.cps).size ≤ _
    rw [Array.size_append]
    exact hl
def qAdd : R2d := fun x y st Q => (∃ i j, x = .int i ∧ y = .int j ∧ Q (.int (i + j)) st) ∨ (∃ a b, x = .str a ∧ y = .str b ∧ a.length + b.length ≤ 100000 ∧ Q (.str (a ++ b)) st) ∨
  (∃ a b, x = .tup a ∧ y = .tup b ∧ a.length + b.length ≤ 100000 ∧ Q (.tup (a ++ b)) st) ∨ (∃ a b, lstOf st x = some a ∧ lstOf st y = some b ∧ a.length + b.length ≤ 100000 ∧ NewL (a ++ b) st Q)
theorem catTK (K : PySem.W.Frag) (h : X.K = K) : OpR X (binaryOp .Add) (rCatA K) := h ▸ op_catA
theorem kAddD (hK : X.K = K) : OpR X (binaryOp .Add) (canR K qAdd) := opI (opr_or kAdd (catTK K hK)) fun R D1 D2 h k => by
  rcases h with ⟨i, j, rfl, rfl, q⟩ | ⟨a, b, rfl, rfl, hl, q⟩ | ⟨a, b, rfl, rfl, hl, q⟩ | ⟨a, b, e1, e2, hl, q⟩
  · exact .inl (.inl ⟨i, j, dvI D1, dvI D2, k _ _ _ _ _ (Wd.Le.refl _) R (.int _) q⟩)
  · obtain ⟨e1, s1⟩ := dvS D1
    obtain ⟨e2, s2⟩ := dvS D2
    exact .inl (.inr (.inl ⟨a, b, e1, e2, szl hl, k _ _ _ _ _ (Wd.Le.refl _) R (.str _ (sok_app s1 s2 hl)) q⟩))
  · cases D1 with
    | tup h1 h2 => cases D2 with
      | tup h3 h4 =>
        refine .inr ⟨_, _, _, _, rfl, rfl, R.fh.sqt h1, R.fh.sqt h3, by rw [h2.len, h4.len]; exact szl hl, fun z => ?_, fun _ z => ?_, fun _ _ => newT R (h2.app h4) q k⟩
        · have := h2.nil_iff.mp z
          subst this
          rw [List.nil_append] at q
          exact k _ _ _ _ _ (Wd.Le.refl _) R (.tup h3 h4) q
        · have := h4.nil_iff.mp z
          subst this
          rw [List.append_nil] at q
          exact k _ _ _ _ _ (Wd.Le.refl _) R (.tup h1 h2) q
  · obtain ⟨p, vs, e3, h1, h2⟩ := dv_lst R D1 e1
    obtain ⟨r, us, e4, h3, h4⟩ := dv_lst R D2 e2
    exact .inl (.inr (.inr ⟨p, r, vs, us, e3, e4, h1, h3, by rw [h2.len, h4.len]; exact szl hl, newL R (h2.app h4) q k⟩))
def qMul : R2d := fun x y st Q => (∃ i j, x = .int i ∧ y = .int j ∧ (CMul i j ∨ CMulW i j) ∧ Q (.int (i * j)) st) ∨
  ∃ a k, lstOf st x = some a ∧ y = .int k ∧ -(2 ^ 63) ≤ k ∧ k < 2 ^ 63 ∧ a.length * k.toNat ≤ 100000 ∧ NewL (List.replicate k.toNat a).flatten st Q
theorem dva_rep {vs : List V} {ds : List DV} (D : DvAll K W vs ds) : ∀ n : Nat, DvAll K W (List.replicate n vs).flatten (List.replicate n ds).flatten
  | 0 => .nil
  | n + 1 => by
    rw [List.replicate_succ, List.replicate_succ, List.flatten_cons, List.flatten_cons]
    exact D.app (dva_rep D n)
theorem kMulD : OpR X (binaryOp .Mult) (canR K qMul) := opI kMul fun R D1 D2 h k => by
  rcases h with ⟨i, j, rfl, rfl, c | c, q⟩ | ⟨a, n, e, rfl, h1, h2, hl, q⟩
  · exact .inl ⟨i, j, dvI D1, dvI D2, c, k _ _ _ _ _ (Wd.Le.refl _) R (.int _) q⟩
  · exact .inr (.inl ⟨i, j, dvI D1, dvI D2, c, k _ _ _ _ _ (Wd.Le.refl _) R (.int _) q⟩)
  · obtain ⟨p, vs, e3, g1, g2⟩ := dv_lst R D1 e
    exact .inr (.inr ⟨p, n, vs, e3, dvI D2, g1, h1, h2, by rw [g2.len]; exact szl hl, newL R (dva_rep g2 _) q k⟩)
def qNeg : DV → Sto → KD → Prop := fun x st Q => ∃ i, x = .int i ∧ Q (.int (-i)) st
/-! ## subscripts -/
def qIx : R2d := fun x y st Q => (∃ ds j d, itsOf st x = some ds ∧ y = .int j ∧ atI ds j = some d ∧ Q d st) ∨ (∃ s j c, x = .str s ∧ y = .int j ∧ atI s.cps.toList j = some c ∧ Q (.str ⟨#[c]⟩) st)
theorem atI_dv {vs : List V} {ds : List DV} {j : Int} {d : DV} (D : DvAll K W vs ds) (h : atI ds j = some d) : ∃ v, atI vs j = some v ∧ Dv K W v d := by
  unfold atI at h ⊢
  rw [D.len]
  cases e : ixN ds.length j with
  | none => rw [e] at h; cases h
  | some i =>
    rw [e] at h
    exact D.get h
theorem atI_mem {α : Type} {xs : List α} {j : Int} {x : α} (h : atI xs j = some x) : x ∈ xs := by
  unfold atI at h
  cases e : ixN xs.length j with
  | none => rw [e] at h; cases h
  | some i => rw [e] at h; exact List.mem_of_getElem? h
theorem sok_mem {s : Str} (h : SOk s) {c : Nat} (hc : c ∈ s.cps.toList) : SOk ⟨#[c]⟩ := by
  obtain ⟨i, hi, e⟩ := List.mem_iff_getElem.mp hc
  exact sok_one h (i := i) (by rw [← Array.getElem?_toList]; rw [← e]; exact List.getElem?_eq_getElem hi)
theorem kIxD (hK : X.K = K) : IxR X (canR K qIx) := ixI (ixK K hK) fun R D1 D2 h k => by
  rcases h with ⟨ds, j, d, e1, rfl, e2, q⟩ | ⟨s, j, c, rfl, rfl, e2, q⟩
  · obtain ⟨a, vs, rfl, D, h⟩ := dv_its R D1 e1
    obtain ⟨v, g1, g2⟩ := atI_dv D e2
    rcases h with ⟨h, _⟩ | h
    · exact .inr (.inl ⟨a, vs, j, v, rfl, dvI D2, h, g1, k _ _ _ _ _ (Wd.Le.refl _) R g2 q⟩)
    · exact .inl ⟨a, vs, j, v, rfl, dvI D2, h, g1, k _ _ _ _ _ (Wd.Le.refl _) R g2 q⟩
  · obtain ⟨rfl, sx⟩ := dvS D1
    exact .inr (.inr ⟨s, j, c, rfl, dvI D2, szl sx.2, e2, k _ _ _ _ _ (Wd.Le.refl _) R (.str _ (sok_mem sx (atI_mem e2))) q⟩)
def cutD (xs : List DV) (lo hi : Option Int) : List DV := (xs.drop (HT.sIx xs.length 0 lo)).take (HT.sIx xs.length xs.length hi - HT.sIx xs.length 0 lo)
theorem cut_dv {vs : List V} {ds : List DV} (D : DvAll K W vs ds) (lo hi : Option Int) : DvAll K W (cutV vs lo hi) (cutD ds lo hi) := by
  unfold cutV cutD
  rw [D.len]
  exact (D.drop _).take _
theorem sok_cut {s : Str} (h : SOk s) (lo hi : Option Int) : SOk (cutS s lo hi) := by
  have hm : ∀ c ∈ (cutS s lo hi).cps.toList, c ∈ s.cps.toList := fun c hc => by
    have hc : c ∈ (s.cps.toList.drop (HT.sIx s.length 0 lo)).take (HT.sIx s.length s.length hi - HT.sIx s.length 0 lo) := by simpa [cutS] using hc
    exact List.mem_of_mem_drop (List.mem_of_mem_take hc)
  refine ⟨?_, ?_⟩
  · unfold PyData.strOk
    rw [← Array.all_toList]
    have h1 := h.1
    unfold PyData.strOk at h1
    rw [← Array.all_toList] at h1
    exact List.all_eq_true.mpr fun c hc => List.all_eq_true.mp h1 c (hm c hc)
  · have : (cutS s lo hi).length ≤ s.length := by
      show ((s.cps.toList.drop _).take _).toArray.size ≤ s.cps.size
      rw [List.size_toArray, List.length_take, List.length_drop, Array.length_toList]
      omega
    have := h.2
    omega
def lrOf (st : Sto) : DV → Option (List DV)
  | .lst ds => some ds
  | .scr ds => some ds
  | .ref n => match st n with | some (.lst ds) => some ds | _ => none
  | _ => none
theorem lr_its {d : DV} {ds : List DV} (h : lrOf st d = some ds) : itsOf st d = some ds ∧ ∀ es, d ≠ .tup es := by
  cases d <;> first | exact ⟨h, fun _ z => nomatch z⟩ | cases h
theorem dv_lr {v : V} {d : DV} {ds : List DV} (R : Rl K W st H) (D : Dv K W v d) (h : lrOf st d = some ds) : ∃ a vs, v = .ref a ∧ SqL K H a vs ∧ DvAll K W vs ds := by
  obtain ⟨h1, h2⟩ := lr_its h
  obtain ⟨a, vs, e, D2, h | h⟩ := dv_its R D h1
  · obtain ⟨_, es, z⟩ := h
    exact (h2 es z).elim
  · exact ⟨a, vs, e, h, D2⟩
def qSl : DV → Option Int → Option Int → Sto → KD → Prop := fun x lo hi st Q => (∃ ds, lrOf st x = some ds ∧ NewL (cutD ds lo hi) st Q) ∨ (∃ s, x = .str s ∧ Q (.str (cutS s lo hi)) st) ∨
  (∃ ds, x = .tup ds ∧ Q (.tup (cutD ds lo hi)) st)
theorem slTK (K : PySem.W.Frag) (h : X.K = K) : L2.SlR X (rSlA K) := h ▸ sl_tupA
theorem kSlD (hK : X.K = K) : L2.SlR X (canL K qSl) := fun pins s σ H x v vl vu lo hi sl Q I rx hs pl pu ⟨W, st, dx, Qd, R, D, h, k⟩ =>
  L2.SlR.or (slK K hK) (slTK K hK) pins s σ H x v vl vu lo hi sl Q I rx hs pl pu (by
    rcases h with ⟨ds, e, q⟩ | ⟨z, rfl, q⟩ | ⟨ds, rfl, q⟩
    · obtain ⟨a, vs, rfl, h1, h2⟩ := dv_lr R D e
      exact .inl (.inl ⟨a, vs, rfl, h1, newL R (cut_dv h2 _ _) q k⟩)
    · obtain ⟨rfl, sx⟩ := dvS D
      exact .inl (.inr ⟨z, rfl, szl sx.2, k _ _ _ _ _ (Wd.Le.refl _) R (.str _ (sok_cut sx _ _)) q⟩)
    · cases D with
      | tup h1 h2 =>
        refine .inr ⟨_, _, rfl, R.fh.sqt h1, fun ⟨w1, w2⟩ => ?_, fun _ => newT R (cut_dv h2 _ _) q k⟩
        rw [h2.len] at w1 w2
        have : cutD ds lo hi = ds := by
          unfold cutD
          rw [w1, w2, List.drop_zero, Nat.sub_zero, List.take_of_length_le (Nat.le_refl _)]
        rw [this] at q
        exact k _ _ _ _ _ (Wd.Le.refl _) R (.tup h1 h2) q)
abbrev TOd := KX → Sl → Sto → (Option Int → Sto → Prop) → Prop
def canO (K : PySem.W.Frag) (E : EK) (td : TOd) : TO := fun σ H Q => ∃ (W : Wd) (sl : Sl) (st : Sto) (ex : KX) (Qd : Option Int → Sto → Prop), At K E W sl st σ H ex ∧ td ex sl st Qd ∧ ∀ W' st' H' b, W.Le W' → Rl K W' st' H' → Qd b st' → Q b H'
def dPart (t : TEd) : TOd := fun ex sl st Q => t ex sl st fun d s1 => ∃ i, d = .int i ∧ Q (some i) s1
def dNoPart : TOd := fun _ _ st Q => Q none st
theorem do_none : PO X none (canO K E dNoPart) := ⟨fun pins s σ H Q I ⟨W, sl, st, ex, Qd, A, h, k⟩ => po_none.run pins s σ H Q I (k _ _ _ _ (Wd.Le.refl _) A.r h)⟩
theorem do_some {e : Expr} {t : TEd} (he : PE X e (canE K E t)) : PO X (some e) (canO K E (dPart t)) := ⟨fun pins s σ H Q I ⟨W, sl, st, ex, Qd, A, h, k⟩ => (po_some he).run pins s σ H Q I (runE A h fun W1 s1 H1 v d l A1 D ⟨i, e, q⟩ => by
  subst e
  exact ⟨i, dvI D, k _ _ _ _ l A1.r q⟩)⟩
def dSl (r : DV → Option Int → Option Int → Sto → KD → Prop) (te : TEd) (tl th : TOd) : TEd := fun ex sl st Q => te ex sl st fun d s1 => tl ex sl s1 fun lo s2 => th ex sl s2 fun hi s3 => r d lo hi s3 Q
theorem d_slice {e : Expr} {lo hi : Option Expr} {te : TEd} {tl th : TOd} {r : DV → Option Int → Option Int → Sto → KD → Prop} {p2 pos : Pos} (hr : L2.SlR X (canL K r)) (he : PE X e (canE K E te)) (hl : PO X lo (canO K E tl)) (hu : PO X hi (canO K E th)) :
    PE X (.Subscript e (.Slice lo hi none p2) pos) (canE K E (dSl r te tl th)) :=
  peI (pe_slice hr he hl hu) fun A h k => runE A h fun W1 s1 H1 v d l1 A1 D1 h1 => ⟨W1, _, s1, _, _, A1, h1, fun W2 s2 H2 lo l2 R2 h2 => ⟨W2, _, s2, _, _, A1.le l2 R2, h2, fun W3 s3 H3 hi l3 R3 h3 => ⟨W3, s3, d, _, R3, D1.le (l2.trans l3), h3, fun W4 s4 H4 v d l4 => k W4 s4 H4 v d (l1.trans (l2.trans (l3.trans l4)))⟩⟩⟩
def dRev (te : TEd) : TEd := fun ex sl st Q => te ex sl st fun d s1 => ∃ ds, lrOf s1 d = some ds ∧ NewL ds.reverse s1 Q
theorem d_rev {e : Expr} {te : TEd} {k : Nat} {p1 p2 p3 pos : Pos} (hK : X.K = K) (he : PE X e (canE K E te)) : PE X (.Subscript e (.Slice none none (some (.UnaryOp .USub (.Constant (.int 1) k p1) p2)) p3) pos) (canE K E (dRev te)) :=
  peI (revK K hK he) fun A h k => runE A h fun W1 s1 H1 v d l1 A1 D1 ⟨ds, e, q⟩ => by
    obtain ⟨a, vs, rfl, h1, h2⟩ := dv_lr A1.r D1 e
    exact ⟨a, vs, rfl, h1, newL A1.r h2.rev q fun W2 s2 H2 v d l2 => k W2 s2 H2 v d (l1.trans l2)⟩
end
end Kn

set_option Elab.async false
set_option linter.all false
set_option maxRecDepth 100000
set_option maxHeartbeats 2000000
namespace Kn
open PySem PySem.Spec PyProof.Rows L2
section
variable {K : PySem.W.Frag} {E : EK} {X : Cx} {W W' : Wd} {sl : Sl} {st st' : Sto} {σ : L2.St} {H H' : Hp} {ex : KX}
/-! ## kinds -/
def tyD (st : Sto) : DV → Option Value
  | .non => some (.type "NoneType")
  | .bl _ => some (.type "bool")
  | .int _ => some (.type "int")
  | .str _ => some (.type "str")
  | .tup _ => some (.type "tuple")
  | .lst _ => some (.type "list")
  | .scr _ => some (.type "list")
  | .dct _ _ => some (.type "dict")
  | .ins C _ _ => some (.ref C)
  | .ref n => match st n with
    | some (.lst _) => some (.type "list")
    | some (.dct _ _) => some (.type "dict")
    | some (.ins C _ _) => some (.ref C)
    | some .well => some (.type "list")
    | _ => none
  | _ => none
theorem ty_dv {v : V} {d : DV} {t : Value} (R : Rl K W st H) (D : Dv K W v d) (h : tyD st d = some t) : TyX K H v t := by
  cases D with
  | non => injection h with h; subst h; exact .base .non
  | bl b => injection h with h; subst h; exact .base (.bl b)
  | int b => injection h with h; subst h; exact .base (.int b)
  | str b _ => injection h with h; subst h; exact .base (.str b)
  | tup h1 _ => injection h with h; subst h; exact tyT (R.fh.sqt h1)
  | lst h1 _ => injection h with h; subst h; exact tyL (SqL.of (R.fh.at_ h1))
  | scr h1 _ => injection h with h; subst h; exact tyL (R.fh.seq h1)
  | dct h1 _ _ => injection h with h; subst h; exact .base (.dK (R.fh.at_ h1))
  | ins h1 hc _ _ => injection h with h; subst h; exact Kn.TyX.ins (R.fh.at_ h1) hc.c hc.i
  | ref ha =>
    rename_i n
    unfold tyD at h
    cases e : st n with
    | none => simp only [e] at h; cases h
    | some o =>
      obtain ⟨a, h1, h2, h3⟩ := R.ob _ _ e
      rw [ha] at h1; injection h1 with h1; subst h1
      simp only [e] at h
      cases o with
      | lst ds => injection h with h; subst h; obtain ⟨vs, h3, _⟩ := h3; exact .base (.lst h3)
      | dct ks ds => injection h with h; subst h; obtain ⟨vs, h3, _⟩ := h3; exact .base (.dK h3)
      | ins C ns ds => injection h with h; subst h; obtain ⟨dx, fs, h3, hc, _⟩ := h3; exact Kn.TyX.ins h3 hc.c hc.i
      | well => injection h with h; subst h; obtain ⟨_, _, _, h3⟩ := h3; exact .base (.lst h3)
      | lck _ _ _ _ => cases h
  | _ => cases h
def clsD : DV → Option Value
  | .ty n => some (.type n)
  | .adr C => some (.ref C)
  | _ => none
theorem cls_dv {v : V} {d : DV} {u : Value} (D : Dv K W v d) (h : clsD d = some u) : ClsV v u := by
  cases D with
  | ty n => injection h with h; subst h; exact .ty n
  | adr a => injection h with h; subst h; exact .own a
  | _ => cases h
def qIsi (K : PySem.W.Frag) : List DV → Sto → KD → Prop := fun ds st Q => ∃ x c t u b, ds = [x, c] ∧ tyD st x = some t ∧ clsD c = some u ∧ PySem.W.kitOne K t u = some b ∧ Q (.bl b) st
theorem kIsiD (hK : X.K = K) : CallR X (.builtin "isinstance") (canC K (qIsi K)) := crI (isiK K hK) fun R D ⟨x, c, t, u, b, e, h1, h2, h3, q⟩ k => by
  subst e
  obtain ⟨v, w, rfl, D1, D2⟩ := dv2 D
  exact ⟨v, w, t, u, b, rfl, cls_dv D2 h2, ty_dv R D1 h1, h3, k _ _ _ _ _ (Wd.Le.refl _) R (.bl b) q⟩
/-- isinstance(x, (A, B, ..)), the classes by name -/
inductive PCs (X : Cx) : List Expr → List V → List Value → Prop
  | nil : PCs X [] [] []
  | cons {e : Expr} {es : List Expr} {v : V} {vs : List V} {u : Value} {us : List Value} : PE X e (tC v) → ClsV v u → starEach (e :: es) X.env = (false, eval e X.env) :: starEach es X.env → PCs X es vs us → PCs X (e :: es) (v :: vs) (u :: us)
theorem PCs.pa {es : List Expr} {vs : List V} {us : List Value} (h : PCs X es vs us) : PA X es (fun σ H Q => Q vs H) ∧ Paired ClsV vs us := by
  induction h with
  | nil => exact ⟨pa_nil, .nil⟩
  | cons h1 h2 hs _ ih =>
    refine ⟨⟨fun pos pins s σ H Q I h => ?_⟩, .cons h2 ih.2⟩
    exact (pa_cons h1 ih.1 hs).run pos pins s σ H Q I h
def dIsT (K : PySem.W.Frag) (us : List Value) (te : TEd) : TEd := fun ex sl st Q => te ex sl st fun d s1 => ∃ t b, tyD s1 d = some t ∧ PySem.W.kitAny K t us = some b ∧ Q (.bl b) s1
theorem d_isT {e : Expr} {es : List Expr} {te : TEd} {cs : List V} {us : List Value} {kk : Nat} {p tpos pos : Pos} (hK : X.K = K) (he : PE X e (canE K E te)) (hcs : PCs X es cs us) (hl : cs.length ≤ 100000) (hg : Gl X "isinstance") (hm : X.mg "isinstance" = none) (hv : bootBuiltins "isinstance" = some (.builtin "isinstance"))
    (hst : starEach [e, .Tuple es kk tpos] X.env = (false, eval e X.env) :: starEach [.Tuple es kk tpos] X.env := by rfl) (hst2 : starEach [.Tuple es kk tpos] X.env = (false, eval (.Tuple es kk tpos) X.env) :: starEach [] X.env := by rfl)
    (hpl : (backTo pos (starEach [.Tuple es kk tpos] X.env)).any (·.1) = false := by rfl) : PE X (.Call (.Name "isinstance" p) [e, .Tuple es kk tpos] [] pos) (canE K E (dIsT K us te)) := by
  obtain ⟨h1, h2⟩ := hcs.pa
  refine peI (pe_callB (isiTK K hK) hg hm hv (pa_cons he (pa_cons (pe_tup h1) pa_nil hst2) hst) (by decide) (by decide) hst hpl) fun A h k => runE A h fun W1 s1 H1 v d l A1 D ⟨t, b, e1, e2, q⟩ => ?_
  refine ⟨szl hl, fun p hp => ?_⟩
  exact ⟨v, p, cs, t, us, b, rfl, upd_same, h2, (ty_dv A1.r D e1).same (Same.new hp), e2, k _ _ _ _ _ l (A1.r.same (Same.new hp)) (.bl b) q⟩
/-! ## built-ins -/
def lenOf (st : Sto) : DV → Option Nat
  | .str s => some s.length
  | d => (itsOf st d).map (·.length)
def qLen : List DV → Sto → KD → Prop := fun ds st Q => ∃ x n, ds = [x] ∧ lenOf st x = some n ∧ Q (.int n) st
theorem len_its {d : DV} {n : Nat} (h : lenOf st d = some n) : (∃ s, d = .str s ∧ n = s.length) ∨ ∃ ds, itsOf st d = some ds ∧ n = ds.length := by
  have key : (itsOf st d).map (·.length) = some n → ∃ ds, itsOf st d = some ds ∧ n = ds.length := fun h => by
    obtain ⟨ds, h1, h2⟩ := Option.map_eq_some_iff.mp h
    exact ⟨ds, h1, h2.symm⟩
  cases d <;> first | (injection h with h; exact .inl ⟨_, rfl, h.symm⟩) | exact .inr (key h)
theorem kLenD (hK : X.K = K) : CallR X (.builtin "len") (canC K qLen) := crI (lenK K hK) fun R D ⟨x, n, e, h, q⟩ k => by
  subst e
  obtain ⟨v, rfl, D1⟩ := dv1 D
  rcases len_its h with ⟨s, rfl, rfl⟩ | ⟨ds, h1, rfl⟩
  · obtain ⟨rfl, sx⟩ := dvS D1
    exact ⟨_, _, rfl, ⟨szl sx.2, rfl⟩, k _ _ _ _ _ (Wd.Le.refl _) R (.int _) q⟩
  · obtain ⟨a, vs, rfl, D2, h⟩ := dv_its R D1 h1
    rw [← D2.len] at q
    rcases h with ⟨h, _⟩ | h
    · exact ⟨_, _, rfl, .inr ⟨vs, h, rfl⟩, k _ _ _ _ _ (Wd.Le.refl _) R (.int _) q⟩
    · exact ⟨_, _, rfl, .inl ⟨vs, h, rfl⟩, k _ _ _ _ _ (Wd.Le.refl _) R (.int _) q⟩
def qInt1 : List DV → Sto → KD → Prop := fun ds st Q => (∃ i, ds = [.int i] ∧ Q (.int i) st) ∨ ∃ b, ds = [.bl b] ∧ Q (.int (if b then 1 else 0)) st
theorem kInt1D : CallR X (.type "int") (canC K qInt1) := crI kInt1 fun R D h k => by
  rcases h with ⟨i, rfl, q⟩ | ⟨b, rfl, q⟩
  · obtain ⟨v, rfl, D1⟩ := dv1 D
    exact .inl ⟨i, by rw [dvI D1], k _ _ _ _ _ (Wd.Le.refl _) R (.int _) q⟩
  · obtain ⟨v, rfl, D1⟩ := dv1 D
    exact .inr ⟨b, by rw [dv_bl D1], k _ _ _ _ _ (Wd.Le.refl _) R (.int _) q⟩
def qList : List DV → Sto → KD → Prop := fun ds st Q => ∃ x es, ds = [x] ∧ itsOf st x = some es ∧ NewL es st Q
theorem kListD (hK : X.K = K) : CallR X (.type "list") (canC K qList) := crI (listK K hK) fun R D ⟨x, es, e, h, q⟩ k => by
  subst e
  obtain ⟨v, rfl, D1⟩ := dv1 D
  obtain ⟨a, vs, rfl, D2, h⟩ := dv_its R D1 h
  refine ⟨a, vs, rfl, ?_, newL R D2 q k⟩
  rcases h with ⟨h, _⟩ | h
  · exact .inr h
  · exact .inl h
def qAll : List DV → Sto → KD → Prop := fun ds st Q => ∃ (x : DV) (bs : List Bool), ds = [x] ∧ lrOf st x = some (bs.map DV.bl) ∧ Q (.bl (bs.all id)) st
theorem dva_bl {vs : List V} : ∀ {bs : List Bool}, DvAll K W vs (bs.map DV.bl) → vs = bs.map V.bl
  | [], h => by cases h; rfl
  | b :: bs, h => by
    cases h with
    | cons h1 h2 => rw [dv_bl h1, dva_bl h2]; rfl
theorem kAllD (hK : X.K = K) (hc : X.calm = true) : CallR X (.builtin "all") (canC K qAll) := crI (allK K hK hc) fun R D ⟨x, bs, e, h, q⟩ k => by
  subst e
  obtain ⟨v, rfl, D1⟩ := dv1 D
  obtain ⟨a, vs, rfl, h1, D2⟩ := dv_lr R D1 h
  rw [dva_bl D2] at h1
  exact ⟨a, bs, rfl, h1, k _ _ _ _ _ (Wd.Le.refl _) R (.bl _) q⟩
theorem kNegD : UnR X (unaryOp .USub) (canU K qNeg) := unI un_neg fun R D ⟨i, e, q⟩ k => by
  subst e
  exact ⟨i, dvI D, k _ _ _ _ _ (Wd.Le.refl _) R (.int _) q⟩
/-! ## methods of built-in types -/
def tyM (st : Sto) (T : String) : DV → Prop
  | .str _ => T = "str"
  | .int _ => T = "int"
  | .lst _ => T = "list"
  | .scr _ => T = "list"
  | .dct _ _ => T = "dict"
  | .ref n => match st n with
    | some (.lst _) => T = "list"
    | some (.dct _ _) => T = "dict"
    | _ => False
  | _ => False
theorem tyM_dv {T : String} {v : V} {d : DV} (R : Rl K W st H) (D : Dv K W v d) (h : tyM st T d) : tyV K T v H := by
  cases D with
  | str b _ => exact h
  | int b => exact h
  | lst h1 _ => exact .inl ⟨h, _, SqL.of (R.fh.at_ h1)⟩
  | scr h1 _ => exact .inl ⟨h, _, R.fh.seq h1⟩
  | dct h1 _ _ => exact .inr (.inr (.inl ⟨h, .inl ⟨_, R.fh.at_ h1⟩⟩))
  | ref ha =>
    rename_i n
    have h : (match st n with | some (.lst _) => T = "list" | some (.dct _ _) => T = "dict" | _ => False) := h
    cases e : st n with
    | none => rw [e] at h; exact h.elim
    | some o =>
      obtain ⟨a, h1, h2, h3⟩ := R.ob _ _ e
      rw [ha] at h1; injection h1 with h1; subst h1
      rw [e] at h
      cases o with
      | lst ds => obtain ⟨vs, h3, _⟩ := h3; exact .inl ⟨h, _, SqL.of h3⟩
      | dct ks ds => obtain ⟨vs, h3, _⟩ := h3; exact .inr (.inr (.inl ⟨h, .inl ⟨_, h3⟩⟩))
      | _ => exact h.elim
  | _ => exact h.elim
def dBM (T : String) (r : DV → List DV → Sto → KD → Prop) (to : TEd) (t : TAd) : TEd := fun ex sl st Q => to ex sl st fun d s1 => tyM s1 T d ∧ t ex sl s1 fun ds s2 => r d ds s2 Q
theorem d_bm {T id : String} {nm : Str} {o e : Expr} {es : List Expr} {r : DV → List DV → Sto → KD → Prop} {to : TEd} {t : TAd} {apos cpos : Pos} (hK : X.K = K) (pa : PlainAttrs T) (slot : Slot T nm id) (hty : typeOf (.builtin id) = pure (.type "method_descriptor")) (hm : MtR X id (canM K r)) (ho : PE X o (canE K E to)) (ha : PA X (e :: es) (canA K E t))
    (hbase : attributeBase o nm X.env (eval o X.env) = eval o X.env := by rfl)
    (hfew : ((backTo cpos (starEach (e :: es) X.env)).all (fun x => !x.1) && (backToKw cpos (keywordEach [] X.env)).all (fun x => x.1.isSome)
      && decide ((e :: es).length + ([] : List Keyword).length + (if ([] : List Keyword).isEmpty then 0 else 1) < 30)) = true := by rfl)
    (hline : (apos.endLine == cpos.line) = true := by rfl) (hs : starEach (e :: es) X.env = (false, eval e X.env) :: starEach es X.env := by rfl) (hplain : (backTo cpos (starEach es X.env)).any (·.1) = false := by rfl) :
    PE X (.Call (.Attribute o nm apos) (e :: es) [] cpos) (canE K E (dBM T r to t)) :=
  peI (bmK K hK pa slot hty hm ho ha hbase hfew hline hs hplain) fun A h k => runE A h fun W1 s1 H1 v d l1 A1 D1 ⟨ty, h1⟩ => ⟨tyM_dv A1.r D1 ty, runA A1 h1 fun W2 s2 H2 vs ds l2 A2 D2 h2 => ⟨W2, s2, d, ds, _, A2.r, D1.le l2, D2, h2, fun W3 s3 H3 v d l3 => k W3 s3 H3 v d (l1.trans (l2.trans l3))⟩⟩
def dBM0 (T : String) (r : DV → List DV → Sto → KD → Prop) (to : TEd) : TEd := fun ex sl st Q => to ex sl st fun d s1 => tyM s1 T d ∧ r d [] s1 Q
theorem d_bm0 {T id : String} {nm : Str} {o : Expr} {r : DV → List DV → Sto → KD → Prop} {to : TEd} {apos cpos : Pos} (hK : X.K = K) (pa : PlainAttrs T) (slot : Slot T nm id) (hty : typeOf (.builtin id) = pure (.type "method_descriptor")) (hm : MtR X id (canM K r)) (ho : PE X o (canE K E to))
    (hbase : attributeBase o nm X.env (eval o X.env) = eval o X.env := by rfl) (hline : (apos.endLine == cpos.line) = true := by rfl) : PE X (.Call (.Attribute o nm apos) [] [] cpos) (canE K E (dBM0 T r to)) :=
  peI (bm0K K hK pa slot hty hm ho hbase hline) fun A h k => runE A h fun W1 s1 H1 v d l1 A1 D1 ⟨ty, h1⟩ => ⟨tyM_dv A1.r D1 ty, W1, s1, d, [], _, A1.r, D1, .nil, h1, fun W3 s3 H3 v d l3 => k W3 s3 H3 v d (l1.trans l3)⟩
def qApp : DV → List DV → Sto → KD → Prop := fun x ds st Q => ∃ n es y, x = .ref n ∧ ds = [y] ∧ st n = some (.lst es) ∧ es.length < 100000 ∧ Q .non (sset st n (.lst (es ++ [y])))
theorem kAppD : MtR X "list.append" (canM K qApp) := mtI (show MtR X "list.append" rAppend from mt_append) fun R D1 D ⟨n, es, y, e1, e2, h, hl, q⟩ k => by
  subst e1 e2
  obtain ⟨v, rfl, D2⟩ := dv1 D
  cases D1 with
  | ref ha =>
    obtain ⟨a, h1, h2, vs, h3, h4⟩ := R.ob _ _ h
    rw [ha] at h1; injection h1 with h1; subst h1
    exact ⟨_, vs, v, rfl, rfl, h3, by rw [h4.len]; exact Nat.lt_of_lt_of_le hl (by decide), k _ _ _ _ _ (Wd.Le.refl _) (R.put (o' := .lst (es ++ [y])) h ha ⟨_, upd_same, h4.app (.cons D2 .nil)⟩) .non q⟩
def qClr : DV → List DV → Sto → KD → Prop := fun x ds st Q => ∃ n es, x = .ref n ∧ ds = [] ∧ st n = some (.lst es) ∧ Q .non (sset st n (.lst []))
theorem sok_strip {s : Str} (h : SOk s) (b : Str) : SOk (Txt.stripChars s b) := by
  unfold Txt.stripChars
  rw [stripBy_eq]
  refine ⟨?_, ?_⟩
  · show (s.cps.extract _ _).all _ = true
    have h1 := h.1
    unfold PyData.strOk at h1
    rw [← Array.all_toList] at h1 ⊢
    refine List.all_eq_true.mpr fun c hc => List.all_eq_true.mp h1 c ?_
    rw [Array.toList_extract] at hc
    exact List.mem_of_mem_drop (List.mem_of_mem_take hc)
  · show (s.cps.extract _ _).size ≤ _
    have := h.2
    have e : s.length = s.cps.size := rfl
    rw [Array.size_extract]
    omega
def qStrip : DV → List DV → Sto → KD → Prop := fun x ds st Q => ∃ a b, x = .str a ∧ ds = [.str b] ∧ Q (.str (Txt.stripChars a b)) st
theorem kStripD : MtR X "str.strip" (canM K qStrip) := mtI kStrip fun R D1 D ⟨a, b, e1, e2, q⟩ k => by
  subst e1 e2
  obtain ⟨v, rfl, D2⟩ := dv1 D
  obtain ⟨rfl, s1⟩ := dvS D1
  obtain ⟨rfl, s2⟩ := dvS D2
  exact ⟨a, b, rfl, rfl, szl s1.2, k _ _ _ _ _ (Wd.Le.refl _) R (.str _ (sok_strip s1 b)) q⟩
theorem join_all {sep : Str} {p : Nat → Bool} (h0 : ∀ c ∈ sep.cps.toList, p c = true) : ∀ {ss : List Str}, (∀ s ∈ ss, ∀ c ∈ s.cps.toList, p c = true) → ∀ c ∈ (Str.join sep ss).cps.toList, p c = true
  | [], _, c, hc => by cases hc
  | [x], h, c, hc => h x (List.mem_singleton_self _) c hc
  | x :: y :: r, h, c, hc => by
    have hc : c ∈ (x.cps ++ sep.cps ++ (Str.join sep (y :: r)).cps).toList := hc
    simp only [Array.toList_append, List.mem_append] at hc
    rcases hc with (hc | hc) | hc
    · exact h x (List.mem_cons_self ..) c hc
    · exact h0 c hc
    · exact join_all h0 (fun s hs => h s (List.mem_cons_of_mem _ hs)) c hc
theorem join_len {sep : Str} : ∀ (ss : List Str), (Str.join sep ss).length ≤ (ss.map (·.length)).sum + ss.length * sep.length
  | [] => Nat.zero_le _
  | [x] => by show x.length ≤ _; simp only [List.map_cons, List.map_nil, List.sum_cons, List.sum_nil]; omega
  | x :: y :: r => by
    have ih := join_len (sep := sep) (y :: r)
    have e : (Str.join sep (x :: y :: r)).length = x.length + sep.length + (Str.join sep (y :: r)).length := by
      show (x.cps ++ sep.cps ++ (Str.join sep (y :: r)).cps).size = _
      rw [Array.size_append, Array.size_append]
      rfl
    rw [e, List.map_cons, List.sum_cons, List.length_cons, Nat.add_mul]
    omega
theorem dva_str {vs : List V} : ∀ {ss : List Str}, DvAll K W vs (ss.map DV.str) → vs = ss.map V.str ∧ ∀ s ∈ ss, SOk s
  | [], h => by cases h; exact ⟨rfl, fun _ z => nomatch z⟩
  | b :: bs, h => by
    cases h with
    | cons h1 h2 =>
      obtain ⟨e1, s1⟩ := dvS h1
      obtain ⟨e2, s2⟩ := dva_str h2
      refine ⟨by rw [e1, e2]; rfl, fun s hs => ?_⟩
      rcases List.mem_cons.mp hs with rfl | hs
      · exact s1
      · exact s2 s hs
def qJoin : DV → List DV → Sto → KD → Prop := fun x ds st Q => ∃ (a : Str) (l : DV) (ss : List Str), x = .str a ∧ ds = [l] ∧ itsOf st l = some (ss.map DV.str) ∧ (ss.map (·.length)).sum + ss.length * a.length ≤ 100000 ∧ Q (.str (Str.join a ss)) st
theorem kJoinD (hK : X.K = K) : MtR X "str.join" (canM K qJoin) := mtI (joinK K hK) fun R D1 D ⟨a, l, ss, e1, e2, h, hl, q⟩ k => by
  subst e1 e2
  obtain ⟨v, rfl, D2⟩ := dv1 D
  obtain ⟨rfl, s1⟩ := dvS D1
  obtain ⟨p, vs, rfl, D3, h⟩ := dv_its R D2 h
  obtain ⟨rfl, s3⟩ := dva_str D3
  rw [← TL.join_eq] at q
  refine ⟨a, p, ss, rfl, rfl, ?_, Nat.le_trans hl (by decide), k _ _ _ _ _ (Wd.Le.refl _) R (.str _ ⟨?_, by rw [TL.join_eq]; exact Nat.le_trans (join_len ss) hl⟩) q⟩
  · rcases h with ⟨h, _⟩ | h
    · exact .inr h
    · exact .inl h
  · rw [TL.join_eq]
    unfold PyData.strOk
    rw [← Array.all_toList]
    have key : ∀ {s : Str}, SOk s → ∀ c ∈ s.cps.toList, decide (c < 0x110000) = true := fun {s} h c hc => by
      have := h.1
      unfold PyData.strOk at this
      rw [← Array.all_toList] at this
      exact List.all_eq_true.mp this c hc
    exact List.all_eq_true.mpr fun c hc => join_all (p := fun c => decide (c < 0x110000)) (key s1) (fun s hs => key (s3 s hs)) c hc
def dM0 (r : DV → List DV → Sto → KD → Prop) (to : TEd) : TEd := fun ex sl st Q => to ex sl st fun d s1 => (∃ a, d = .str a) ∧ r d [] s1 Q
def qUpper : DV → List DV → Sto → KD → Prop := fun x ds st Q => ∃ a, x = .str a ∧ SOk (Txt.upper a) ∧ Q (.str (Txt.upper a)) st
theorem d_upper {o : Expr} {to : TEd} {apos pos : Pos} (ho : PE X o (canE K E to)) (hbase : attributeBase o "upper" X.env (eval o X.env) = eval o X.env := by rfl) (hline : (apos.endLine == pos.line) = true := by rfl) :
    PE X (.Call (.Attribute o "upper" apos) [] [] pos) (canE K E (dM0 qUpper to)) :=
  peI (pe_upper ho hbase hline) fun A h k => runE A h fun W1 s1 H1 v d l1 A1 D1 ⟨⟨a, e⟩, b, e2, hs, q⟩ => by
    subst e
    injection e2 with e2
    subst e2
    obtain ⟨rfl, sx⟩ := dvS D1
    exact ⟨⟨a, rfl⟩, a, rfl, rfl, Nat.le_trans sx.2 (by decide), k _ _ _ _ _ l1 A1.r (.str _ hs) q⟩
/-! ## stores -/
def qSet : DV → DV → DV → Sto → (Sto → Prop) → Prop := fun o i v st Q => ∃ n j m es, o = .ref n ∧ i = .int j ∧ st n = some (.lst es) ∧ ixN es.length j = some m ∧ Q (sset st n (.lst (es.set m v)))
theorem kSetD {k : Nat} (hr : Room k X.A) : PSet X (canSet K qSet) := fun pins s σ H o i v ov iv u Q I ro ri rv ⟨W, st, d1, d2, d3, Qd, R, D1, D2, D3, ⟨n, j, m, es, e1, e2, h, hi, q⟩, k⟩ =>
  kSet hr pins s σ H o i v ov iv u Q I ro ri rv (by
    subst e1 e2
    cases D1 with
    | ref ha =>
      obtain ⟨a, h1, h2, vs, h3, h4⟩ := R.ob _ _ h
      rw [ha] at h1; injection h1 with h1; subst h1
      exact .inl ⟨_, vs, j, m, rfl, dvI D2, h3, by rw [h4.len]; exact hi, k _ _ _ (Wd.Le.refl _) (R.put (o' := .lst (es.set m d3)) h ha ⟨_, upd_same, h4.set D3 m⟩) q⟩)
end
end Kn

set_option Elab.async false
set_option linter.all false
set_option maxRecDepth 100000
set_option maxHeartbeats 2000000
namespace Kn
open PySem PySem.Spec PyProof.Rows L2
section
variable {K : PySem.W.Frag} {D : Endd} {sl : Sl} {st : Sto} {ex : KX} {Q : KD}
theorem w_seq {t u : TSd} (h : t { D with nx := u D } sl st) : dSeq t u D sl st := h
theorem w_next  (h : D.nx sl st) : dNext D sl st := h
theorem w_brk  (h : D.bk sl st) : dBrk D sl st := h
theorem w_cont  (h : D.ct sl st) : dCont D sl st := h
theorem w_drop {te : TEd} (h : te (fun x s => D.ex x sl s) sl st fun _ s1 => D.nx sl s1) : dDrop te D sl st := h
theorem w_ret {te : TEd} (h : te (fun x s => D.ex x sl s) sl st fun d s1 => ∃ d' s2, Gv d s1 d' s2 ∧ D.rt d' s2) : dRet te D sl st := h
theorem w_ifs {c : TTd} {t u : TSd} (h : c (fun x s => D.ex x sl s) sl st fun b s1 => if b = true then t D sl s1 else u D sl s1) : dIfS c t u D sl st := h
theorem w_asg {te : TEd} {g : TGd} (h : te (fun x s => D.ex x sl s) sl st fun d s1 => g d (fun x s => D.ex x sl s) sl s1 D.nx) : dAsg te g D sl st := h
theorem w_nm {i : Nat} {d : DV} {QS : Sl → Sto → Prop} (h : QS (sl.set i (some d)) st) : gNm i d ex sl st QS := h
theorem w_c {d : DV} (h : Q d st) : dC d ex sl st Q := h
theorem w_op {r : R2d} {ta tb : TEd} (h : ta ex sl st fun x s1 => tb ex sl s1 fun y s2 => r x y s2 Q) : dOp r ta tb ex sl st Q := h
theorem w_un {r : DV → Sto → KD → Prop} {ta : TEd} (h : ta ex sl st fun x s1 => r x s1 Q) : dUn r ta ex sl st Q := h
theorem w_chain {r r' : R2d} {ta tb tc : TEd} (h : ta ex sl st fun x s1 => tb ex sl s1 fun y s2 => r x y s2 fun z s3 => ∃ k, z = .bl k ∧ if k = true then tc ex sl s3 fun w s4 => r' y w s4 Q else Q (.bl false) s3) : dChain r r' ta tb tc ex sl st Q := h
theorem w_test {te : TEd} {QB : Bool → Sto → Prop} (h : te ex sl st fun x s1 => ∃ k, x = .bl k ∧ QB k s1) : dTest te ex sl st QB := h
theorem w_and {t u : TTd} {QB : Bool → Sto → Prop} (h : t ex sl st fun c s1 => if c = true then u ex sl s1 QB else QB false s1) : dAnd t u ex sl st QB := h
theorem w_or {t u : TTd} {QB : Bool → Sto → Prop} (h : t ex sl st fun c s1 => if c = true then QB true s1 else u ex sl s1 QB) : dOr t u ex sl st QB := h
theorem w_not {t : TTd} {QB : Bool → Sto → Prop} (h : t ex sl st fun c s1 => QB (!c) s1) : dNot t ex sl st QB := h
theorem w_yes {QB : Bool → Sto → Prop} (h : QB true st) : dYes ex sl st QB := h
theorem w_andV {ta tb : TEd} (h : ta ex sl st fun x s1 => ∃ c, x = .bl c ∧ if c = true then tb ex sl s1 Q else Q (.bl false) s1) : dAndV ta tb ex sl st Q := h
theorem w_orV {ta tb : TEd} (h : ta ex sl st fun x s1 => ∃ c, x = .bl c ∧ if c = true then Q (.bl true) s1 else tb ex sl s1 Q) : dOrV ta tb ex sl st Q := h
theorem w_notV {ta : TEd} (h : ta ex sl st fun x s1 => ∃ c, x = .bl c ∧ Q (.bl (!c)) s1) : dNotV ta ex sl st Q := h
theorem w_ifE {t : TTd} {ta tb : TEd} (h : t ex sl st fun c s1 => if c = true then ta ex sl s1 Q else tb ex sl s1 Q) : dIf t ta tb ex sl st Q := h
theorem w_nil {QL : List DV → Sto → Prop} (h : QL [] st) : dNil ex sl st QL := h
theorem w_cons {ta : TEd} {tr : TAd} {QL : List DV → Sto → Prop} (h : ta ex sl st fun x s1 => tr ex sl s1 fun xs s2 => QL (x :: xs) s2) : dCons ta tr ex sl st QL := h
theorem w_tup {t : TAd} (h : t ex sl st fun xs s1 => LenOk xs.length ∧ Q (.tup xs) s1) : dTupE t ex sl st Q := h
theorem w_lst {t : TAd} (h : t ex sl st fun xs s1 => LenOk xs.length ∧ NewL xs s1 Q) : dLstE t ex sl st Q := h
theorem w_cb {t : TAd} {r : List DV → Sto → KD → Prop} (h : t ex sl st fun xs s1 => r xs s1 Q) : dCB r t ex sl st Q := h
theorem w_call {t : TAd} {sp : Spd} (h : t ex sl st fun xs s1 => sp xs s1 Q ex) : dCall sp t ex sl st Q := h
theorem w_make {t : TAd} {sp : Spd} {C : Addr} (h : t ex sl st fun ds s1 => ∀ n, s1 n = none → sp (.ref n :: ds) (sset s1 n (.ins C [] [])) (fun v s2 => v = .non ∧ NewI n s2 Q) fun x s2 => ex x (sdel s2 n)) : dMake C sp t ex sl st Q := h
theorem w_meth {ta : TEd} {t : TAd} {cs : Addr → Spd → Prop} {m : Str} (h : ta ex sl st fun d s1 => ∃ C ns fs sp, insOf s1 d = some (C, ns, fs) ∧ cs C sp ∧ (ns.all fun f => !(f == m)) = true ∧ t ex sl s1 fun ds s2 => sp (d :: ds) s2 Q ex) : dMethE cs m ta t ex sl st Q := h
theorem w_fld {ta : TEd} {f : Str} (h : ta ex sl st fun d s1 => ∃ C ns ds v, insOf s1 d = some (C, ns, ds) ∧ (ns.zip ds).lookup f = some v ∧ Q v s1) : dFld ta f ex sl st Q := h
theorem w_sfld {ta tv : TEd} {f : Str} (h : tv (fun x s => D.ex x sl s) sl st fun v s1 => ta (fun x s => D.ex x sl s) sl s1 fun d s2 => ∃ n C ns ds, d = .ref n ∧ s2 n = some (.ins C ns ds) ∧ NoAttr K C f ∧ ns.length < 999 ∧ D.nx sl (sset s2 n (.ins C (putN ns f) (putD ns ds f v)))) : dSFld K ta tv f D sl st := h
theorem w_raise {C : Addr} (h : D.ex ⟨C, [], []⟩ sl st) : dRaise C D sl st := h
theorem w_try {c : Value} {i : Nat} {tb : TSd} {ts : Addr → Addr → TSd} (h : tb { D with ex := tryX K c i ts D } sl st) : dTry K c i tb ts D sl st := h
theorem w_gsq {d : DV} {n : Nat} {gs : TGsd} {QS : Sl → Sto → Prop} (h : ∃ ds, itsOf st d = some ds ∧ ds.length = n ∧ gs ds ex sl st QS) : gSq n gs d ex sl st QS := h
theorem w_gsb {d : DV} {to ti : TEd} {t : DV → DV → DV → Sto → (Sto → Prop) → Prop} {QS : Sl → Sto → Prop} (h : to ex sl st fun o s1 => ti ex sl s1 fun i s2 => t o i d s2 fun s3 => QS sl s3) : gSb to ti t d ex sl st QS := h
theorem w_isT {us : List Value} {te : TEd} (h : te ex sl st fun d s1 => ∃ t b, tyD s1 d = some t ∧ PySem.W.kitAny K t us = some b ∧ Q (.bl b) s1) : dIsT K us te ex sl st Q := h
theorem w_bm {T : String} {r : DV → List DV → Sto → KD → Prop} {to : TEd} {t : TAd} (h : to ex sl st fun d s1 => tyM s1 T d ∧ t ex sl s1 fun ds s2 => r d ds s2 Q) : dBM T r to t ex sl st Q := h
theorem w_bm0 {T : String} {r : DV → List DV → Sto → KD → Prop} {to : TEd} (h : to ex sl st fun d s1 => tyM s1 T d ∧ r d [] s1 Q) : dBM0 T r to ex sl st Q := h
theorem w_m0 {r : DV → List DV → Sto → KD → Prop} {to : TEd} (h : to ex sl st fun d s1 => (∃ a, d = .str a) ∧ r d [] s1 Q) : dM0 r to ex sl st Q := h
theorem w_sl {te : TEd} {tl th : TOd} {r : DV → Option Int → Option Int → Sto → KD → Prop} (h : te ex sl st fun d s1 => tl ex sl s1 fun lo s2 => th ex sl s2 fun hi s3 => r d lo hi s3 Q) : dSl r te tl th ex sl st Q := h
theorem w_part {t : TEd} {QO : Option Int → Sto → Prop} (h : t ex sl st fun d s1 => ∃ i, d = .int i ∧ QO (some i) s1) : dPart t ex sl st QO := h
theorem w_nop {QO : Option Int → Sto → Prop} (h : QO none st) : dNoPart ex sl st QO := h
theorem w_rev {te : TEd} (h : te ex sl st fun d s1 => ∃ ds, lrOf s1 d = some ds ∧ NewL ds.reverse s1 Q) : dRev te ex sl st Q := h
theorem w_isq {te : TEd} {R : List DV → (Sto → Prop) → Sto → Prop} (h : te ex sl st fun d s1 => ∃ ds, itsOf s1 d = some ds ∧ R ds (fun s => itsOf s d = some ds) s1) : iSq te ex sl st R := h
theorem w_r1 {t : TAd} {R : List DV → (Sto → Prop) → Sto → Prop} (h : t ex sl st fun ds s1 => ∃ j : Int, ds = [.int j] ∧ (-(2 ^ 62) ≤ j ∧ j < 2 ^ 62) ∧ R (rgD 0 j.toNat) (fun _ => True) s1) : iR1 t ex sl st R := h
theorem w_r2 {t : TAd} {R : List DV → (Sto → Prop) → Sto → Prop} (h : t ex sl st fun ds s1 => ∃ i j : Int, ds = [.int i, .int j] ∧ (-(2 ^ 62) ≤ i ∧ i < 2 ^ 62 ∧ -(2 ^ 62) ≤ j ∧ j < 2 ^ 62) ∧ R (rgD i (j - i).toNat) (fun _ => True) s1) : iR2 t ex sl st R := h
theorem w_ist {te : TEd} {R : List DV → (Sto → Prop) → Sto → Prop} (h : te ex sl st fun d s1 => ∃ x, d = .str x ∧ R (sgD x) (fun _ => True) s1) : iSt te ex sl st R := h
theorem w_for {wi : TId} {g : TGd} {tb : TSd} (h : wi (fun x s => D.ex x sl s) sl st fun xs gd s1 => ∃ Pv : Nat → Sl → Sto → Prop, Pv 0 sl s1 ∧ (∀ i sl st, i ≤ xs.length → Pv i sl st → gd st) ∧ (∀ i x sl st, xs[i]? = some x → Pv i sl st → g x (fun x s => D.ex x sl s) sl st fun sl2 s2 => tb { D with nx := Pv (i + 1), ct := Pv (i + 1), bk := D.nx } sl2 s2) ∧ (∀ sl st, Pv xs.length sl st → D.nx sl st)) : dForE wi g tb D sl st := h
theorem w_lc {wi : TId} {g : TGd} {tt : TTd} {te : TEd} {vs : List Nat} (h : wi ex sl st fun xs gd s1 => xs.length ≤ 100000 ∧ ∃ Pv : Nat → List DV → Sto → Prop, Pv 0 [] s1 ∧ (∀ i acc st, i ≤ xs.length → Pv i acc st → gd st) ∧ (∀ i x acc st, xs[i]? = some x → Pv i acc st → g x noX (wipeD sl vs) st fun sl2 s2 => tt noX sl2 s2 fun b s3 => if b = true then te noX sl2 s3 fun y s4 => Pv (i + 1) (acc ++ [y]) s4 else Pv (i + 1) acc s3) ∧ (∀ acc st, Pv xs.length acc st → NewL acc st Q)) : dLcE wi g tt te vs ex sl st Q := h
theorem w_var {i : Nat} {d : DV} (h : sl[i]? = some (some d)) (q : Q d st) : dVar i ex sl st Q := ⟨d, h, q⟩
theorem w_gcn {d : DV} {r : List DV} {g : TGd} {gs : TGsd} {QS : Sl → Sto → Prop} (h : g d ex sl st fun sl1 s1 => gs r noX sl1 s1 QS) : gCn g gs (d :: r) ex sl st QS := ⟨d, r, rfl, h⟩
theorem w_gnl {QS : Sl → Sto → Prop} (h : QS sl st) : gNl [] ex sl st QS := ⟨rfl, h⟩
theorem w_gv {d : DV} (h : Q d st) : ∃ d' s2, Gv d st d' s2 ∧ Q d' s2 := ⟨d, st, .refl, h⟩
theorem w_gv_non  (h : Q (.non) st) : ∃ d' s2, Gv (.non) st d' s2 ∧ Q d' s2 := ⟨_, st, .refl, h⟩
theorem w_gv_bl {b : Bool} (h : Q (.bl b) st) : ∃ d' s2, Gv (.bl b) st d' s2 ∧ Q d' s2 := ⟨_, st, .refl, h⟩
theorem w_gv_int {i : Int} (h : Q (.int i) st) : ∃ d' s2, Gv (.int i) st d' s2 ∧ Q d' s2 := ⟨_, st, .refl, h⟩
theorem w_gv_str {s : Str} (h : Q (.str s) st) : ∃ d' s2, Gv (.str s) st d' s2 ∧ Q d' s2 := ⟨_, st, .refl, h⟩
theorem w_gv_tup {ds : List DV} (h : Q (.tup ds) st) : ∃ d' s2, Gv (.tup ds) st d' s2 ∧ Q d' s2 := ⟨_, st, .refl, h⟩
theorem w_gv_lst {ds : List DV} (h : Q (.lst ds) st) : ∃ d' s2, Gv (.lst ds) st d' s2 ∧ Q d' s2 := ⟨_, st, .refl, h⟩
theorem w_gv_ins {C : Addr} {ns : List Str} {ds : List DV} (h : Q (.ins C ns ds) st) : ∃ d' s2, Gv (.ins C ns ds) st d' s2 ∧ Q d' s2 := ⟨_, st, .refl, h⟩
theorem w_frz {n : Nat} {ds : List DV} (h : st n = some (.lst ds)) (q : ∃ d' s2, Gv (.lst ds) (sdel st n) d' s2 ∧ Q d' s2) : ∃ d' s2, Gv (.ref n) st d' s2 ∧ Q d' s2 := by
  obtain ⟨d', s2, g, q⟩ := q
  exact ⟨d', s2, .lst h g, q⟩
theorem w_frzI {n : Nat} {C : Addr} {ns : List Str} {ds : List DV} (h : st n = some (.ins C ns ds)) (q : ∃ d' s2, Gv (.ins C ns ds) (sdel st n) d' s2 ∧ Q d' s2) : ∃ d' s2, Gv (.ref n) st d' s2 ∧ Q d' s2 := by
  obtain ⟨d', s2, g, q⟩ := q
  exact ⟨d', s2, .ins h g, q⟩
theorem w_del {d : DV} (n : Nat) (q : ∃ d' s2, Gv d (sdel st n) d' s2 ∧ Q d' s2) : ∃ d' s2, Gv d st d' s2 ∧ Q d' s2 := by
  obtain ⟨d', s2, g, q⟩ := q
  exact ⟨d', s2, .del g, q⟩
theorem w_sub {d : DV} {st0 : Sto} (e : ∀ n o, st0 n = some o → st n = some o) (q : ∃ d' s2, Gv d st0 d' s2 ∧ Q d' s2) : ∃ d' s2, Gv d st d' s2 ∧ Q d' s2 := by
  obtain ⟨d', s2, g, q⟩ := q
  exact ⟨d', s2, .sub e g, q⟩
theorem w_tie {d : DV} {n : Nat} {i j k : Int} (h : st n = some (.lst [.int i, .int j, .int k])) (q : ∃ d' s2, Gv d (sset st n .well) d' s2 ∧ Q d' s2) : ∃ d' s2, Gv d st d' s2 ∧ Q d' s2 := by
  obtain ⟨d', s2, g, q⟩ := q
  exact ⟨d', s2, .well h g, q⟩
theorem w_blP {b : Bool} {P : Bool → Prop} (q : P b) : ∃ c, DV.bl b = .bl c ∧ P c := ⟨b, rfl, q⟩
theorem w_intP {b : Int} {P : Int → Prop} (q : P b) : ∃ c, DV.int b = .int c ∧ P c := ⟨b, rfl, q⟩
theorem w_strP {b : Str} {P : Str → Prop} (q : P b) : ∃ c, DV.str b = .str c ∧ P c := ⟨b, rfl, q⟩
theorem w_strE {b : Str} {P : Prop} (q : P) : (∃ c, DV.str b = .str c) ∧ P := ⟨⟨b, rfl⟩, q⟩
theorem w_addI {i j : Int} (q : Q (.int (i + j)) st) : qAdd (.int i) (.int j) st Q := .inl ⟨i, j, rfl, rfl, q⟩
theorem w_addS {a b : Str} (h : a.length + b.length ≤ 100000) (q : Q (.str (a ++ b)) st) : qAdd (.str a) (.str b) st Q := .inr (.inl ⟨a, b, rfl, rfl, h, q⟩)
theorem w_addT {a b : List DV} (h0 : a ≠ []) (h : a.length + b.length ≤ 100000) (q : Q (.tup (a ++ b)) st) : qAdd (.tup a) (.tup b) st Q := .inr (.inr (.inl ⟨a, b, rfl, rfl, h, q⟩))
theorem w_addTT {a b : List DV} (h : a.length + b.length ≤ 100000) (q : Q (.tup (a ++ b)) st) : qAdd (.tup a) (.tup b) st Q := .inr (.inr (.inl ⟨a, b, rfl, rfl, h, q⟩))
theorem w_addL {x y : DV} {a b : List DV} (h1 : lstOf st x = some a) (h2 : lstOf st y = some b) (h : a.length + b.length ≤ 100000) (q : NewL (a ++ b) st Q) : qAdd x y st Q := .inr (.inr (.inr ⟨a, b, h1, h2, h, q⟩))
theorem w_subI {i j : Int} (q : Q (.int (i - j)) st) : qII (fun i j => .int (i - j)) (.int i) (.int j) st Q := ⟨i, j, rfl, rfl, q⟩
theorem w_ii {g : Int → Int → DV} {i j : Int} (q : Q (g i j) st) : qII g (.int i) (.int j) st Q := ⟨i, j, rfl, rfl, q⟩
theorem w_ic {C : Int → Int → Prop} {g : Int → Int → DV} {i j : Int} (h : C i j) (q : Q (g i j) st) : qIC C g (.int i) (.int j) st Q := ⟨i, j, rfl, rfl, h, q⟩
theorem w_mulI {i j : Int} (h : CMul i j) (q : Q (.int (i * j)) st) : qMul (.int i) (.int j) st Q := .inl ⟨i, j, rfl, rfl, .inl h, q⟩
theorem w_mulW {i j : Int} (h : CMulW i j) (q : Q (.int (i * j)) st) : qMul (.int i) (.int j) st Q := .inl ⟨i, j, rfl, rfl, .inr h, q⟩
theorem w_neg {i : Int} (q : Q (.int (-i)) st) : qNeg (.int i) st Q := ⟨i, rfl, q⟩
theorem deq_int {i j : Int} : deq (.int i) (.int j) = decide (i = j) := by
  by_cases h : i = j
  · subst h; simp [deq, py, PyData.eqv]
  · simp [deq, py, PyData.eqv, h]
theorem deq_str {i j : Str} : deq (.str i) (.str j) = decide (i = j) := eqv_str
theorem w_eqI {i j : Int} (q : Q (.bl (decide (i = j))) st) : qEq (.int i) (.int j) st Q := ⟨rfl, rfl, by rw [← deq_int] at q; exact q⟩
theorem w_eqS {i j : Str} (q : Q (.bl (decide (i = j))) st) : qEq (.str i) (.str j) st Q := ⟨rfl, rfl, by rw [← deq_str] at q; exact q⟩
theorem w_neI {i j : Int} (q : Q (.bl (!decide (i = j))) st) : qNe (.int i) (.int j) st Q := ⟨rfl, rfl, by rw [← deq_int] at q; exact q⟩
theorem w_neS {i j : Str} (q : Q (.bl (!decide (i = j))) st) : qNe (.str i) (.str j) st Q := ⟨rfl, rfl, by rw [← deq_str] at q; exact q⟩
theorem w_eq {x y : DV} (h1 : okD 60 (vw st x) = true) (h2 : okD 60 (vw st y) = true) (q : Q (.bl (deq (vw st x) (vw st y))) st) : qEq x y st Q := ⟨h1, h2, q⟩
theorem w_ne {x y : DV} (h1 : okD 60 (vw st x) = true) (h2 : okD 60 (vw st y) = true) (q : Q (.bl (!deq (vw st x) (vw st y))) st) : qNe x y st Q := ⟨h1, h2, q⟩
theorem w_is {x : DV} (q : Q (.bl (isN x)) st) : qIs x .non st Q := ⟨rfl, q⟩
theorem w_isN {x : DV} (q : Q (.bl (!isN x)) st) : qIsNot x .non st Q := ⟨rfl, q⟩
theorem w_ixT {ds : List DV} {j : Int} {d : DV} (h : atI ds j = some d) (q : Q d st) : qIx (.tup ds) (.int j) st Q := .inl ⟨ds, j, d, rfl, rfl, h, q⟩
theorem w_ixL {ds : List DV} {j : Int} {d : DV} (h : atI ds j = some d) (q : Q d st) : qIx (.lst ds) (.int j) st Q := .inl ⟨ds, j, d, rfl, rfl, h, q⟩
theorem w_ixC {ds : List DV} {j : Int} {d : DV} (h : atI ds j = some d) (q : Q d st) : qIx (.scr ds) (.int j) st Q := .inl ⟨ds, j, d, rfl, rfl, h, q⟩
theorem w_ixR {n : Nat} {ds : List DV} {j : Int} {d : DV} (e : st n = some (.lst ds)) (h : atI ds j = some d) (q : Q d st) : qIx (.ref n) (.int j) st Q := .inl ⟨ds, j, d, by show (match st n with | some (.lst ds) => some ds | _ => none) = _; rw [e], rfl, h, q⟩
theorem w_ixS {s : Str} {j : Int} {c : Nat} (h : atI s.cps.toList j = some c) (q : Q (.str ⟨#[c]⟩) st) : qIx (.str s) (.int j) st Q := .inr ⟨s, j, c, rfl, rfl, h, q⟩
theorem w_slL {x : DV} {ds : List DV} {lo hi : Option Int} (h : lrOf st x = some ds) (q : NewL (cutD ds lo hi) st Q) : qSl x lo hi st Q := .inl ⟨ds, h, q⟩
theorem w_slS {s : Str} {lo hi : Option Int} (q : Q (.str (cutS s lo hi)) st) : qSl (.str s) lo hi st Q := .inr (.inl ⟨s, rfl, q⟩)
theorem w_slT {ds : List DV} {lo hi : Option Int} (h : ¬ (HT.sIx ds.length 0 lo = 0 ∧ HT.sIx ds.length ds.length hi = ds.length)) (q : Q (.tup (cutD ds lo hi)) st) : qSl (.tup ds) lo hi st Q := .inr (.inr ⟨ds, rfl, q⟩)
theorem w_slTT {ds : List DV} {lo hi : Option Int} (q : Q (.tup (cutD ds lo hi)) st) : qSl (.tup ds) lo hi st Q := .inr (.inr ⟨ds, rfl, q⟩)
theorem w_cut {t u : TSd} (Mid : Sl → Sto → Prop) (rest : ∀ sl st, Mid sl st → u D sl st) (h : ∀ U : Sl → Sto → Prop, (∀ sl st, Mid sl st → U sl st) → t { D with nx := U } sl st) : dSeq t u D sl st := h (u D) rest
theorem w_lenok {n : Nat} {P : Prop} (h : LenOk n) (q : P) : LenOk n ∧ P := ⟨h, q⟩
theorem w_tym {T : String} {d : DV} {P : Prop} (h : tyM st T d) (q : P) : tyM st T d ∧ P := ⟨h, q⟩
theorem tyM_l {n : Nat} {ds : List DV} (e : st n = some (.lst ds)) : tyM st "list" (.ref n) := by show (match st n with | some (.lst _) => ("list" : String) = "list" | some (.dct _ _) => "list" = "dict" | _ => False); rw [e]
@[reducible] def sKB : DV → Bool
  | .str _ => true
  | _ => false
@[reducible] def iKB : DV → Bool
  | .int _ => true
  | .bl _ => true
  | _ => false
@[reducible] def bKB : DV → Bool
  | .bl _ => true
  | _ => false
@[reducible] def tKB : DV → Bool
  | .tup _ => true
  | _ => false
@[reducible] def lKB : DV → Bool
  | .lst _ => true
  | .scr _ => true
  | _ => false
@[reducible] def dKB : DV → Bool
  | .dct _ _ => true
  | _ => false
/-- data: no instance, nothing of the store -/
@[reducible] def knD : DV → Bool
  | .ins _ _ _ => false
  | .ref _ => false
  | .adr _ => false
  | .ty _ => false
  | _ => true
theorem kkD : ∀ a ∈ (["NoneType", "bool", "int", "str", "list", "tuple", "dict"] : List String), kitB a "str" = some (a == "str") ∧ kitB a "int" = some (a == "int" || a == "bool") ∧ kitB a "bool" = some (a == "bool") ∧ kitB a "tuple" = some (a == "tuple") ∧ kitB a "list" = some (a == "list") ∧ kitB a "dict" = some (a == "dict") := by decide +kernel

theorem w_isi_str {x : DV} (hk : knD x = true) (q : Q (.bl (sKB x)) st) : qIsi K [x, .ty "str"] st Q := by
  cases x with
  | non => exact ⟨_, _, _, _, _, rfl, rfl, rfl, kit_ty (kkD "NoneType" (by simp)).1, q⟩
  | bl _ => exact ⟨_, _, _, _, _, rfl, rfl, rfl, kit_ty (kkD "bool" (by simp)).1, q⟩
  | int _ => exact ⟨_, _, _, _, _, rfl, rfl, rfl, kit_ty (kkD "int" (by simp)).1, q⟩
  | str _ => exact ⟨_, _, _, _, _, rfl, rfl, rfl, kit_ty (kkD "str" (by simp)).1, q⟩
  | tup _ => exact ⟨_, _, _, _, _, rfl, rfl, rfl, kit_ty (kkD "tuple" (by simp)).1, q⟩
  | lst _ => exact ⟨_, _, _, _, _, rfl, rfl, rfl, kit_ty (kkD "list" (by simp)).1, q⟩
  | scr _ => exact ⟨_, _, _, _, _, rfl, rfl, rfl, kit_ty (kkD "list" (by simp)).1, q⟩
  | dct _ _ => exact ⟨_, _, _, _, _, rfl, rfl, rfl, kit_ty (kkD "dict" (by simp)).1, q⟩
  | _ => cases hk
theorem w_isi_int {x : DV} (hk : knD x = true) (q : Q (.bl (iKB x)) st) : qIsi K [x, .ty "int"] st Q := by
  cases x with
  | non => exact ⟨_, _, _, _, _, rfl, rfl, rfl, kit_ty (kkD "NoneType" (by simp)).2.1, q⟩
  | bl _ => exact ⟨_, _, _, _, _, rfl, rfl, rfl, kit_ty (kkD "bool" (by simp)).2.1, q⟩
  | int _ => exact ⟨_, _, _, _, _, rfl, rfl, rfl, kit_ty (kkD "int" (by simp)).2.1, q⟩
  | str _ => exact ⟨_, _, _, _, _, rfl, rfl, rfl, kit_ty (kkD "str" (by simp)).2.1, q⟩
  | tup _ => exact ⟨_, _, _, _, _, rfl, rfl, rfl, kit_ty (kkD "tuple" (by simp)).2.1, q⟩
  | lst _ => exact ⟨_, _, _, _, _, rfl, rfl, rfl, kit_ty (kkD "list" (by simp)).2.1, q⟩
  | scr _ => exact ⟨_, _, _, _, _, rfl, rfl, rfl, kit_ty (kkD "list" (by simp)).2.1, q⟩
  | dct _ _ => exact ⟨_, _, _, _, _, rfl, rfl, rfl, kit_ty (kkD "dict" (by simp)).2.1, q⟩
  | _ => cases hk
theorem w_isi_bool {x : DV} (hk : knD x = true) (q : Q (.bl (bKB x)) st) : qIsi K [x, .ty "bool"] st Q := by
  cases x with
  | non => exact ⟨_, _, _, _, _, rfl, rfl, rfl, kit_ty (kkD "NoneType" (by simp)).2.2.1, q⟩
  | bl _ => exact ⟨_, _, _, _, _, rfl, rfl, rfl, kit_ty (kkD "bool" (by simp)).2.2.1, q⟩
  | int _ => exact ⟨_, _, _, _, _, rfl, rfl, rfl, kit_ty (kkD "int" (by simp)).2.2.1, q⟩
  | str _ => exact ⟨_, _, _, _, _, rfl, rfl, rfl, kit_ty (kkD "str" (by simp)).2.2.1, q⟩
  | tup _ => exact ⟨_, _, _, _, _, rfl, rfl, rfl, kit_ty (kkD "tuple" (by simp)).2.2.1, q⟩
  | lst _ => exact ⟨_, _, _, _, _, rfl, rfl, rfl, kit_ty (kkD "list" (by simp)).2.2.1, q⟩
  | scr _ => exact ⟨_, _, _, _, _, rfl, rfl, rfl, kit_ty (kkD "list" (by simp)).2.2.1, q⟩
  | dct _ _ => exact ⟨_, _, _, _, _, rfl, rfl, rfl, kit_ty (kkD "dict" (by simp)).2.2.1, q⟩
  | _ => cases hk
theorem w_isi_tuple {x : DV} (hk : knD x = true) (q : Q (.bl (tKB x)) st) : qIsi K [x, .ty "tuple"] st Q := by
  cases x with
  | non => exact ⟨_, _, _, _, _, rfl, rfl, rfl, kit_ty (kkD "NoneType" (by simp)).2.2.2.1, q⟩
  | bl _ => exact ⟨_, _, _, _, _, rfl, rfl, rfl, kit_ty (kkD "bool" (by simp)).2.2.2.1, q⟩
  | int _ => exact ⟨_, _, _, _, _, rfl, rfl, rfl, kit_ty (kkD "int" (by simp)).2.2.2.1, q⟩
  | str _ => exact ⟨_, _, _, _, _, rfl, rfl, rfl, kit_ty (kkD "str" (by simp)).2.2.2.1, q⟩
  | tup _ => exact ⟨_, _, _, _, _, rfl, rfl, rfl, kit_ty (kkD "tuple" (by simp)).2.2.2.1, q⟩
  | lst _ => exact ⟨_, _, _, _, _, rfl, rfl, rfl, kit_ty (kkD "list" (by simp)).2.2.2.1, q⟩
  | scr _ => exact ⟨_, _, _, _, _, rfl, rfl, rfl, kit_ty (kkD "list" (by simp)).2.2.2.1, q⟩
  | dct _ _ => exact ⟨_, _, _, _, _, rfl, rfl, rfl, kit_ty (kkD "dict" (by simp)).2.2.2.1, q⟩
  | _ => cases hk
theorem w_isi_list {x : DV} (hk : knD x = true) (q : Q (.bl (lKB x)) st) : qIsi K [x, .ty "list"] st Q := by
  cases x with
  | non => exact ⟨_, _, _, _, _, rfl, rfl, rfl, kit_ty (kkD "NoneType" (by simp)).2.2.2.2.1, q⟩
  | bl _ => exact ⟨_, _, _, _, _, rfl, rfl, rfl, kit_ty (kkD "bool" (by simp)).2.2.2.2.1, q⟩
  | int _ => exact ⟨_, _, _, _, _, rfl, rfl, rfl, kit_ty (kkD "int" (by simp)).2.2.2.2.1, q⟩
  | str _ => exact ⟨_, _, _, _, _, rfl, rfl, rfl, kit_ty (kkD "str" (by simp)).2.2.2.2.1, q⟩
  | tup _ => exact ⟨_, _, _, _, _, rfl, rfl, rfl, kit_ty (kkD "tuple" (by simp)).2.2.2.2.1, q⟩
  | lst _ => exact ⟨_, _, _, _, _, rfl, rfl, rfl, kit_ty (kkD "list" (by simp)).2.2.2.2.1, q⟩
  | scr _ => exact ⟨_, _, _, _, _, rfl, rfl, rfl, kit_ty (kkD "list" (by simp)).2.2.2.2.1, q⟩
  | dct _ _ => exact ⟨_, _, _, _, _, rfl, rfl, rfl, kit_ty (kkD "dict" (by simp)).2.2.2.2.1, q⟩
  | _ => cases hk
theorem w_isi_dict {x : DV} (hk : knD x = true) (q : Q (.bl (dKB x)) st) : qIsi K [x, .ty "dict"] st Q := by
  cases x with
  | non => exact ⟨_, _, _, _, _, rfl, rfl, rfl, kit_ty (kkD "NoneType" (by simp)).2.2.2.2.2, q⟩
  | bl _ => exact ⟨_, _, _, _, _, rfl, rfl, rfl, kit_ty (kkD "bool" (by simp)).2.2.2.2.2, q⟩
  | int _ => exact ⟨_, _, _, _, _, rfl, rfl, rfl, kit_ty (kkD "int" (by simp)).2.2.2.2.2, q⟩
  | str _ => exact ⟨_, _, _, _, _, rfl, rfl, rfl, kit_ty (kkD "str" (by simp)).2.2.2.2.2, q⟩
  | tup _ => exact ⟨_, _, _, _, _, rfl, rfl, rfl, kit_ty (kkD "tuple" (by simp)).2.2.2.2.2, q⟩
  | lst _ => exact ⟨_, _, _, _, _, rfl, rfl, rfl, kit_ty (kkD "list" (by simp)).2.2.2.2.2, q⟩
  | scr _ => exact ⟨_, _, _, _, _, rfl, rfl, rfl, kit_ty (kkD "list" (by simp)).2.2.2.2.2, q⟩
  | dct _ _ => exact ⟨_, _, _, _, _, rfl, rfl, rfl, kit_ty (kkD "dict" (by simp)).2.2.2.2.2, q⟩
  | _ => cases hk
theorem w_isiC {C D : Addr} {ns : List Str} {ds : List DV} {b : Bool} (h : PySem.W.kitOne K (.ref C) (.ref D) = some b) (q : Q (.bl b) st) : qIsi K [.ins C ns ds, .adr D] st Q := ⟨_, _, _, _, _, rfl, rfl, rfl, h, q⟩
theorem w_isi {x c : DV} {t u : Value} {b : Bool} (h1 : tyD st x = some t) (h2 : clsD c = some u) (h : PySem.W.kitOne K t u = some b) (q : Q (.bl b) st) : qIsi K [x, c] st Q := ⟨_, _, _, _, _, rfl, h1, h2, h, q⟩
theorem w_len {x : DV} {n : Nat} (h : lenOf st x = some n) (q : Q (.int n) st) : qLen [x] st Q := ⟨x, n, rfl, h, q⟩
theorem w_lenS {s : Str} (q : Q (.int s.length) st) : qLen [.str s] st Q := ⟨_, _, rfl, rfl, q⟩
theorem w_lenT {s : List DV} (q : Q (.int s.length) st) : qLen [.tup s] st Q := ⟨_, _, rfl, rfl, q⟩
theorem w_lenL {s : List DV} (q : Q (.int s.length) st) : qLen [.lst s] st Q := ⟨_, _, rfl, rfl, q⟩
theorem w_lenC {s : List DV} (q : Q (.int s.length) st) : qLen [.scr s] st Q := ⟨_, _, rfl, rfl, q⟩
theorem w_lenR {n : Nat} {ds : List DV} (e : st n = some (.lst ds)) (q : Q (.int ds.length) st) : qLen [.ref n] st Q := ⟨_, _, rfl, by show ((match st n with | some (.lst ds) => some ds | _ => none) : Option (List DV)).map _ = _; rw [e]; rfl, q⟩
theorem w_int1b {b : Bool} (q : Q (.int (if b then 1 else 0)) st) : qInt1 [.bl b] st Q := .inr ⟨b, rfl, q⟩
theorem w_int1i {b : Int} (q : Q (.int b) st) : qInt1 [.int b] st Q := .inl ⟨b, rfl, q⟩
theorem w_list {x : DV} {es : List DV} (h : itsOf st x = some es) (q : NewL es st Q) : qList [x] st Q := ⟨x, es, rfl, h, q⟩
theorem w_all {x : DV} {bs : List Bool} (h : lrOf st x = some (bs.map DV.bl)) (q : Q (.bl (bs.all id)) st) : qAll [x] st Q := ⟨x, bs, rfl, h, q⟩
theorem w_strip {a b : Str} (q : Q (.str (Txt.stripChars a b)) st) : qStrip (.str a) [.str b] st Q := ⟨a, b, rfl, rfl, q⟩
theorem w_join {a : Str} {l : DV} {ss : List Str} (h : itsOf st l = some (ss.map DV.str)) (hl : (ss.map (·.length)).sum + ss.length * a.length ≤ 100000) (q : Q (.str (Str.join a ss)) st) : qJoin (.str a) [l] st Q := ⟨a, l, ss, rfl, rfl, h, hl, q⟩
theorem w_upper {a : Str} (h : SOk (Txt.upper a)) (q : Q (.str (Txt.upper a)) st) : qUpper (.str a) [] st Q := ⟨a, rfl, h, q⟩
theorem w_app {n : Nat} {es : List DV} {y : DV} (e : st n = some (.lst es)) (hl : es.length < 100000) (q : Q .non (sset st n (.lst (es ++ [y])))) : qApp (.ref n) [y] st Q := ⟨n, es, y, rfl, rfl, e, hl, q⟩
theorem w_set {n m : Nat} {es : List DV} {j : Int} {v : DV} {QQ : Sto → Prop} (e : st n = some (.lst es)) (h : ixN es.length j = some m) (q : QQ (sset st n (.lst (es.set m v)))) : qSet (.ref n) (.int j) v st QQ := ⟨n, j, m, es, rfl, rfl, e, h, q⟩
theorem w_insF {P : Addr → List Str → List DV → Prop} {C : Addr} {ns : List Str} {ds : List DV} (q : P C ns ds) : ∃ C' ns' ds', insOf st (.ins C ns ds) = some (C', ns', ds') ∧ P C' ns' ds' := ⟨C, ns, ds, rfl, q⟩
theorem w_fldI {f : Str} {C : Addr} {ns : List Str} {ds : List DV} {v : DV} {P : DV → Prop} (h : (ns.zip ds).lookup f = some v) (q : P v) : ∃ C' ns' ds' v', insOf st (.ins C ns ds) = some (C', ns', ds') ∧ (ns'.zip ds').lookup f = some v' ∧ P v' := ⟨C, ns, ds, v, rfl, h, q⟩
theorem insR {n : Nat} {C : Addr} {ns : List Str} {ds : List DV} (e : st n = some (.ins C ns ds)) : insOf st (.ref n) = some (C, ns, ds) := by show (match st n with | some (.ins C ns ds) => some (C, ns, ds) | _ => none) = _; rw [e]
theorem w_fldR {f : Str} {n : Nat} {C : Addr} {ns : List Str} {ds : List DV} {v : DV} {P : DV → Prop} (e : st n = some (.ins C ns ds)) (h : (ns.zip ds).lookup f = some v) (q : P v) : ∃ C' ns' ds' v', insOf st (.ref n) = some (C', ns', ds') ∧ (ns'.zip ds').lookup f = some v' ∧ P v' := ⟨C, ns, ds, v, insR e, h, q⟩
theorem w_mthI {cs : Addr → Spd → Prop} {m : Str} {C : Addr} {ns : List Str} {ds : List DV} {sp : Spd} {P : Spd → Prop} (hc : cs C sp) (hm : (ns.all fun f => !(f == m)) = true) (q : P sp) : ∃ C' ns' fs sp, insOf st (.ins C ns ds) = some (C', ns', fs) ∧ cs C' sp ∧ (ns'.all fun f => !(f == m)) = true ∧ P sp := ⟨C, ns, ds, sp, rfl, hc, hm, q⟩
theorem w_mthR {cs : Addr → Spd → Prop} {m : Str} {n : Nat} {C : Addr} {ns : List Str} {ds : List DV} {sp : Spd} {P : Spd → Prop} (e : st n = some (.ins C ns ds)) (hc : cs C sp) (hm : (ns.all fun f => !(f == m)) = true) (q : P sp) : ∃ C' ns' fs sp, insOf st (.ref n) = some (C', ns', fs) ∧ cs C' sp ∧ (ns'.all fun f => !(f == m)) = true ∧ P sp := ⟨C, ns, ds, sp, insR e, hc, hm, q⟩
theorem its_r {n : Nat} {ds : List DV} (e : st n = some (.lst ds)) : itsOf st (.ref n) = some ds := by show (match st n with | some (.lst ds) => some ds | _ => none) = _; rw [e]
theorem lr_r {n : Nat} {ds : List DV} (e : st n = some (.lst ds)) : lrOf st (.ref n) = some ds := by show (match st n with | some (.lst ds) => some ds | _ => none) = _; rw [e]
theorem lst_r {n : Nat} {ds : List DV} (e : st n = some (.lst ds)) : lstOf st (.ref n) = some ds := by show (match st n with | some (.lst ds) => some ds | _ => none) = _; rw [e]
theorem vw_r {n : Nat} {ds : List DV} (e : st n = some (.lst ds)) : vw st (.ref n) = .lst ds := by show (match st n with | some (.lst ds) => DV.lst ds | _ => .ref n) = _; rw [e]
/-- a comprehension whose turns change nothing of the store -/
theorem w_lcm {wi : TId} {g : TGd} {tt : TTd} {te : TEd} {vs : List Nat} {xs : List DV} (f : Nat → DV → Option DV) (G : Sto → Prop) (hg : G st)
    (ht : ∀ i x, xs[i]? = some x → ∀ QQ : Option DV → Sto → Prop, QQ (f i x) st → g x noX (wipeD sl vs) st fun sl2 s2 => tt noX sl2 s2 fun b s3 => if b = true then te noX sl2 s3 fun y s4 => QQ (some y) s4 else QQ none s3)
    (hl : xs.length ≤ 100000) (q : NewL ((xs.mapIdx f).filterMap id) st Q) :
    xs.length ≤ 100000 ∧ ∃ Pv : Nat → List DV → Sto → Prop, Pv 0 [] st ∧ (∀ i acc st, i ≤ xs.length → Pv i acc st → G st) ∧ (∀ i x acc st, xs[i]? = some x → Pv i acc st → g x noX (wipeD sl vs) st fun sl2 s2 => tt noX sl2 s2 fun b s3 => if b = true then te noX sl2 s3 fun y s4 => Pv (i + 1) (acc ++ [y]) s4 else Pv (i + 1) acc s3) ∧ (∀ acc st, Pv xs.length acc st → NewL acc st Q) := by
  refine ⟨hl, fun i acc s => s = st ∧ acc = ((xs.mapIdx f).take i).filterMap id, ⟨rfl, by simp⟩, fun i acc s _ h => h.1 ▸ hg, ?_, ?_⟩
  · rintro i x acc s hx ⟨rfl, rfl⟩
    have hi : i < xs.length := (List.getElem?_eq_some_iff.mp hx).1
    have hxe : (xs.mapIdx f)[i]? = some (f i x) := by rw [List.getElem?_mapIdx, hx]; rfl
    have step : ((xs.mapIdx f).take (i + 1)).filterMap id = ((xs.mapIdx f).take i).filterMap id ++ (match f i x with | some y => [y] | none => []) := by
      rw [List.take_add_one, hxe, List.filterMap_append]
      congr 1
      cases f i x <;> rfl
    have := ht i x hx (fun o s' => match o with | some y => (s' = s ∧ ((xs.mapIdx f).take i).filterMap id ++ [y] = ((xs.mapIdx f).take (i + 1)).filterMap id) | none => s' = s ∧ ((xs.mapIdx f).take i).filterMap id = ((xs.mapIdx f).take (i + 1)).filterMap id) (by
      cases e : f i x with
      | some y => exact ⟨rfl, by rw [step, e]⟩
      | none => exact ⟨rfl, by rw [step, e]; simp⟩)
    exact this
  · rintro acc s ⟨rfl, rfl⟩
    rw [show (xs.mapIdx f).take xs.length = xs.mapIdx f from List.take_of_length_le (by simp)]
    exact q

end
end Kn

set_option Elab.async false
set_option linter.all false
set_option maxRecDepth 100000
set_option maxHeartbeats 2000000
namespace Kn
open PySem PySem.Spec PyProof.Rows L2
section
variable {K : PySem.W.Frag} {E : EK} {X : Cx} {W W' : Wd} {sl : Sl} {st st' : Sto} {σ : L2.St} {H H' : Hp} {ex : KX}
/-! ## the caught exception's kind -/
def dIsX (K : PySem.W.Frag) (a C : Addr) (i : Nat) (us : List Value) : TEd := fun ex sl st Q => sl[i]? = some (some (.adr a)) ∧ ExcC K C ∧ ∃ b, PySem.W.kitAny K (.ref C) us = some b ∧ Q (.bl b) st
def dIsX1 (K : PySem.W.Frag) (a C : Addr) (i : Nat) (u : Value) : TEd := fun ex sl st Q => sl[i]? = some (some (.adr a)) ∧ ExcC K C ∧ ∃ b, PySem.W.kitOne K (.ref C) u = some b ∧ Q (.bl b) st
theorem d_isXT {a C : Addr} {oe : Obj} {pn : List (Addr × Obj)} {i : Nat} {e : Expr} {es : List Expr} {cs : List V} {us : List Value} {kk : Nat} {p tpos pos : Pos} (hK : X.K = K) (hz : Zc (.ref C) none oe) (hf : ∃ vs, oe.data = .fields vs) (he : PE (X.suite a ((a, oe) :: pn)) e (tVar i)) (hcs : PCs (X.suite a ((a, oe) :: pn)) es cs us) (hl : cs.length ≤ 100000)
    (hg : Gl (X.suite a ((a, oe) :: pn)) "isinstance") (hm : X.mg "isinstance" = none) (hv : bootBuiltins "isinstance" = some (.builtin "isinstance"))
    (hst : starEach [e, .Tuple es kk tpos] X.env = (false, eval e X.env) :: starEach [.Tuple es kk tpos] X.env := by rfl) (hst2 : starEach [.Tuple es kk tpos] X.env = (false, eval (.Tuple es kk tpos) X.env) :: starEach [] X.env := by rfl)
    (hpl : (backTo pos (starEach [.Tuple es kk tpos] X.env)).any (·.1) = false := by rfl) : PE (X.suite a ((a, oe) :: pn)) (.Call (.Name "isinstance" p) [e, .Tuple es kk tpos] [] pos) (canE K E (dIsX K a C i us)) := by
  obtain ⟨h1, h2⟩ := hcs.pa
  refine peI (pe_callB (isEXK K hK hz hf) hg hm hv (pa_cons he (pa_cons (pe_tup h1) pa_nil hst2) hst) (by decide) (by decide) hst hpl) fun A ⟨e1, xc, b, e2, q⟩ k => ?_
  obtain ⟨v, g1, g2⟩ := A.s.2 _ _ e1
  cases g2
  refine ⟨.ref a, g1, szl hl, fun t ht => ?_⟩
  exact ⟨C, b, rfl, rfl, xc, .inr ⟨t, cs, us, rfl, upd_same, h2, e2, k _ _ _ _ _ (Wd.Le.refl _) (A.r.same (Same.new ht)) (.bl b) q⟩⟩
theorem d_isX {a C : Addr} {oe : Obj} {pn : List (Addr × Obj)} {i : Nat} {e c : Expr} {v : V} {u : Value} {p pos : Pos} (hK : X.K = K) (hz : Zc (.ref C) none oe) (hf : ∃ vs, oe.data = .fields vs) (he : PE (X.suite a ((a, oe) :: pn)) e (tVar i)) (hc : PE (X.suite a ((a, oe) :: pn)) c (tC v)) (hcv : ClsV v u)
    (hg : Gl (X.suite a ((a, oe) :: pn)) "isinstance") (hm : X.mg "isinstance" = none) (hv : bootBuiltins "isinstance" = some (.builtin "isinstance"))
    (hst : starEach [e, c] X.env = (false, eval e X.env) :: starEach [c] X.env := by rfl) (hst2 : starEach [c] X.env = (false, eval c X.env) :: starEach [] X.env := by rfl)
    (hpl : (backTo pos (starEach [c] X.env)).any (·.1) = false := by rfl) : PE (X.suite a ((a, oe) :: pn)) (.Call (.Name "isinstance" p) [e, c] [] pos) (canE K E (dIsX1 K a C i u)) := by
  refine peI (pe_callB (isEXK K hK hz hf) hg hm hv (pa_cons he (pa_cons hc pa_nil hst2) hst) (by decide) (by decide) hst hpl) fun A ⟨e1, xc, b, e2, q⟩ k => ?_
  obtain ⟨w, g1, g2⟩ := A.s.2 _ _ e1
  cases g2
  exact ⟨.ref a, g1, C, b, rfl, rfl, xc, .inl ⟨v, u, rfl, hcv, e2, k _ _ _ _ _ (Wd.Le.refl _) A.r (.bl b) q⟩⟩
theorem w_isX {a C : Addr} {i : Nat} {us : List Value} {b : Bool} {Q : KD} (h : sl[i]? = some (some (.adr a))) (xc : ExcC K C) (hk : PySem.W.kitAny K (.ref C) us = some b) (q : Q (.bl b) st) : dIsX K a C i us ex sl st Q := ⟨h, xc, b, hk, q⟩
theorem w_isX1 {a C : Addr} {i : Nat} {u : Value} {b : Bool} {Q : KD} (h : sl[i]? = some (some (.adr a))) (xc : ExcC K C) (hk : PySem.W.kitOne K (.ref C) u = some b) (q : Q (.bl b) st) : dIsX1 K a C i u ex sl st Q := ⟨h, xc, b, hk, q⟩
/-! ## a dict written at the module, asked by get -/
def tabQ (tab : List (Str × V)) (k : Str) (z : DV) (Q : DV → Prop) : Prop := match tab.lookup k with
  | some (.int i) => Q (.int i)
  | none => Q z
  | _ => False
def dKG (tab : List (Str × V)) (tb tc : TEd) : TEd := fun ex sl st Q => tb ex sl st fun y s1 => tc ex sl s1 fun z s2 => ∃ k, y = .str k ∧ tabQ tab k z fun d => Q d s2
theorem d_kget {o e f : Expr} {apos cpos : Pos} {d : Addr} {tab : List (Str × V)} {tb tc : TEd} (hK : X.K = K) (T : KTab K X.w d tab) (ho : PE X o (tC (.ref d))) (he : PE X e (canE K E tb)) (hf : PE X f (canE K E tc)) (m : M2 X o "get" apos e f cpos := by exact ⟨rfl, rfl, rfl, rfl⟩) :
    PE X (.Call (.Attribute o "get" apos) [e, f] [] cpos) (canE K E (dKG tab tb tc)) := by
  subst hK
  refine peI (kKGet T ho he hf m) fun A h k => ⟨rfl, runE A h fun W1 s1 H1 v d l1 A1 D1 h1 => runE A1 h1 fun W2 s2 H2 u z l2 A2 D2 ⟨ky, ed, q⟩ => ?_⟩
  subst ed
  obtain ⟨rfl, _⟩ := dvS D1
  refine ⟨ky, rfl, ?_⟩
  unfold tabQ at q
  cases e : tab.lookup ky with
  | none =>
    simp only [e] at q
    exact k _ _ _ _ _ (l1.trans l2) A2.r D2 q
  | some x =>
    simp only [e] at q
    cases x with
    | int i => exact k _ _ _ _ _ (l1.trans l2) A2.r (.int i) q
    | _ => exact q.elim
theorem w_kg {tab : List (Str × V)} {tb tc : TEd} {Q : KD} (h : tb ex sl st fun y s1 => tc ex sl s1 fun z s2 => ∃ k, y = .str k ∧ tabQ tab k z fun d => Q d s2) : dKG tab tb tc ex sl st Q := h
/-! ## a new dict -/
def NewK (ks : List Key) (ds : List DV) (st : Sto) (Q : KD) : Prop := Q (.dct ks ds) st ∨ ∀ n, st n = none → Q (.ref n) (sset st n (.dct ks ds))
theorem newK {kvs : List (Key × V)} {ks : List Key} {ds : List DV} {Q : VK} {Qd : KD} (R : Rl K W st H) (e : kvs.map (·.1) = ks) (D : DvAll K W (kvs.map (·.2)) ds) (q : NewK ks ds st Qd) (k : ∀ W' st' H' v d, W.Le W' → Rl K W' st' H' → Dv K W' v d → Qd d st' → Q v H') : ∀ p, H p = none → Q (.ref p) (upd H p (.dK kvs)) := fun p hp => by
  rcases q with q | q
  · exact k (W.fz p (.dK kvs)) st _ _ _ (Wd.fz_le (R.fnone hp)) (R.new hp) (.dct upd_same e (D.le (Wd.fz_le (R.fnone hp)))) q
  · obtain ⟨n, h1, h2⟩ := R.fresh
    exact k (W.nw n p) _ _ _ _ (Wd.nw_le h1) (R.alloc (o := .dct ks ds) h1 hp ⟨kvs, upd_same, e, D.le (Wd.nw_le h1)⟩) (.ref Wd.nw_at) (q n h2)
def dDNew : TEd := fun _ _ st Q => NewK [] [] st Q
theorem d_dnew {pos : Pos} : PE X (.Dict [] [] pos) (canE K E dDNew) := peI pe_dnewK fun A h k => newK A.r rfl .nil h k
theorem w_dnewF {Q : KD} (q : Q (.dct [] []) st) : dDNew ex sl st Q := .inl q
theorem w_dnewS {Q : KD} (q : ∀ n, st n = none → Q (.ref n) (sset st n (.dct [] []))) : dDNew ex sl st Q := .inr q
/-! ## makers -/
theorem w_lstF {xs : List DV} {Q : KD} (q : Q (.lst xs) st) : NewL xs st Q := .inl q
theorem w_lstS {xs : List DV} {Q : KD} (q : ∀ n, st n = none → Q (.ref n) (sset st n (.lst xs))) : NewL xs st Q := .inr q
end
end Kn

set_option Elab.async false
set_option linter.all false
set_option maxRecDepth 100000
set_option maxHeartbeats 2000000
namespace Kn
open PySem PySem.Spec PyProof.Rows L2
section
variable {K : PySem.W.Frag} {E : EK} {X : Cx} {W W' : Wd} {sl : Sl} {st st' : Sto} {σ : L2.St} {H H' : Hp} {ex : KX}
theorem sok_ofString {s : String} (h : (Str.ofString s).length ≤ 100000) : SOk (Str.ofString s) := by
  refine ⟨?_, h⟩
  rw [Str.ofString_eq_toList]
  unfold PyData.strOk
  rw [← Array.all_toList]
  refine List.all_eq_true.mpr fun c hc => ?_
  obtain ⟨ch, _, e⟩ := List.mem_map.mp (show c ∈ s.toList.map Char.toNat from hc)
  subst e
  have hv := ch.valid
  have hv : ch.toNat < 0xd800 ∨ (0xdfff < ch.toNat ∧ ch.toNat < 0x110000) := hv
  exact decide_eq_true (by omega)
theorem sok_int {a : Int} (h : a.natAbs < 10 ^ 4300) : SOk (Str.ofString (toString a)) := by
  refine sok_ofString ?_
  have e := int_text_length_le10 (k := 4300) (by decide) h
  rw [PySem.ofString_length]
  omega
/-! ## str -/
theorem call_strX : CallR X (.type "str") (fun xs H Q => (∃ i, xs = [.int i] ∧ i.natAbs.log2 < 1920 ∧ Q (.str (toString i)) H) ∨ (∃ a, xs = [.str a] ∧ Q (.str a) H) ∨ (∃ b, xs = [.bl b] ∧ Q (.str (if b then "True" else "False")) H) ∨ (xs = [.non] ∧ Q (.str "None") H)) := by
  intro pins s σ H xs us Q I r h
  rcases h with ⟨i, rfl, hz, q⟩ | ⟨a, rfl, q⟩ | ⟨b, rfl, q⟩ | ⟨rfl, q⟩
  · obtain ⟨u, rfl, t, rfl⟩ := vals1 r
    exact PySem.P.str_of_int hz ⟨.str _, H, I.tok _, ⟨_, rfl⟩, q⟩
  · obtain ⟨u, rfl, t, rfl⟩ := vals1 r
    exact PySem.P.str_of_str ⟨.str a, H, I, ⟨t, rfl⟩, q⟩
  · obtain ⟨u, rfl, r1⟩ := vals1 r
    cases r1
    exact PySem.P.str_of_bool ⟨.str _, H, I.tok _, ⟨_, rfl⟩, q⟩
  · obtain ⟨u, rfl, r1⟩ := vals1 r
    cases r1
    exact PySem.P.str_of_none ⟨.str _, H, I.tok _, ⟨_, rfl⟩, q⟩
def qStr : List DV → Sto → KD → Prop := fun ds st Q => (∃ i, ds = [.int i] ∧ i.natAbs.log2 < 1920 ∧ Q (.str (Str.ofString (toString i))) st) ∨ (∃ a, ds = [.str a] ∧ Q (.str a) st) ∨ (∃ b, ds = [.bl b] ∧ Q (.str (if b then "True" else "False")) st) ∨ (ds = [.non] ∧ Q (.str "None") st)
theorem natAbs_log {i : Int} (h : i.natAbs.log2 < 1920) : i.natAbs < 10 ^ 4300 := by
  by_cases e : i.natAbs = 0
  · rw [e]; exact Nat.pow_pos (by decide)
  · have h2 : i.natAbs < 2 ^ 1920 := (Nat.log2_lt e).mp h
    exact Nat.lt_of_lt_of_le h2 (by decide +kernel)
theorem kStr1D : CallR X (.type "str") (canC K qStr) := crI call_strX fun R D h k => by
  rcases h with ⟨i, rfl, hz, q⟩ | ⟨a, rfl, q⟩ | ⟨b, rfl, q⟩ | ⟨rfl, q⟩
  · obtain ⟨v, rfl, D1⟩ := dv1 D
    exact .inl ⟨i, by rw [dvI D1], hz, k _ _ _ _ _ (Wd.Le.refl _) R (.str _ (sok_int (natAbs_log hz))) q⟩
  · obtain ⟨v, rfl, D1⟩ := dv1 D
    obtain ⟨rfl, sx⟩ := dvS D1
    exact .inr (.inl ⟨a, rfl, k _ _ _ _ _ (Wd.Le.refl _) R D1 q⟩)
  · obtain ⟨v, rfl, D1⟩ := dv1 D
    exact .inr (.inr (.inl ⟨b, by rw [dv_bl D1], k _ _ _ _ _ (Wd.Le.refl _) R (.str _ (by cases b <;> decide +kernel)) q⟩))
  · obtain ⟨v, rfl, D1⟩ := dv1 D
    exact .inr (.inr (.inr ⟨by rw [dvN D1], k _ _ _ _ _ (Wd.Le.refl _) R (.str _ (by decide +kernel)) q⟩))
theorem w_strI {i : Int} {Q : KD} (h : i.natAbs.log2 < 1920) (q : Q (.str (Str.ofString (toString i))) st) : qStr [.int i] st Q := .inl ⟨i, rfl, h, q⟩
theorem w_strB {b : Bool} {Q : KD} (q : Q (.str (if b then "True" else "False")) st) : qStr [.bl b] st Q := .inr (.inr (.inl ⟨b, rfl, q⟩))
/-! ## comprehensions that change nothing -/
theorem mapIdx_con {g : DV → Option DV} (xs : List DV) : (xs.mapIdx fun _ x => g x) = xs.map g := by
  refine List.ext_getElem? fun i => ?_
  rw [List.getElem?_mapIdx, List.getElem?_map]
theorem mapIdx_some {f : DV → DV} (xs : List DV) : ((xs.mapIdx fun _ x => some (f x)).filterMap id) = xs.map f := by
  rw [mapIdx_con]
  induction xs with
  | nil => rfl
  | cons a r ih => simpa using ih
theorem mapIdx_fil {p : DV → Bool} {f : DV → DV} (xs : List DV) : ((xs.mapIdx fun _ x => if p x = true then some (f x) else none).filterMap id) = (xs.filter p).map f := by
  rw [mapIdx_con (g := fun x => if p x = true then some (f x) else none)]
  induction xs with
  | nil => rfl
  | cons a r ih =>
    cases h : p a
    · rw [List.filter_cons, if_neg (by rw [h]; exact Bool.false_ne_true), ← ih]
      simp [h]
    · rw [List.filter_cons, if_pos h, List.map_cons, List.map_cons, ← ih]
      simp [h]
theorem w_lcmap {g : TGd} {te : TEd} {vs : List Nat} {xs : List DV} {Q : KD} {G : Sto → Prop} (f : DV → DV) (hg : G st)
    (ht : ∀ x ∈ xs, ∀ QQ : DV → Sto → Prop, QQ (f x) st → g x noX (wipeD sl vs) st fun sl2 s2 => te noX sl2 s2 fun y s4 => QQ y s4)
    (hl : xs.length ≤ 100000) (q : NewL (xs.map f) st Q) :
    xs.length ≤ 100000 ∧ ∃ Pv : Nat → List DV → Sto → Prop, Pv 0 [] st ∧ (∀ i acc st, i ≤ xs.length → Pv i acc st → G st) ∧ (∀ i x acc st, xs[i]? = some x → Pv i acc st → g x noX (wipeD sl vs) st fun sl2 s2 => dYes noX sl2 s2 fun b s3 => if b = true then te noX sl2 s3 fun y s4 => Pv (i + 1) (acc ++ [y]) s4 else Pv (i + 1) acc s3) ∧ (∀ acc st, Pv xs.length acc st → NewL acc st Q) := by
  refine w_lcm (wi := fun _ _ _ _ => True) (fun _ x => some (f x)) G hg (fun i x hx QQ hq => ?_) hl (by rw [mapIdx_some]; exact q)
  have := ht x (List.mem_of_getElem? hx) (fun y s => QQ (some y) s) hq
  show g x noX (wipeD sl vs) st fun sl2 s2 => if true = true then te noX sl2 s2 fun y s4 => QQ (some y) s4 else QQ none s2
  simpa only [if_true] using this
theorem w_lcfil {g : TGd} {tt : TTd} {te : TEd} {vs : List Nat} {xs : List DV} {Q : KD} {G : Sto → Prop} (p : DV → Bool) (f : DV → DV) (hg : G st)
    (ht : ∀ x ∈ xs, ∀ QQ : Option DV → Sto → Prop, QQ (if p x = true then some (f x) else none) st → g x noX (wipeD sl vs) st fun sl2 s2 => tt noX sl2 s2 fun b s3 => if b = true then te noX sl2 s3 fun y s4 => QQ (some y) s4 else QQ none s3)
    (hl : xs.length ≤ 100000) (q : NewL ((xs.filter p).map f) st Q) :
    xs.length ≤ 100000 ∧ ∃ Pv : Nat → List DV → Sto → Prop, Pv 0 [] st ∧ (∀ i acc st, i ≤ xs.length → Pv i acc st → G st) ∧ (∀ i x acc st, xs[i]? = some x → Pv i acc st → g x noX (wipeD sl vs) st fun sl2 s2 => tt noX sl2 s2 fun b s3 => if b = true then te noX sl2 s3 fun y s4 => Pv (i + 1) (acc ++ [y]) s4 else Pv (i + 1) acc s3) ∧ (∀ acc st, Pv xs.length acc st → NewL acc st Q) := by
  refine w_lcm (wi := fun _ _ _ _ => True) (fun _ x => if p x = true then some (f x) else none) G hg (fun i x hx QQ hq => ?_) hl (by rw [mapIdx_fil]; exact q)
  exact ht x (List.mem_of_getElem? hx) QQ hq
theorem deq_rfl : ∀ {n : Nat} {d : DV}, okD n d = true → deq d d = true := by
  intro n
  induction n with
  | zero =>
    intro d h
    cases d <;> first | rfl | (cases h; done) | simp [deq, py, PyData.eqv]
  | succ n ih =>
    have key : ∀ ds : List DV, ds.all (okD n) = true → PyData.eqvAll (pyL ds) (pyL ds) = true := by
      intro ds
      induction ds with
      | nil => intro _; rfl
      | cons d ds ih2 =>
        intro h
        obtain ⟨a, b⟩ := He.ba (show (okD n d && ds.all (okD n)) = true from h)
        show PyData.eqvAll (py d :: pyL ds) (py d :: pyL ds) = true
        rw [PyData.eqvAll, show PyData.eqv (py d) (py d) = true from ih a, ih2 b]
        rfl
    intro d h
    cases d with
    | tup ds => show PyData.eqv (.tuple (pyL ds)) (.tuple (pyL ds)) = true; rw [PyData.eqv]; exact key ds h
    | lst ds => show PyData.eqv (.list (pyL ds)) (.list (pyL ds)) = true; rw [PyData.eqv]; exact key ds h
    | scr ds => show PyData.eqv (.list (pyL ds)) (.list (pyL ds)) = true; rw [PyData.eqv]; exact key ds h
    | _ => first | rfl | (cases h; done) | simp [deq, py, PyData.eqv]
theorem w_eqR {x y d : DV} {Q : KD} (hx : vw st x = d) (hy : vw st y = d) (h : okD 60 d = true) (q : Q (.bl true) st) : qEq x y st Q := by
  refine ⟨by rw [hx]; exact h, by rw [hy]; exact h, ?_⟩
  rw [hx, hy, deq_rfl h]
  exact q
theorem w_neR {x y d : DV} {Q : KD} (hx : vw st x = d) (hy : vw st y = d) (h : okD 60 d = true) (q : Q (.bl false) st) : qNe x y st Q := by
  refine ⟨by rw [hx]; exact h, by rw [hy]; exact h, ?_⟩
  rw [hx, hy, deq_rfl h]
  exact q
end
end Kn

set_option Elab.async false
set_option linter.all false
set_option maxRecDepth 100000
set_option maxHeartbeats 2000000
namespace Kn
open PySem PySem.Spec PyProof.Rows L2
/-! ## dicts by values -/
def valG {α : Type} (kvs : List (Key × α)) (k : Key) : Option α := (kvs.find? fun kv => decide (kv.1 = k)).map (·.2)
def putG {α : Type} (kvs : List (Key × α)) (k : Key) (v : α) : List (Key × α) := if (kvs.any fun kv => decide (kv.1 = k)) = true then kvs.map (fun kv => if kv.1 = k then (kv.1, v) else kv) else kvs ++ [(k, v)]
def dropG {α : Type} (kvs : List (Key × α)) (k : Key) : List (Key × α) := kvs.filter fun kv => decide (kv.1 ≠ k)
def mergeG {α : Type} (kvs more : List (Key × α)) : List (Key × α) := more.foldl (fun acc kv => putG acc kv.1 kv.2) kvs
def kD : Key → DV
  | .inl i => .int i
  | .inr s => .str s
def keyD : DV → Option Key
  | .int i => some (.inl i)
  | .str s => some (.inr s)
  | _ => none
abbrev dvK (kvs : List (Key × DV)) : DV := .dct (kvs.map (·.1)) (kvs.map (·.2))
abbrev ovK (kvs : List (Key × DV)) : OV := .dct (kvs.map (·.1)) (kvs.map (·.2))
def dcOf (st : Sto) : DV → Option (List (Key × DV))
  | .dct ks ds => some (ks.zip ds)
  | .ref n => match st n with | some (.dct ks ds) => some (ks.zip ds) | _ => none
  | _ => none
theorem zip_self {α β : Type} : ∀ xs : List (α × β), (xs.map (·.1)).zip (xs.map (·.2)) = xs
  | [] => rfl
  | x :: xs => by simp only [List.map_cons, List.zip_cons_cons, zip_self xs]
theorem dcOf_dv {st : Sto} {kvs : List (Key × DV)} : dcOf st (dvK kvs) = some kvs := by
  show some _ = _
  rw [zip_self]
theorem dcOf_ov {st : Sto} {n : Nat} {kvs : List (Key × DV)} (h : st n = some (ovK kvs)) : dcOf st (.ref n) = some kvs := by
  show (match st n with | some (.dct ks ds) => some (ks.zip ds) | _ => none) = _
  rw [h]
  show some _ = _
  rw [zip_self]
theorem valG_nil {α : Type} {k : Key} : valG ([] : List (Key × α)) k = none := rfl
theorem valG_pos {α : Type} {p : Key × α} {r : List (Key × α)} {k : Key} (e : p.1 = k) : valG (p :: r) k = some p.2 := by simp [valG, List.find?_cons, e]
theorem valG_neg {α : Type} {p : Key × α} {r : List (Key × α)} {k : Key} (e : ¬ p.1 = k) : valG (p :: r) k = valG r k := by simp [valG, List.find?_cons, e]
theorem valG_any {α : Type} (k : Key) : ∀ kvs : List (Key × α), (kvs.any fun kv => decide (kv.1 = k)) = (valG kvs k).isSome
  | [] => rfl
  | p :: r => by
    by_cases e : p.1 = k
    · rw [valG_pos e, List.any_cons, decide_eq_true e]; rfl
    · rw [valG_neg e, List.any_cons, decide_eq_false e, valG_any k r]; rfl
theorem putG_len {α : Type} (kvs : List (Key × α)) (k : Key) (v : α) : (putG kvs k v).length ≤ kvs.length + 1 := by
  unfold putG
  split
  · rw [List.length_map]; omega
  · rw [List.length_append]; exact Nat.le_refl _
theorem putG_new {α : Type} {kvs : List (Key × α)} {k : Key} (v : α) (h : k ∉ kvs.map (·.1)) : putG kvs k v = kvs ++ [(k, v)] := by
  unfold putG
  rw [if_neg]
  intro q
  obtain ⟨x, h1, h2⟩ := List.any_eq_true.mp q
  exact h (List.mem_map.mpr ⟨x, h1, of_decide_eq_true h2⟩)
theorem mergeG_new {α : Type} : ∀ (more kvs : List (Key × α)), ((kvs ++ more).map (·.1)).Nodup → mergeG kvs more = kvs ++ more
  | [], kvs, _ => by simp [mergeG]
  | p :: r, kvs, h => by
    have h1 : p.1 ∉ kvs.map (·.1) := by
      rw [List.map_append, List.map_cons, List.nodup_append] at h
      intro q
      exact h.2.2 _ q _ (List.mem_cons_self ..) rfl
    show mergeG (putG kvs p.1 p.2) r = _
    rw [putG_new p.2 h1, mergeG_new r _ (by simpa using h)]
    simp
theorem valG_put {α : Type} (k j : Key) (y : α) : ∀ kvs : List (Key × α), valG (putG kvs k y) j = if j = k then some y else valG kvs j := by
  intro kvs
  unfold putG
  by_cases c : (kvs.any fun kv => decide (kv.1 = k)) = true
  · rw [if_pos c]
    by_cases e : j = k
    · subst e
      rw [if_pos rfl]
      induction kvs with
      | nil => cases c
      | cons p r ih =>
        by_cases q : p.1 = j
        · simp [valG, List.find?_cons, q]
        · rw [List.any_cons, decide_eq_false q, Bool.false_or] at c
          rw [List.map_cons, if_neg q, valG_neg q]
          exact ih c
    · rw [if_neg e]
      clear c
      induction kvs with
      | nil => rfl
      | cons p r ih =>
        rw [List.map_cons]
        by_cases q : p.1 = k
        · rw [if_pos q, valG_neg (by rw [q]; exact fun z => e z.symm), valG_neg (by rw [q]; exact fun z => e z.symm), ih]
        · rw [if_neg q]
          by_cases q2 : p.1 = j
          · rw [valG_pos q2, valG_pos q2]
          · rw [valG_neg q2, valG_neg q2, ih]
  · rw [if_neg c]
    induction kvs with
    | nil =>
      by_cases e : j = k
      · rw [if_pos e]; exact valG_pos e.symm
      · rw [if_neg e]; exact valG_neg fun z => e z.symm
    | cons p r ih =>
      rw [List.any_cons] at c
      have c1 : ¬ p.1 = k := fun z => c (by rw [decide_eq_true z]; rfl)
      have c2 : ¬ (r.any fun kv => decide (kv.1 = k)) = true := fun z => c (by rw [z]; simp)
      rw [List.cons_append]
      by_cases q2 : p.1 = j
      · rw [valG_pos q2, valG_pos q2, if_neg (fun z => c1 (q2.trans z))]
      · rw [valG_neg q2, valG_neg q2]
        exact ih c2
section
variable {K : PySem.W.Frag} {E : EK} {X : Cx} {W W' : Wd} {sl : Sl} {st st' : Sto} {σ : L2.St} {H H' : Hp} {ex : KX}
abbrev KR (K : PySem.W.Frag) (W : Wd) : List (Key × V) → List (Key × DV) → Prop := Paired fun p q => p.1 = q.1 ∧ Dv K W p.2 q.2
theorem kr_of : ∀ {kvs : List (Key × V)} {ks : List Key} {ds : List DV}, kvs.map (·.1) = ks → DvAll K W (kvs.map (·.2)) ds → KR K W kvs (ks.zip ds)
  | [], _, _, rfl, .nil => .nil
  | (k, v) :: r, _, _, rfl, .cons h1 h2 => .cons ⟨rfl, h1⟩ (kr_of rfl h2)
theorem KR.fst {kvs : List (Key × V)} {dk : List (Key × DV)} (h : KR K W kvs dk) : kvs.map (·.1) = dk.map (·.1) := by
  unfold KR at h
  induction h with
  | nil => rfl
  | cons h _ ih => rw [List.map_cons, List.map_cons, ih, h.1]
theorem KR.snd {kvs : List (Key × V)} {dk : List (Key × DV)} (h : KR K W kvs dk) : DvAll K W (kvs.map (·.2)) (dk.map (·.2)) := by
  unfold KR at h
  induction h with
  | nil => exact .nil
  | cons h _ ih => exact .cons h.2 ih
theorem KR.val {kvs : List (Key × V)} {dk : List (Key × DV)} (h : KR K W kvs dk) (k : Key) : (∃ v d, valV kvs k = some v ∧ valG dk k = some d ∧ Dv K W v d) ∨ (valV kvs k = none ∧ valG dk k = none) := by
  unfold KR at h
  induction h with
  | nil => exact .inr ⟨rfl, rfl⟩
  | @cons p q ps qs h _ ih =>
    by_cases e : p.1 = k
    · exact .inl ⟨_, _, valV_pos e, valG_pos (h.1.symm.trans e), h.2⟩
    · rw [valV_neg e, valG_neg (by rw [← h.1]; exact e)]
      exact ih
theorem KR.any {kvs : List (Key × V)} {dk : List (Key × DV)} (h : KR K W kvs dk) (k : Key) : (kvs.any fun kv => decide (kv.1 = k)) = dk.any fun kv => decide (kv.1 = k) := by
  rw [valV_any, valG_any]
  rcases h.val k with ⟨v, d, e1, e2, _⟩ | ⟨e1, e2⟩ <;> rw [e1, e2] <;> rfl
theorem KR.put {kvs : List (Key × V)} {dk : List (Key × DV)} (h : KR K W kvs dk) (k : Key) {v : V} {d : DV} (D : Dv K W v d) : KR K W (putK kvs k v) (putG dk k d) := by
  unfold putK putG
  rw [h.any k]
  split
  · rename_i c
    clear c
    unfold KR at h ⊢
    induction h with
    | nil => exact .nil
    | @cons p q ps qs h _ ih =>
      rw [List.map_cons, List.map_cons]
      refine .cons ?_ ih
      by_cases e : p.1 = k
      · rw [if_pos e, if_pos (h.1.symm.trans e)]
        exact ⟨h.1, D⟩
      · rw [if_neg e, if_neg (by rw [← h.1]; exact e)]
        exact h
  · rename_i c
    clear c
    unfold KR at h ⊢
    induction h with
    | nil => exact .cons ⟨rfl, D⟩ .nil
    | cons h _ ih => exact .cons h ih
theorem KR.drop {kvs : List (Key × V)} {dk : List (Key × DV)} (h : KR K W kvs dk) (k : Key) : KR K W (dropK kvs k) (dropG dk k) := by
  unfold dropK dropG
  unfold KR at h ⊢
  induction h with
  | nil => exact .nil
  | @cons p q ps qs h _ ih =>
    by_cases e : p.1 = k
    · rw [List.filter_cons_of_neg (by simp [e]), List.filter_cons_of_neg (by simp [← h.1, e])]
      exact ih
    · rw [List.filter_cons_of_pos (by simp [e]), List.filter_cons_of_pos (by simp [← h.1, e])]
      exact .cons h ih
theorem KR.merge : ∀ {more : List (Key × V)} {dm : List (Key × DV)} {kvs : List (Key × V)} {dk : List (Key × DV)}, KR K W more dm → KR K W kvs dk → KR K W (mergeK kvs more) (mergeG dk dm)
  | _, _, _, _, .nil, h => h
  | p :: _, q :: _, kvs, dk, .cons h t, r => by
    have := KR.merge t (r.put q.1 h.2)
    show KR K W (mergeK (putK kvs p.1 p.2) _) _
    rw [h.1]
    exact this
theorem KR.len {kvs : List (Key × V)} {dk : List (Key × DV)} (h : KR K W kvs dk) : kvs.length = dk.length := by
  have := congrArg List.length h.fst
  rwa [List.length_map, List.length_map] at this
theorem dv_key {v : V} {k : Key} (D : Dv K W v (kD k)) : v = kV k := by
  cases k with
  | inl i => exact dvI D
  | inr s => exact (dvS D).1
theorem keyD_ok {d : DV} {k : Key} (h : keyD d = some k) : d = kD k := by
  cases d <;> first | (cases h; done) | (injection h with h; subst h; rfl)
theorem dv_dc {v : V} {d : DV} {dk : List (Key × DV)} (R : Rl K W st H) (D : Dv K W v d) (h : dcOf st d = some dk) : ∃ a kvs, v = .ref a ∧ H a = some (.dK kvs) ∧ KR K W kvs dk := by
  cases D with
  | dct h1 h2 h3 =>
    injection h with h
    subst h
    exact ⟨_, _, rfl, R.fh.at_ h1, kr_of h2 h3⟩
  | ref ha =>
    rename_i a n
    have h : (match st n with | some (.dct ks ds) => some (ks.zip ds) | _ => none) = some dk := h
    cases e : st n with
    | none => rw [e] at h; cases h
    | some o =>
      rw [e] at h
      cases o with
      | dct ks ds =>
        injection h with h
        subst h
        obtain ⟨a', g1, g2, kvs, g3, g4, g5⟩ := R.ob _ _ e
        rw [ha] at g1; injection g1 with g1; subst g1
        exact ⟨a, kvs, rfl, g3, kr_of g4 g5⟩
      | _ => cases h
  | _ => cases h
def NewKv (kvs : List (Key × DV)) (st : Sto) (Q : KD) : Prop := Q (dvK kvs) st ∨ ∀ n, st n = none → Q (.ref n) (sset st n (ovK kvs))
theorem w_dvF {kvs : List (Key × DV)} {Q : KD} (q : Q (dvK kvs) st) : NewKv kvs st Q := .inl q
theorem w_dvS {kvs : List (Key × DV)} {Q : KD} (q : ∀ n, st n = none → Q (.ref n) (sset st n (ovK kvs))) : NewKv kvs st Q := .inr q
theorem newKv {kvs : List (Key × V)} {dk : List (Key × DV)} {Q : VK} {Qd : KD} (R : Rl K W st H) (D : KR K W kvs dk) (q : NewKv dk st Qd) (k : ∀ W' st' H' v d, W.Le W' → Rl K W' st' H' → Dv K W' v d → Qd d st' → Q v H') : ∀ p, H p = none → Q (.ref p) (upd H p (.dK kvs)) := newK R D.fst D.snd q k
/-! ### get, in -/
def dDGet (to ti : TEd) : TEd := fun ex sl st Q => to ex sl st fun x s1 => ti ex sl s1 fun y s2 => ∃ dk k v, dcOf s2 x = some dk ∧ keyD y = some k ∧ valG dk k = some v ∧ Q v s2
theorem d_dget {o i : Expr} {to ti : TEd} {pos : Pos} (hu : X.A.units + 1 < cLine) (ho : PE X o (canE K E to)) (hi : PE X i (canE K E ti)) (hs : NoSl i) : PE X (.Subscript o i pos) (canE K E (dDGet to ti)) :=
  peI (pe_dget hu ho hi hs) fun A h k => runE A h fun W1 s1 H1 v1 d1 l1 A1 D1 h1 => runE A1 h1 fun W2 s2 H2 v2 d2 l2 A2 D2 ⟨dk, ky, v, e1, e2, e3, q⟩ => by
    obtain ⟨a, kvs, rfl, g1, g2⟩ := dv_dc A2.r (D1.le l2) e1
    have := keyD_ok e2
    subst this
    obtain rfl := dv_key D2
    rcases g2.val ky with ⟨v', d', z1, z2, z3⟩ | ⟨z1, z2⟩
    · rw [e3] at z2; injection z2 with z2; subst z2
      exact ⟨a, v', rfl, by rw [← z1]; exact DGet.k g1, k _ _ _ _ _ (l1.trans l2) A2.r z3 q⟩
    · rw [e3] at z2; cases z2
def dDIn (neg : Bool) (ti to : TEd) : TEd := fun ex sl st Q => ti ex sl st fun y s1 => to ex sl s1 fun x s2 => ∃ dk k, dcOf s2 x = some dk ∧ keyD y = some k ∧ Q (.bl (bif neg then !(valG dk k).isSome else (valG dk k).isSome)) s2
theorem kr_some {kvs : List (Key × V)} {dk : List (Key × DV)} (h : KR K W kvs dk) (k : Key) : (valV kvs k).isSome = (valG dk k).isSome := by
  rcases h.val k with ⟨v, d, e1, e2, _⟩ | ⟨e1, e2⟩ <;> rw [e1, e2] <;> rfl
theorem d_din {o i : Expr} {to ti : TEd} {pos : Pos} (hu : X.A.units + 1 < cLine) (hi : PE X i (canE K E ti)) (ho : PE X o (canE K E to)) (h1 : behindInMarks .In o = false) : PE X (.Compare i [.In] [o] pos) (canE K E (dDIn false ti to)) :=
  peI (pe_cmp (pc_din hu hi ho) h1) fun A h k => runE A h fun W1 s1 H1 v1 d1 l1 A1 D1 h1 => runE A1 h1 fun W2 s2 H2 v2 d2 l2 A2 D2 ⟨dk, ky, e1, e2, q⟩ => by
    obtain ⟨a, kvs, rfl, g1, g2⟩ := dv_dc A2.r D2 e1
    have := keyD_ok e2
    subst this
    obtain rfl := dv_key D1
    exact ⟨a, _, rfl, DGet.k g1, by rw [kr_some g2]; exact k _ _ _ _ _ (l1.trans l2) A2.r (.bl _) q⟩
theorem d_dni {o i : Expr} {to ti : TEd} {pos : Pos} (hu : X.A.units + 1 < cLine) (hi : PE X i (canE K E ti)) (ho : PE X o (canE K E to)) (h1 : behindInMarks .NotIn o = false) : PE X (.Compare i [.NotIn] [o] pos) (canE K E (dDIn true ti to)) :=
  peI (pe_cmp (pc_dnotin hu hi ho) h1) fun A h k => runE A h fun W1 s1 H1 v1 d1 l1 A1 D1 h1 => runE A1 h1 fun W2 s2 H2 v2 d2 l2 A2 D2 ⟨dk, ky, e1, e2, q⟩ => by
    obtain ⟨a, kvs, rfl, g1, g2⟩ := dv_dc A2.r D2 e1
    have := keyD_ok e2
    subst this
    obtain rfl := dv_key D1
    exact ⟨a, _, rfl, DGet.k g1, by rw [kr_some g2]; exact k _ _ _ _ _ (l1.trans l2) A2.r (.bl _) q⟩
theorem dt_din {o i : Expr} {to ti : TEd} {pos : Pos} (hu : X.A.units + 1 < cLine) (hi : PE X i (canE K E ti)) (ho : PE X o (canE K E to)) (h1 : behindInMarks .In o = false) : PT X (.Compare i [.In] [o] pos) (canT K E (dTest (dDIn false ti to))) :=
  ptI (pt_cmp (pc_din hu hi ho) h1) fun A h k => runE A h fun W1 s1 H1 v1 d1 l1 A1 D1 h1 => runE A1 h1 fun W2 s2 H2 v2 d2 l2 A2 D2 ⟨dk, ky, e1, e2, b, e3, q⟩ => by
    obtain ⟨a, kvs, rfl, g1, g2⟩ := dv_dc A2.r D2 e1
    have := keyD_ok e2
    subst this
    obtain rfl := dv_key D1
    injection e3 with e3
    subst e3
    exact ⟨a, _, rfl, DGet.k g1, _, rfl, by rw [kr_some g2]; exact k _ _ _ _ (l1.trans l2) A2.r q⟩
theorem dt_dni {o i : Expr} {to ti : TEd} {pos : Pos} (hu : X.A.units + 1 < cLine) (hi : PE X i (canE K E ti)) (ho : PE X o (canE K E to)) (h1 : behindInMarks .NotIn o = false) : PT X (.Compare i [.NotIn] [o] pos) (canT K E (dTest (dDIn true ti to))) :=
  ptI (pt_cmp (pc_dnotin hu hi ho) h1) fun A h k => runE A h fun W1 s1 H1 v1 d1 l1 A1 D1 h1 => runE A1 h1 fun W2 s2 H2 v2 d2 l2 A2 D2 ⟨dk, ky, e1, e2, b, e3, q⟩ => by
    obtain ⟨a, kvs, rfl, g1, g2⟩ := dv_dc A2.r D2 e1
    have := keyD_ok e2
    subst this
    obtain rfl := dv_key D1
    injection e3 with e3
    subst e3
    exact ⟨a, _, rfl, DGet.k g1, _, rfl, by rw [kr_some g2]; exact k _ _ _ _ (l1.trans l2) A2.r q⟩
def dDGet2 (to ti tz : TEd) : TEd := fun ex sl st Q => to ex sl st fun x s1 => (dcOf s1 x).isSome = true ∧ ti ex sl s1 fun y s2 => tz ex sl s2 fun z s3 => ∃ dk k, dcOf s3 x = some dk ∧ keyD y = some k ∧ Q ((valG dk k).getD z) s3
theorem d_dget2 {o e f : Expr} {to ti tz : TEd} {apos cpos : Pos} (hu : X.A.units + 1 < cLine) (ho : PE X o (canE K E to)) (he : PE X e (canE K E ti)) (hf : PE X f (canE K E tz)) (m : M2 X o "get" apos e f cpos := by exact ⟨rfl, rfl, rfl, rfl⟩) :
    PE X (.Call (.Attribute o "get" apos) [e, f] [] cpos) (canE K E (dDGet2 to ti tz)) :=
  peI (pe_dget2 hu ho he hf m) fun A h k => runE A h fun W1 s1 H1 v1 d1 l1 A1 D1 ⟨q0, h1⟩ => by
    obtain ⟨dk0, e0⟩ := Option.isSome_iff_exists.mp q0
    obtain ⟨a, kvs0, rfl, g1, g2⟩ := dv_dc A1.r D1 e0
    refine ⟨a, rfl, .inl ⟨kvs0, .inl g1⟩, runE A1 h1 fun W2 s2 H2 v2 d2 l2 A2 D2 h2 => runE A2 h2 fun W3 s3 H3 v3 d3 l3 A3 D3 ⟨dk, ky, e1, e2, q⟩ => ?_⟩
    obtain ⟨a', kvs, ea, g3, g4⟩ := dv_dc A3.r (D1.le (l2.trans l3)) e1
    injection ea with ea
    subst ea
    have := keyD_ok e2
    subst this
    obtain rfl := dv_key D2
    refine ⟨_, DGet.k g3, ?_⟩
    rcases g4.val ky with ⟨v', d', z1, z2, z3⟩ | ⟨z1, z2⟩
    · rw [z2] at q; rw [z1]
      exact k _ _ _ _ _ (l1.trans (l2.trans l3)) A3.r z3 q
    · rw [z2] at q; rw [z1]
      exact k _ _ _ _ _ (l1.trans (l2.trans l3)) A3.r D3 q
/-! ### store -/
def qSetK : DV → DV → DV → Sto → (Sto → Prop) → Prop := fun o i v st Q => ∃ n k kvs, o = .ref n ∧ keyD i = some k ∧ st n = some (ovK kvs) ∧ LenOk (kvs.length + 1) ∧ Q (sset st n (ovK (putG kvs k v)))
theorem kSetK {k : Nat} (hr : Room k X.A) : PSet X (canSet K qSetK) := fun pins s σ H o i v ov iv u Q I ro ri rv ⟨W, st, d1, d2, d3, Qd, R, D1, D2, D3, ⟨n, j, dk, e1, e2, h, hl, q⟩, k⟩ =>
  kSet hr pins s σ H o i v ov iv u Q I ro ri rv (by
    subst e1
    have := keyD_ok e2
    subst this
    cases D1 with
    | ref ha =>
      obtain ⟨a, h1, h2, kvs, h3, h4, h5⟩ := R.ob _ _ h
      rw [ha] at h1; injection h1 with h1; subst h1
      have kr : KR K W kvs dk := by
        have := kr_of h4 h5
        rwa [zip_self] at this
      have := dv_key D2
      subst this
      have hz : kvs.length < sizeLine := by rw [kr.len, sizeLine_eq]; have hl : dk.length + 1 ≤ 100000 := hl; omega
      have kp := kr.put j D3
      exact .inr ⟨_, _, rfl, DPut.k h3 hz, k _ _ _ (Wd.Le.refl _) (R.put (o' := ovK (putG dk j d3)) h ha ⟨_, upd_same, kp.fst, kp.snd⟩) q⟩)
/-! ### displays -/
def dPairsD : List (TEd × TEd) → KX → Sl → Sto → (List (DV × DV) → Sto → Prop) → Prop
  | [], _, _, st, Q => Q [] st
  | (tk, tv) :: r, ex, sl, st, Q => tk ex sl st fun x s1 => tv ex sl s1 fun y s2 => dPairsD r ex sl s2 fun ps s3 => Q ((x, y) :: ps) s3
def prsD : List (DV × DV) → Option (List (Key × DV))
  | [] => some []
  | (x, y) :: r => match keyD x, prsD r with
    | some k, some l => some ((k, y) :: l)
    | _, _ => none
def dDisp (trs : List (TEd × TEd)) : TEd := fun ex sl st Q => dPairsD trs ex sl st fun ps s1 => ∃ kvs, prsD ps = some kvs ∧ (kvs.map (·.1)).Nodup ∧ kvs.length ≤ 15 ∧ NewKv kvs s1 Q
inductive PvAll (K : PySem.W.Frag) (W : Wd) : List (V × V) → List (DV × DV) → Prop
  | nil : PvAll K W [] []
  | cons {p : V × V} {q : DV × DV} {ps : List (V × V)} {qs : List (DV × DV)} : Dv K W p.1 q.1 → Dv K W p.2 q.2 → PvAll K W ps qs → PvAll K W (p :: ps) (q :: qs)
theorem pairs_can : ∀ {trs : List (TEd × TEd)} {W : Wd} {sl : Sl} {st : Sto} {σ : L2.St} {H : Hp} {ex : KX} {Qd : List (DV × DV) → Sto → Prop} {Q : List (V × V) → Hp → Prop}, At K E W sl st σ H ex → dPairsD trs ex sl st Qd →
    (∀ W' st' H' ps qs, W.Le W' → Rl K W' st' H' → PvAll K W' ps qs → Qd qs st' → Q ps H') → tPairs (trs.map fun t => (canE K E t.1, canE K E t.2)) σ H Q
  | [], _, _, _, _, _, _, _, _, A, h, k => k _ _ _ _ _ (Wd.Le.refl _) A.r .nil h
  | (tk, tv) :: r, _, _, _, _, _, _, _, _, A, h, k => runE A h fun W1 s1 H1 v1 d1 l1 A1 D1 h1 => runE A1 h1 fun W2 s2 H2 v2 d2 l2 A2 D2 h2 =>
    pairs_can A2 h2 fun W3 s3 H3 ps qs l3 R3 D3 q => k _ _ _ _ _ (l1.trans (l2.trans l3)) R3 (.cons (D1.le (l2.trans l3)) (D2.le l3) D3) q
theorem prs_kr : ∀ {ps : List (V × V)} {qs : List (DV × DV)} {dk : List (Key × DV)}, PvAll K W ps qs → prsD qs = some dk → ∃ kvs : List (Key × V), ps = kvs.map (fun kv => (kV kv.1, kv.2)) ∧ KR K W kvs dk
  | _, _, _, .nil, e => by
    injection e with e
    subst e
    exact ⟨[], rfl, .nil⟩
  | p :: ps, q :: qs, dk, .cons h1 h2 h3, e => by
    obtain ⟨x, y⟩ := q
    unfold prsD at e
    cases e1 : keyD x with
    | none => simp only [e1] at e; cases e
    | some k =>
      cases e2 : prsD qs with
      | none => simp only [e1, e2] at e; cases e
      | some l =>
        simp only [e1, e2] at e
        injection e with e
        subst e
        obtain ⟨kvs, g1, g2⟩ := prs_kr h3 e2
        have := keyD_ok e1
        subst this
        refine ⟨(k, p.2) :: kvs, ?_, .cons ⟨rfl, h2⟩ g2⟩
        rw [List.map_cons, ← g1, ← dv_key h1]
theorem Rl.ung {G' : Hp} (R : Rl K W st H) (s : Same G' W.G) : Rl K ⟨W.F, W.ι, G'⟩ st H where
  fh := R.fh
  gh := s.trans R.gh
  fg := fun a o e => R.fg a o (s.at_ e)
  ob := fun n o e => by
    obtain ⟨a, h1, h2, h3⟩ := R.ob n o e
    exact ⟨a, h1, h2, h3.mono (W := W) (W' := ⟨W.F, W.ι, G'⟩) (Same.refl _) (fun _ _ z => z) rfl⟩
  inj := R.inj
  up := R.up
  ig := fun n a e => free_of s (R.ig n a e)
  bd := R.bd
theorem mergeK_eq {kvs : List (Key × V)} {dk : List (Key × DV)} (h : KR K W kvs dk) (nd : (dk.map (·.1)).Nodup) : KR K W (mergeK [] kvs) dk := by
  have := h.merge (kvs := []) (dk := []) .nil
  rwa [mergeG_new dk [] (by simpa using nd), List.nil_append] at this
theorem XR.mono {cls : Value} {d : Option Addr} {x : XV} (sf : Same W.F W'.F) (si : ∀ n a, W.ι n = some a → W'.ι n = some a) (h : XR K W H cls d x) : XR K W' H cls d x := ⟨h.1, h.2.1, fun z => by
  obtain ⟨a, fs, e1, e2, e3, e4⟩ := h.2.2 z
  exact ⟨a, fs, e1, e2, e3, e4.mono sf si⟩⟩
theorem d_disp {keys : List (Option Expr)} {values : List Expr} {trs : List (TEd × TEd)} {pos : Pos} (h : PPs X pos keys values (trs.map fun t => (canE K E t.1, canE K E t.2))) (hall : keys.all (·.isSome) = true := by rfl) (hl : keys.length = values.length := by rfl) (h0 : keys ≠ [] := by exact List.cons_ne_nil _ _)
    (h15 : keys.length ≤ 15 := by exact Nat.le_of_ble_eq_true rfl) : PE X (.Dict keys values pos) (canE K E (dDisp trs)) :=
  peI (pe_disp h hall hl h0 h15) fun {σ H Q W sl st ex Qd} A q k p hp => by
    have gD : W.G p = none := A.r.gnone hp
    have R1 : Rl K (W.gd p (.dK [])) st (upd H p (.dK [])) := (A.r.same (Same.new hp)).guard upd_same (A.r.fnone hp) (A.r.inone hp)
    have A1 : At K E (W.gd p (.dK [])) sl st σ (upd H p (.dK [])) ex := by
      refine ⟨R1, SlR.mono (W := W) (W' := W.gd p (.dK [])) (Same.refl _) (fun _ _ z => z) A.s, fun W' st' H' cls d x l R' xr q => ?_⟩
      have hG : W'.G = upd W.G p (.dK []) := l.g
      have hs : Same W.G W'.G := by rw [hG]; exact Same.new gD
      exact A.x ⟨W'.F, W'.ι, W.G⟩ st' H' cls d x ⟨l.f, l.i, rfl⟩ (R'.ung hs) (xr.mono (W := W') (W' := ⟨W'.F, W'.ι, W.G⟩) (Same.refl _) fun _ _ z => z) q
    refine pairs_can A1 q fun W2 s2 H2 ps qs l2 R2 D2 ⟨dk, e1, nd, h15, q⟩ => ?_
    obtain ⟨kvs, rfl, kr⟩ := prs_kr D2 e1
    have hG2 : W2.G = upd W.G p (.dK []) := l2.g
    have hG : W2.G p = some (.dK []) := by rw [hG2]; exact upd_same
    have hsm : Same W.G W2.G := by rw [hG2]; exact Same.new gD
    have R3 := R2.reguard (o' := .dK (mergeK [] kvs)) hG
    have hG3 : (W2.gd p (.dK (mergeK [] kvs))).G p = some (.dK (mergeK [] kvs)) := upd_same
    have hs3 : Same W.G (W2.gd p (.dK (mergeK [] kvs))).G := fun a o e => by
      show upd W2.G p _ a = some o
      rw [upd_ne (ne_of_none e gD)]
      exact hsm.at_ e
    have km := mergeK_eq kr nd
    refine ⟨R2.gh.at_ hG, kvs, rfl, by rw [kr.len]; exact h15, ?_⟩
    rcases q with q | q
    · have R4 := R3.unguardF hG3 hs3 gD
      refine k ((W2.gd p (.dK (mergeK [] kvs))).uf p (.dK (mergeK [] kvs)) W.G) _ _ _ _ ⟨l2.f.trans (Same.new (R2.fg p _ hG)), l2.i, rfl⟩ R4 (.dct upd_same km.fst (km.snd.mono (W := W2) (W' := (W2.gd p (.dK (mergeK [] kvs))).uf p (.dK (mergeK [] kvs)) W.G) (Same.new (R2.fg p _ hG)) fun _ _ z => z)) q
    · obtain ⟨n, h1, h2⟩ := R3.fresh
      have R4 := R3.unguardS (n := n) (o := ovK dk) hG3 hs3 gD h1 ⟨mergeK [] kvs, R3.gh.at_ hG3, km.fst, km.snd.mono (W := W2) (W' := (W2.gd p (.dK (mergeK [] kvs))).nw n p) (Same.refl _) fun m a z => (Wd.nw_le h1).i m a z⟩
      exact k ((W2.gd p (.dK (mergeK [] kvs))).us n p W.G) _ _ _ _ ⟨l2.f, fun m a z => (Wd.nw_le h1).i m a (l2.i m a z), rfl⟩ R4 (.ref Wd.nw_at) (q n h2)
theorem dp_nil {pos : Pos} : PPs X pos [] [] (([] : List (TEd × TEd)).map fun t => (canE K E t.1, canE K E t.2)) := pps_nil
theorem dp_cons {pos : Pos} {e f : Expr} {ks : List (Option Expr)} {vs : List Expr} {tk tv : TEd} {trs : List (TEd × TEd)} (hk : PE X e (canE K E tk)) (hv : PE X f (canE K E tv)) (hr : PPs X pos ks vs (trs.map fun t => (canE K E t.1, canE K E t.2))) :
    PPs X pos (some e :: ks) (f :: vs) (((tk, tv) :: trs).map fun t => (canE K E t.1, canE K E t.2)) := pps_cons hk hv hr
end
end Kn

set_option Elab.async false
set_option linter.all false
set_option maxRecDepth 100000
set_option maxHeartbeats 2000000
namespace Kn
open PySem PySem.Spec PyProof.Rows L2
section
variable {K : PySem.W.Frag} {E : EK} {X : Cx} {W W' : Wd} {sl : Sl} {st st' : Sto} {σ : L2.St} {H H' : Hp} {ex : KX} {Q : KD} {D : Endd}
/-! ## steps -/
theorem w_dget {to ti : TEd} (h : to ex sl st fun x s1 => ti ex sl s1 fun y s2 => ∃ dk k v, dcOf s2 x = some dk ∧ keyD y = some k ∧ valG dk k = some v ∧ Q v s2) : dDGet to ti ex sl st Q := h
theorem w_din {neg : Bool} {ti to : TEd} (h : ti ex sl st fun y s1 => to ex sl s1 fun x s2 => ∃ dk k, dcOf s2 x = some dk ∧ keyD y = some k ∧ Q (.bl (bif neg then !(valG dk k).isSome else (valG dk k).isSome)) s2) : dDIn neg ti to ex sl st Q := h
theorem w_dget2 {to ti tz : TEd} (h : to ex sl st fun x s1 => (dcOf s1 x).isSome = true ∧ ti ex sl s1 fun y s2 => tz ex sl s2 fun z s3 => ∃ dk k, dcOf s3 x = some dk ∧ keyD y = some k ∧ Q ((valG dk k).getD z) s3) : dDGet2 to ti tz ex sl st Q := h
theorem w_dpn {QP : List (DV × DV) → Sto → Prop} (h : QP [] st) : dPairsD [] ex sl st QP := h
theorem w_dpc {QP : List (DV × DV) → Sto → Prop} {tk tv : TEd} {r : List (TEd × TEd)} (h : tk ex sl st fun x s1 => tv ex sl s1 fun y s2 => dPairsD r ex sl s2 fun ps s3 => QP ((x, y) :: ps) s3) : dPairsD ((tk, tv) :: r) ex sl st QP := h
theorem w_disp {trs : List (TEd × TEd)} (h : dPairsD trs ex sl st fun ps s1 => ∃ kvs, prsD ps = some kvs ∧ (kvs.map (·.1)).Nodup ∧ kvs.length ≤ 15 ∧ NewKv kvs s1 Q) : dDisp trs ex sl st Q := h
theorem w_gk {P : List (Key × DV) → Key → DV → Prop} {x y : DV} {dk : List (Key × DV)} {k : Key} {v : DV} {s : Sto} (h1 : dcOf s x = some dk) (h2 : keyD y = some k) (h3 : valG dk k = some v) (q : Q v s) : ∃ dk k v, dcOf s x = some dk ∧ keyD y = some k ∧ valG dk k = some v ∧ Q v s := ⟨dk, k, v, h1, h2, h3, q⟩
theorem w_gk2 {x y z : DV} {dk : List (Key × DV)} {k : Key} {s : Sto} (h1 : dcOf s x = some dk) (h2 : keyD y = some k) (q : Q ((valG dk k).getD z) s) : ∃ dk k, dcOf s x = some dk ∧ keyD y = some k ∧ Q ((valG dk k).getD z) s := ⟨dk, k, h1, h2, q⟩
theorem w_isdc {d : DV} {dk : List (Key × DV)} {P : Prop} (h : dcOf st d = some dk) (q : P) : (dcOf st d).isSome = true ∧ P := ⟨by rw [h]; rfl, q⟩
theorem w_pp {ps : List (DV × DV)} {kvs : List (Key × DV)} (h1 : prsD ps = some kvs) (h2 : (kvs.map (·.1)).Nodup) (h3 : kvs.length ≤ 15) (q : NewKv kvs st Q) : ∃ kvs, prsD ps = some kvs ∧ (kvs.map (·.1)).Nodup ∧ kvs.length ≤ 15 ∧ NewKv kvs st Q := ⟨kvs, h1, h2, h3, q⟩
theorem w_setK {n : Nat} {i v : DV} {k : Key} {kvs : List (Key × DV)} {QS : Sto → Prop} (h1 : st n = some (ovK kvs)) (h2 : keyD i = some k) (h3 : LenOk (kvs.length + 1)) (q : QS (sset st n (ovK (putG kvs k v)))) : qSetK (.ref n) i v st QS := ⟨n, k, kvs, rfl, h2, h1, h3, q⟩
/-! ## tuple(x), dict(x) -/
theorem tupleK (K : PySem.W.Frag) (h : X.K = K) : CallR X (.type "tuple") (fun xs H Q => ∃ p ys, xs = [.ref p] ∧ ((SqL K H p ys ∧ ∀ l, H l = none → Q (.ref l) (upd H l (.tup ys))) ∨ (SqT K H p ys ∧ Q (.ref p) H))) := h ▸ call_tuple_of
def qTup : List DV → Sto → KD → Prop := fun ds st Q => ∃ x es, ds = [x] ∧ itsOf st x = some es ∧ Q (.tup es) st
theorem kTupD (hK : X.K = K) : CallR X (.type "tuple") (canC K qTup) := crI (tupleK K hK) fun R D ⟨x, es, e, h, q⟩ k => by
  subst e
  obtain ⟨v, rfl, D1⟩ := dv1 D
  obtain ⟨a, vs, rfl, D2, h⟩ := dv_its R D1 h
  rcases h with ⟨h, _, rfl⟩ | h
  · cases D1 with
    | tup h1 h2 =>
      injection (show some _ = some es from by assumption) with z
      subst z
      exact ⟨a, _, rfl, .inr ⟨R.fh.sqt h1, k _ _ _ _ _ (Wd.Le.refl _) R (.tup h1 h2) q⟩⟩
  · exact ⟨a, vs, rfl, .inl ⟨h, newT R D2 q k⟩⟩
theorem w_tup1 {x : DV} {es : List DV} (h : itsOf st x = some es) (q : Q (.tup es) st) : qTup [x] st Q := ⟨x, es, rfl, h, q⟩
def prsT : List DV → Option (List (Key × DV))
  | [] => some []
  | .tup [x, y] :: r => match keyD x, prsT r with
    | some k, some l => some ((k, y) :: l)
    | _, _ => none
  | _ => none
theorem prsT_ok {W : Wd} (s : Same W.F H) : ∀ {es : List DV} {vs : List V} {dk : List (Key × DV)}, DvAll K W vs es → prsT es = some dk → ∃ (ps : List Addr) (kvs : List (Key × V)), vs = ps.map V.ref ∧ Paired (fun p kv => SqT K H p [kV kv.1, kv.2]) ps kvs ∧ KR K W kvs dk
  | [], _, _, .nil, e => by
    injection e with e
    subst e
    exact ⟨[], [], rfl, .nil, .nil⟩
  | d :: r, v :: vs, dk, .cons h1 h2, e => by
    cases h1 with
    | tup g1 g2 =>
      rename_i a xs ds
      cases g2 with
      | nil => cases e
      | cons g2 g3 =>
        cases g3 with
        | nil => cases e
        | cons g3 g4 =>
          cases g4 with
          | cons _ _ => cases e
          | nil =>
            rename_i x dx y dy
            unfold prsT at e
            cases e1 : keyD dx with
            | none => simp only [e1] at e; cases e
            | some k =>
              cases e2 : prsT r with
              | none => simp only [e1, e2] at e; cases e
              | some l =>
                simp only [e1, e2] at e
                injection e with e
                subst e
                obtain ⟨ps, kvs, i1, i2, i3⟩ := prsT_ok s h2 e2
                have := keyD_ok e1
                subst this
                have ek := dv_key g2
                subst ek
                exact ⟨a :: ps, (k, y) :: kvs, by rw [i1]; rfl, .cons (s.sqt g1) i2, .cons ⟨rfl, g3⟩ i3⟩
    | _ => cases e
def qDct : List DV → Sto → KD → Prop := fun ds st Q => (∃ x es kvs, ds = [x] ∧ lrOf st x = some es ∧ prsT es = some kvs ∧ NewKv (mergeG [] kvs) st Q) ∨ (∃ x kvs, ds = [x] ∧ dcOf st x = some kvs ∧ NewKv kvs st Q)
theorem kDctD (hK : X.K = K) (hc : X.calm = true) : CallR X (.type "dict") (canC K qDct) := crI (dictK K hK hc) fun R D h k => by
  rcases h with ⟨x, es, kvs, e, h, h2, q⟩ | ⟨x, kvs, e, h, q⟩
  · subst e
    obtain ⟨v, rfl, D1⟩ := dv1 D
    obtain ⟨a, vs, rfl, g1, g2⟩ := dv_lr R D1 h
    obtain ⟨ps, kv, rfl, g3, g4⟩ := prsT_ok R.fh g2 h2
    exact .inl ⟨a, ps, kv, rfl, g1, g3, newKv R (g4.merge (kvs := []) (dk := []) .nil) q k⟩
  · subst e
    obtain ⟨v, rfl, D1⟩ := dv1 D
    obtain ⟨a, kv, rfl, g1, g2⟩ := dv_dc R D1 h
    exact .inr ⟨a, kv, rfl, .inl g1, newKv R g2 q k⟩
theorem w_dct {x : DV} {es : List DV} {kvs : List (Key × DV)} (h : lrOf st x = some es) (h2 : prsT es = some kvs) (h3 : (kvs.map (·.1)).Nodup) (q : NewKv kvs st Q) : qDct [x] st Q :=
  .inl ⟨x, es, kvs, rfl, h, h2, by rw [mergeG_new kvs [] (by simpa using h3)]; exact q⟩
theorem w_dctD {x : DV} {kvs : List (Key × DV)} (h : dcOf st x = some kvs) (q : NewKv kvs st Q) : qDct [x] st Q := .inr ⟨x, kvs, rfl, h, q⟩
/-! ## the values, the dict locked meanwhile -/
def dLock (te : TEd) : TEd := fun ex sl st Q => ∃ n ks ds, st n = some (.dct ks ds) ∧ ∀ od kvs, te noX sl (sset st n (.lck od kvs ks ds)) fun v s' => s' n = some (.lck od kvs ks ds) ∧ Q v (sset s' n (.dct ks ds))
theorem d_lock {e : Expr} {te : TEd} (h : PE X e (canE K E te)) : PE X e (canE K E (dLock te)) :=
  peI (pe_lock h) fun {σ H Q W sl st ex Qd} A ⟨n, ks, ds, e1, q⟩ k => by
    obtain ⟨a, h1, h2, kvs, h3, h4, h5⟩ := A.r.ob _ _ e1
    refine ⟨a, .dK kvs, h3, True.intro, fun od => ?_⟩
    have R1 : Rl K W (sset st n (.lck od kvs ks ds)) (upd H a (.frz od (.dK kvs))) := A.r.put (o' := .lck od kvs ks ds) e1 h1 ⟨upd_same, h4, h5⟩
    refine ⟨W, sl, _, noX, _, ⟨R1, A.s, fun _ _ _ _ _ _ _ _ _ z => z.elim⟩, q od kvs, fun W' st' H' v d l R' D' ⟨g1, g2⟩ => ?_⟩
    obtain ⟨a', i1, i2, i3, i4, i5⟩ := R'.ob _ _ g1
    have ha := l.i n a h1
    rw [ha] at i1; injection i1 with i1; subst i1
    exact ⟨i3, k W' _ _ _ _ l (R'.put (o' := .dct ks ds) g1 ha ⟨kvs, upd_same, i4, i5⟩) D' g2⟩
def iValsD (te : TEd) : TId := fun ex sl st R => te ex sl st fun d s1 => ∃ n od kvs ks ds, d = .ref n ∧ s1 n = some (.lck od kvs ks ds) ∧ R ds (fun s => s n = some (.lck od kvs ks ds)) s1
theorem di_vals {tg e : Expr} {te : TEd} {apos cpos : Pos} (he : PE X e (canE K E te)) (hb : attributeBase e "values" X.env (eval e X.env) = eval e X.env := by rfl) (hl : (apos.endLine == cpos.line) = true := by rfl) : PI X tg (.Call (.Attribute e "values" apos) [] [] cpos) (canI K E (iValsD te)) :=
  piI (pi_values he hb hl) fun A h k => runE A h fun W1 s1 H1 v d l1 A1 D1 ⟨n, od, kvs, ks, ds, ed, e1, q⟩ => by
    subst ed
    cases D1 with
    | ref ha =>
      rename_i a
      obtain ⟨a', h1, h2, h3, h4, h5⟩ := A1.r.ob _ _ e1
      rw [ha] at h1; injection h1 with h1; subst h1
      have hlen : kvs.length = ds.length := by have := h5.len; rwa [List.length_map] at this
      have key : ∀ W' st' H', (∀ n a, W1.ι n = some a → W'.ι n = some a) → Rl K W' st' H' → st' n = some (.lck od kvs ks ds) → H' a = some (.frz od (.dK kvs)) ∧ DvAll K W' (kvs.map (·.2)) ds := fun W' st' H' si R' e => by
        obtain ⟨b, g1, g2, g3, g4, g5⟩ := R'.ob _ _ e
        rw [si _ _ ha] at g1; injection g1 with g1; subst g1
        exact ⟨g3, g5⟩
      refine ⟨a, od, kvs, rfl, h3, k _ _ _ _ _ _ l1 A1.r ⟨fun i W' st' H' hi sf si R' g => ?_, fun W' st' H' sf si R' g => ?_, fun i W' st' H' x H'' hi sf si R' g y => ?_⟩ q⟩
      · exact ⟨(key _ _ _ si R' g).1, by rw [hlen]; exact hi⟩
      · exact ⟨(key _ _ _ si R' g).1, by rw [hlen]; exact Nat.le_refl _⟩
      · obtain ⟨rfl, ky, y⟩ := y
        have hx : (kvs.map (·.2))[i]? = some x := by rw [List.getElem?_map, y]; rfl
        obtain ⟨d, g1, g2⟩ := (key _ _ _ si R' g).2.getV hx
        exact ⟨W', d, Wd.Le.refl _, R', g2, g1⟩
theorem w_ivals {te : TEd} {R : List DV → (Sto → Prop) → Sto → Prop} (h : te ex sl st fun d s1 => ∃ n od kvs ks ds, d = .ref n ∧ s1 n = some (.lck od kvs ks ds) ∧ R ds (fun s => s n = some (.lck od kvs ks ds)) s1) : iValsD te ex sl st R := h
end
end Kn

set_option Elab.async false
set_option linter.all false
set_option maxRecDepth 100000
set_option maxHeartbeats 2000000
namespace Kn
open PySem PySem.Spec PyProof.Rows L2
/-! ## text made of small letters -/
theorem strip_conv {s : Str} (h : Txt.stripChars s LETk = "") : ∀ c ∈ cl s, LETk.cps.contains c = true := by
  unfold Txt.stripChars at h
  rw [stripBy_eq] at h
  have e1 : PySem.stripLo LETk.cps.contains true s = ((cl s).takeWhile LETk.cps.contains).length := rfl
  rw [e1] at h
  generalize hlo : ((cl s).takeWhile LETk.cps.contains).length = lo at h
  have e2 : PySem.stripHi LETk.cps.contains true s lo = (cl s).length - ((((cl s).drop lo).reverse).takeWhile LETk.cps.contains).length := by
    show s.length - _ = _
    rw [cl_len]
  rw [e2] at h
  have h := congrArg cl h
  rw [empty_cl] at h
  have h : ((cl s).take ((cl s).length - ((((cl s).drop lo).reverse).takeWhile LETk.cps.contains).length)).drop lo = [] := by
    have h : (s.cps.extract lo ((cl s).length - ((((cl s).drop lo).reverse).takeWhile LETk.cps.contains).length)).toList = [] := h
    rw [Array.toList_extract, List.extract_eq_take_drop, ← List.drop_take] at h
    exact h
  have hl := congrArg List.length h
  rw [List.length_drop, List.length_take, List.length_nil] at hl
  have hk : ((((cl s).drop lo).reverse).takeWhile LETk.cps.contains).length = (((cl s).drop lo).reverse).length := by
    have h1 : ((((cl s).drop lo).reverse).takeWhile LETk.cps.contains).length ≤ (((cl s).drop lo).reverse).length := List.Sublist.length_le (List.takeWhile_sublist _)
    have h2 : lo ≤ (cl s).length := by
      rw [← hlo]
      exact List.Sublist.length_le (List.takeWhile_sublist _)
    rw [List.length_reverse, List.length_drop] at h1 ⊢
    omega
  have hall := List.Sublist.eq_of_length (List.takeWhile_sublist (p := LETk.cps.contains) (l := ((cl s).drop lo).reverse)) hk
  intro c hc
  rw [← List.take_append_drop lo (cl s)] at hc
  have mt : ∀ {l : List Nat} {c : Nat}, c ∈ l.takeWhile LETk.cps.contains → LETk.cps.contains c = true := by
    intro l
    induction l with
    | nil => intro c h; cases h
    | cons a r ih =>
      intro c h
      rw [List.takeWhile_cons] at h
      split at h
      · rename_i q
        rcases List.mem_cons.mp h with rfl | h
        · exact q
        · exact ih h
      · cases h
  rcases List.mem_append.mp hc with hc | hc
  · have : (cl s).take lo = (cl s).takeWhile LETk.cps.contains := by
      rw [← hlo]
      exact (List.prefix_iff_eq_take.mp (List.takeWhile_prefix _)).symm
    rw [this] at hc
    exact mt hc
  · refine mt (l := ((cl s).drop lo).reverse) ?_
    rw [hall]
    exact List.mem_reverse.mpr hc
theorem LET_iff (c : Nat) : LETk.cps.contains c = true ↔ 97 ≤ c ∧ c ≤ 122 := by
  refine ⟨fun h => ?_, fun h => LET_has c h.1 h.2⟩
  have h1 : ∀ x ∈ LETk.cps.toList, 97 ≤ x ∧ x ≤ 122 := by decide +kernel
  exact h1 c (by simpa using h)
theorem nm_ofS {s : Str} (h : nameS s = true) : Nm s := by
  unfold nameS at h
  simp only [Bool.and_eq_true, Bool.not_eq_true', decide_eq_false_iff_not, decide_eq_true_eq] at h
  obtain ⟨h1, h2, h3⟩ := h
  have hl : (s.length : Int) ≤ 8 := by omega
  refine ⟨fun e => h1 ?_, by rw [← cl_len]; omega, fun c hc => (LET_iff c).mp (strip_conv h3 c hc)⟩
  exact cl_ext (by rw [e, empty_cl])
/-- one sign in a text -/
theorem w_in1 {z : Str} {c : Nat} {st : Sto} {Q : KD} (q : Q (.bl (decide (c ∈ cl z))) st) : qIn (.str ⟨#[c]⟩) (.str z) st Q := .inr (.inr (.inr ⟨_, _, rfl, rfl, by
  rw [StrLaws.found_one]
  exact q⟩))
theorem mem_LET {c : Nat} : c ∈ cl LETk ↔ 97 ≤ c ∧ c ≤ 122 := by
  rw [← LET_iff]
  simp
theorem putG_nB {α : Type} {kvs : List (Key × α)} {k : Key} (v : α) (h : (kvs.any fun kv => decide (kv.1 = k)) = false) : putG kvs k v = kvs ++ [(k, v)] := by
  unfold putG
  rw [h, if_neg Bool.false_ne_true]
theorem w_dnewK {ex : KX} {sl : Sl} {st : Sto} {Q : KD} (q : ∀ n, st n = none → Q (.ref n) (sset st n (ovK []))) : dDNew ex sl st Q := .inr q
theorem w_lock {te : TEd} {ex : KX} {sl : Sl} {st : Sto} {Q : KD} (h : ∃ n ks ds, st n = some (.dct ks ds) ∧ ∀ od kvs, te noX sl (sset st n (.lck od kvs ks ds)) fun v s' => s' n = some (.lck od kvs ks ds) ∧ Q v (sset s' n (.dct ks ds))) : dLock te ex sl st Q := h
/-! ## data -/
theorem okD_mono : ∀ {n m : Nat} {d : DV}, n ≤ m → okD n d = true → okD m d = true := by
  intro n
  induction n with
  | zero => intro m d h ok; cases d <;> first | (cases m <;> rfl) | (cases ok; done)
  | succ n ih =>
    intro m d h ok
    obtain ⟨m, rfl⟩ : ∃ k, m = k + 1 := ⟨m - 1, by omega⟩
    have key : ∀ ds : List DV, ds.all (okD n) = true → ds.all (okD m) = true := fun ds h1 => List.all_eq_true.mpr fun x hx => ih (by omega) (List.all_eq_true.mp h1 x hx)
    cases d <;> first | rfl | exact key _ ok | (cases ok; done)
theorem cut_lo {t : List DV} {j : Nat} (h : j ≤ t.length) : cutD t none (some (j : Int)) = t.take j := by
  unfold cutD
  rw [show HT.sIx t.length 0 none = 0 from rfl, HT.sIx_nat, List.drop_zero, Nat.sub_zero, Nat.min_eq_left h]
theorem cut_hi {t : List DV} {j : Nat} (h : j ≤ t.length) : cutD t (some (j : Int)) none = t.drop j := by
  unfold cutD
  rw [show HT.sIx t.length t.length none = t.length from rfl, HT.sIx_nat, Nat.min_eq_left h]
  exact List.take_of_length_le (by rw [List.length_drop]; exact Nat.le_refl _)
theorem cut_mem {t : List DV} {lo hi : Option Int} {d : DV} (h : d ∈ cutD t lo hi) : d ∈ t := List.mem_of_mem_drop (List.mem_of_mem_take h)
theorem cut_len {t : List DV} {lo hi : Option Int} : (cutD t lo hi).length ≤ t.length := by
  unfold cutD
  rw [List.length_take, List.length_drop]
  omega
theorem cutS_len {s : Str} {lo hi : Option Int} : (cutS s lo hi).length ≤ s.length := by
  show ((s.cps.toList.drop _).take _).toArray.size ≤ s.cps.size
  rw [List.size_toArray, List.length_take, List.length_drop, Array.length_toList]
  omega
theorem cutS_lo {s : Str} {j : Nat} : (cutS s none (some (j : Int))).length ≤ j := by
  show ((s.cps.toList.drop (HT.sIx s.length 0 none)).take (HT.sIx s.length s.length (some (j : Int)) - HT.sIx s.length 0 none)).toArray.size ≤ j
  rw [List.size_toArray, List.length_take, HT.sIx_nat, show HT.sIx s.length 0 none = 0 from rfl]
  omega
theorem cutS_hi {s : Str} {j : Nat} : (cutS s (some (j : Int)) none).length ≤ s.length - j := by
  show ((s.cps.toList.drop (HT.sIx s.length 0 (some (j : Int)))).take (HT.sIx s.length s.length none - HT.sIx s.length 0 (some (j : Int)))).toArray.size ≤ _
  rw [List.size_toArray, List.length_take, List.length_drop, HT.sIx_nat, Array.length_toList]
  show _ ≤ s.length - j
  have : s.cps.size = s.length := rfl
  omega
theorem cut_ints {ns : List Int} {lo hi : Option Int} : ∃ zs : List Int, cutD (ns.map DV.int) lo hi = zs.map DV.int ∧ zs.length ≤ ns.length := by
  refine ⟨(ns.drop (HT.sIx (ns.map DV.int).length 0 lo)).take (HT.sIx (ns.map DV.int).length (ns.map DV.int).length hi - HT.sIx (ns.map DV.int).length 0 lo), ?_, ?_⟩
  · unfold cutD
    rw [List.map_take, List.map_drop]
  · rw [List.length_take, List.length_drop]
    omega
theorem vw_kn {st : Sto} {x : DV} (h : knD x = true) : vw st x = x := by cases x <;> first | rfl | (cases h; done)
theorem w_neV {x y : DV} {st : Sto} {Q : KD} (kx : knD x = true) (ky : knD y = true) (ox : okD 60 x = true) (oy : okD 60 y = true) (q : Q (.bl (!deq x y)) st) : qNe x y st Q := ⟨by rw [vw_kn kx]; exact ox, by rw [vw_kn ky]; exact oy, by rw [vw_kn kx, vw_kn ky]; exact q⟩
theorem w_eqV {x y : DV} {st : Sto} {Q : KD} (kx : knD x = true) (ky : knD y = true) (ox : okD 60 x = true) (oy : okD 60 y = true) (q : Q (.bl (deq x y)) st) : qEq x y st Q := ⟨by rw [vw_kn kx]; exact ox, by rw [vw_kn ky]; exact oy, by rw [vw_kn kx, vw_kn ky]; exact q⟩
/-- the store grows -/
def Ext (st s : Sto) : Prop := ∀ n o, st n = some o → s n = some o
theorem Ext.refl (st : Sto) : Ext st st := fun _ _ h => h
theorem Ext.new {st s : Sto} {n : Nat} {o : OV} (h : Ext st s) (hn : s n = none) : Ext st (sset s n o) := fun m u e => by
  rw [sset_ne (sne_of (h m u e) hn)]
  exact h m u e
theorem w_isi_si {x : DV} {K : PySem.W.Frag} {te : TEd} {ex : KX} {sl : Sl} {st : Sto} {Q : KD} (hk : knD x = true) (q : Q (.bl (sKB x || iKB x)) st) : ∃ t b, tyD st x = some t ∧ PySem.W.kitAny K t [.type "str", .type "int"] = some b ∧ Q (.bl b) st := by
  have key : ∀ n ∈ (["NoneType", "bool", "int", "str", "list", "tuple", "dict"] : List String), PySem.W.kitAny K (.type n) [.type "str", .type "int"] = some ((n == "str") || (n == "int" || n == "bool")) := by
    intro n hn
    have h1 := kit_ty (K := K) (kkD n hn).1
    have h2 := kit_ty (K := K) (kkD n hn).2.1
    exact kitAny_cons h1 (fun e => by rw [e, Bool.false_or]; exact kitAny_cons h2 (fun e => by rw [e]; exact kitAny_nil) fun e => e) fun e => by rw [e]; rfl
  cases x with
  | non => exact ⟨_, _, rfl, key "NoneType" (by simp), q⟩
  | bl _ => exact ⟨_, _, rfl, key "bool" (by simp), q⟩
  | int _ => exact ⟨_, _, rfl, key "int" (by simp), q⟩
  | str _ => exact ⟨_, _, rfl, key "str" (by simp), q⟩
  | tup _ => exact ⟨_, _, rfl, key "tuple" (by simp), q⟩
  | lst _ => exact ⟨_, _, rfl, key "list" (by simp), q⟩
  | scr _ => exact ⟨_, _, rfl, key "list" (by simp), q⟩
  | dct _ _ => exact ⟨_, _, rfl, key "dict" (by simp), q⟩
  | _ => cases hk
/-! ## names in lists -/
theorem all_str {n : Nat} {ns : List Str} : (ns.map DV.str).all (okD n) = true := by
  rw [List.all_map]
  exact List.all_eq_true.mpr fun _ _ => by cases n <;> rfl
theorem any_strD {ns : List Str} {s : Str} : ((ns.map DV.str).any fun z => deq z (.str s)) = decide (s ∈ ns) := by
  induction ns with
  | nil => simp
  | cons a r ih =>
    rw [List.map_cons, List.any_cons, ih, deq_str]
    by_cases h : a = s
    · subst h; simp
    · have h' : ¬ s = a := fun e => h e.symm
      simp [h, h']
theorem w_niL {x : DV} {ds : List DV} {y : DV} {st : Sto} {Q : KD} (e : vw st y = .lst ds) (h1 : okD 59 (vw st x) = true) (h2 : ds.all (okD 59) = true) (q : Q (.bl (!ds.any fun z => deq z (vw st x))) st) : qNi x y st Q := .inl ⟨ds, e, h1, h2, q⟩
theorem w_inL {x : DV} {ds : List DV} {y : DV} {st : Sto} {Q : KD} (e : vw st y = .lst ds) (h1 : okD 59 (vw st x) = true) (h2 : ds.all (okD 59) = true) (q : Q (.bl (ds.any fun z => deq z (vw st x))) st) : qIn x y st Q := .inl ⟨ds, e, h1, h2, q⟩
theorem w_niStr {s : Str} {ns : List Str} {y : DV} {st : Sto} {Q : KD} (e : vw st y = .lst (ns.map DV.str)) (q : Q (.bl (!decide (s ∈ ns))) st) : qNi (.str s) y st Q := w_niL e rfl all_str (by rw [show vw st (.str s) = .str s from rfl, any_strD]; exact q)
theorem w_inStr {s : Str} {ns : List Str} {y : DV} {st : Sto} {Q : KD} (e : vw st y = .lst (ns.map DV.str)) (q : Q (.bl (decide (s ∈ ns))) st) : qIn (.str s) y st Q := w_inL e rfl all_str (by rw [show vw st (.str s) = .str s from rfl, any_strD]; exact q)
theorem rgD_len {lo : Int} {n : Nat} : (rgD lo n).length = n := by simp [rgD]
theorem rgD_get {lo : Int} {n i : Nat} {x : DV} (h : (rgD lo n)[i]? = some x) : i < n ∧ x = .int (lo + i) := by
  unfold rgD at h
  rw [List.getElem?_map] at h
  cases e : (List.range n)[i]? with
  | none => rw [e] at h; cases h
  | some j =>
    rw [e] at h
    obtain ⟨h1, h2⟩ := List.getElem?_eq_some_iff.mp e
    rw [List.length_range] at h1
    rw [List.getElem_range] at h2
    subst h2
    injection h with h
    exact ⟨h1, h.symm⟩
/-! ## truths as numbers -/
def bI (b : Bool) : Int := if b = true then 1 else 0
section
variable {K : PySem.W.Frag} {X : Cx}
theorem op_add_bi : OpR X (binaryOp .Add) (fun x y H Q => ∃ k i, x = .bl k ∧ y = .int i ∧ Q (.int (bI k + i)) H) := by
  intro pins s σ H x y v u Q I rx ry h
  obtain ⟨k, i, rfl, rfl, q⟩ := h
  cases rx
  obtain ⟨t, rfl⟩ := ry
  exact PySem.IntBool.add_bool_int ⟨.int _, H, I.tok _, ⟨_, rfl⟩, q⟩
theorem op_mul_ib : OpR X (binaryOp .Mult) (fun x y H Q => ∃ i k, x = .int i ∧ y = .bl k ∧ Q (.int (i * bI k)) H) := by
  intro pins s σ H x y v u Q I rx ry h
  obtain ⟨i, k, rfl, rfl, q⟩ := h
  cases ry
  obtain ⟨t, rfl⟩ := rx
  exact PySem.IntBool.mul_int_bool ⟨.int _, H, I.tok _, ⟨_, rfl⟩, q⟩
def qAddB : R2d := fun x y st Q => qAdd x y st Q ∨ ∃ k i, x = .bl k ∧ y = .int i ∧ Q (.int (bI k + i)) st
def qMulB : R2d := fun x y st Q => qMul x y st Q ∨ ∃ i k, x = .int i ∧ y = .bl k ∧ Q (.int (i * bI k)) st
theorem dvB {W : Wd} {v : V} {b : Bool} (h : Dv K W v (.bl b)) : v = .bl b := by cases h; rfl
theorem kAddBD (hK : X.K = K) : OpR X (binaryOp .Add) (canR K qAddB) := Kn.opI (opr_or (kAddD hK) op_add_bi) fun R D1 D2 h k => by
  rcases h with h | ⟨b, i, rfl, rfl, q⟩
  · exact .inl ⟨_, _, _, _, _, R, D1, D2, h, k⟩
  · exact .inr ⟨b, i, dvB D1, dvI D2, k _ _ _ _ _ (Wd.Le.refl _) R (.int _) q⟩
theorem kMulBD : OpR X (binaryOp .Mult) (canR K qMulB) := Kn.opI (opr_or kMulD op_mul_ib) fun R D1 D2 h k => by
  rcases h with h | ⟨i, b, rfl, rfl, q⟩
  · exact .inl ⟨_, _, _, _, _, R, D1, D2, h, k⟩
  · exact .inr ⟨i, b, dvI D1, dvB D2, k _ _ _ _ _ (Wd.Le.refl _) R (.int _) q⟩
end
/-! ## something out of a row -/
theorem ix_anyS {s : Str} {r : Int} {st : Sto} {Q : KD} (h0 : 0 ≤ r) (h1 : r < s.length) (q : ∀ c, c ∈ cl s → Q (.str ⟨#[c]⟩) st) : qIx (.str s) (.int r) st Q := by
  obtain ⟨v, e1, e2, _⟩ := atI_lt (xs := s.cps.toList) h0 (by rw [Array.length_toList]; exact h1)
  exact w_ixS e1 (q v e2)
theorem ix_anyT {ds : List DV} {r : Int} {st : Sto} {Q : KD} (h0 : 0 ≤ r) (h1 : r < ds.length) (q : ∀ d, d ∈ ds → Q d st) : qIx (.tup ds) (.int r) st Q := by
  obtain ⟨v, e1, e2, _⟩ := atI_lt (xs := ds) h0 h1
  exact w_ixT e1 (q v e2)
theorem ix_anyL {ds : List DV} {r : Int} {st : Sto} {Q : KD} (h0 : 0 ≤ r) (h1 : r < ds.length) (q : ∀ d, d ∈ ds → Q d st) : qIx (.lst ds) (.int r) st Q := by
  obtain ⟨v, e1, e2, _⟩ := atI_lt (xs := ds) h0 h1
  exact w_ixL e1 (q v e2)
end Kn

set_option Elab.async false
set_option linter.all false
set_option maxRecDepth 100000
set_option maxHeartbeats 2000000
namespace Kn
open PySem PySem.Spec PyProof.Rows L2
section
variable {X : Cx} {W : Wd} {K : PySem.W.Frag} {st : Sto} {H : Hp}
/-! ## max and min of two numbers -/
def qMax2 : List DV → Sto → KD → Prop := fun ds st Q => ∃ i j, ds = [.int i, .int j] ∧ Q (.int (if j > i then j else i)) st
def qMin2 : List DV → Sto → KD → Prop := fun ds st Q => ∃ i j, ds = [.int i, .int j] ∧ Q (.int (if j < i then j else i)) st
theorem kMax2D (hc : X.calm = true) : CallR X (.builtin "max") (canC K qMax2) := crI (call_max2 hc) fun R D ⟨i, j, e, q⟩ k => by
  subst e
  obtain ⟨v, w, rfl, D1, D2⟩ := dv2 D
  rw [dvI D1, dvI D2]
  exact ⟨i, j, rfl, k _ _ _ _ _ (Wd.Le.refl _) R (.int _) q⟩
theorem kMin2D (hc : X.calm = true) : CallR X (.builtin "min") (canC K qMin2) := crI (call_min2 hc) fun R D ⟨i, j, e, q⟩ k => by
  subst e
  obtain ⟨v, w, rfl, D1, D2⟩ := dv2 D
  rw [dvI D1, dvI D2]
  exact ⟨i, j, rfl, k _ _ _ _ _ (Wd.Le.refl _) R (.int _) q⟩
theorem w_max2 {i j : Int} {Q : KD} (q : Q (.int (if j > i then j else i)) st) : qMax2 [.int i, .int j] st Q := ⟨i, j, rfl, q⟩
theorem w_min2 {i j : Int} {Q : KD} (q : Q (.int (if j < i then j else i)) st) : qMin2 [.int i, .int j] st Q := ⟨i, j, rfl, q⟩
end
end Kn

set_option Elab.async false
set_option linter.all false
set_option maxRecDepth 100000
set_option maxHeartbeats 2000000
namespace Kn
open PySem PySem.Spec PyProof.Rows L2
/-! ## a text turned about -/
section
variable {X : Cx}
def tRevS (te : TE) : TE := fun σ H Q => te σ H fun x H1 => ∃ s, x = .str s ∧ s.length ≤ sizeLine ∧ ∀ t : Str, t.length = s.length → (∀ c ∈ t.cps.toList, c ∈ s.cps.toList) → Q (.str t) H1
theorem revS_mem (x : Str) (u : Tok) : ∀ c ∈ (Txt.sliceBy x none none (-1, u)).cps.toList, c ∈ x.cps.toList := by
  intro c hc
  rw [step_rev_list] at hc
  obtain ⟨k, hk, rfl⟩ := List.mem_map.mp hc
  have hk := List.mem_range.mp hk
  have h : x.length - 1 - k < x.cps.size := by show x.cps.size - 1 - k < x.cps.size; have : k < x.cps.size := hk; omega
  have e : x.cps.getD (x.length - 1 - k) 0 = x.cps[x.length - 1 - k] := by simp [Array.getD, h]
  rw [e]
  exact Array.getElem_mem_toList h
theorem pe_revS {e : Expr} {te : TE} {k : Nat} {p1 p2 p3 pos : Pos} (he : PE X e te) : PE X (.Subscript e (.Slice none none (some (.UnaryOp .USub (.Constant (.int 1) k p1) p2)) p3) pos) (tRevS te) := by
  refine ⟨fun pins s σ H Q I h => ?_⟩
  refine Subscript_ (thn (he.run pins s σ H _ I h) fun v s1 ⟨x, H1, I1, r1, q1⟩ => ?_)
  obtain ⟨z, ex, hz, q⟩ := q1
  subst ex
  obtain ⟨t, rfl⟩ := r1
  have hst : PO X (some (.UnaryOp .USub (.Constant (.int 1) k p1) p2)) (tPart (tUn (rU fun i => .int (-i)) (tC (.int 1)))) := po_some (pe_un un_neg pe_int)
  refine wpAny_Slice (thn (po_none.run pins s1 σ H1 (fun o H2 => o = none ∧ H2 = H1) I1 ⟨rfl, rfl⟩) fun vl s2 ⟨l, H2, I2, pl, el, e2⟩ => ?_)
  subst el e2
  refine thn (po_none.run pins s2 σ H2 (fun o H3 => o = none ∧ H3 = H2) I2 ⟨rfl, rfl⟩) fun vu s3 ⟨u, H3, I3, pu, eu, e3⟩ => ?_
  subst eu e3
  refine thn (hst.run pins s3 σ H3 (fun o H4 => o = some (-1) ∧ H4 = H3) I3 ⟨1, rfl, -1, rfl, rfl, rfl⟩) fun vs s4 ⟨o, H4, I4, ps, eo, e4⟩ => ?_
  subst eo e4
  have I5 : Inv X pins σ H4 { s4 with heap := s4.heap.push { cls := .type "slice", data := .fields #[vl, vu, vs] } } := I4.kept (t' := s4.toks) fun b ob q => Heap.get?_push_of_some _ q
  show wpAny (model X.prog X.w) X.A (subscriptTail e (.Slice none none (some (.UnaryOp .USub (.Constant (.int 1) k p1) p2)) p3) (.str z t) (.ref s4.heap.objs.size)) (EP X pins σ Q) X.xe { s4 with heap := s4.heap.push { cls := .type "slice", data := .fields #[vl, vu, vs] } }
  refine tail_any (ops := [.ref s4.heap.objs.size, .str z t]) (typeIs_str _ _ _) (F.slot_str_getitem.lookup) ?_ (by with_unfolding_all rfl)
  obtain ⟨os, hos, hcs, hds⟩ := Heap.IsSliceOf.new s4.heap vl vu vs
  obtain ⟨l0, rfl, hl0⟩ := IsPart.raw pl
  obtain ⟨u0, rfl, hu0⟩ := IsPart.raw pu
  obtain ⟨s0, rfl, hs0⟩ := IsPart.raw ps
  cases l0 with
  | some _ => cases hl0
  | none =>
  cases u0 with
  | some _ => cases hu0
  | none =>
  cases s0 with
  | none => cases hs0
  | some p =>
  obtain ⟨i0, t0⟩ := p
  obtain rfl : (-1 : Int) = i0 := by simpa using hs0.symm
  refine wpAny_getItem_str_slice (l := none) (u := none) (st := some (-1, t0)) ⟨os, hos, hcs, hds⟩ rfl ?_
  have hb : Txt.sliceBy z none none (-1, t0) = ⟨((slicePicked z none none (some (-1, t0))).filterMap (z.cps[·]?)).toArray⟩ := rfl
  have hlen := step_rev_len z t0
  have hmem := revS_mem z t0
  rw [hb] at hlen hmem
  show Made.post (Made.str ⟨((slicePicked z none none (some (-1, t0))).filterMap (z.cps[·]?)).toArray⟩) (EP X pins σ Q) _
  exact ⟨by rw [hlen]; exact hz, .str _, H4, I5.tok _, ⟨_, rfl⟩, q _ hlen hmem⟩
end
section
variable {X : Cx} {W : Wd} {K : PySem.W.Frag} {st : Sto} {H : Hp} {E : EK}
def dRevS (te : TEd) : TEd := fun ex sl st Q => te ex sl st fun d s1 => ∃ s, d = .str s ∧ ∀ t : Str, t.length = s.length → (∀ c ∈ t.cps.toList, c ∈ s.cps.toList) → Q (.str t) s1
theorem d_revS {e : Expr} {te : TEd} {k : Nat} {p1 p2 p3 pos : Pos} (he : PE X e (canE K E te)) : PE X (.Subscript e (.Slice none none (some (.UnaryOp .USub (.Constant (.int 1) k p1) p2)) p3) pos) (canE K E (dRevS te)) :=
  peI (pe_revS he) fun A h k => runE A h fun W1 s1 H1 v d l1 A1 D1 ⟨s, e, q⟩ => by
    subst e
    obtain ⟨rfl, ok⟩ := dvS D1
    refine ⟨s, rfl, szl ok.2, fun t ht hc => k W1 s1 H1 (.str t) (.str t) l1 A1.r (.str t ⟨?_, by rw [ht]; exact ok.2⟩) (q t ht hc)⟩
    have h1 := ok.1
    unfold PyData.strOk at h1 ⊢
    rw [← Array.all_toList] at h1 ⊢
    exact List.all_eq_true.mpr fun c hcm => List.all_eq_true.mp h1 c (hc c hcm)
theorem w_revS {te : TEd} {ex : KX} {sl : Sl} {Q : KD} (h : te ex sl st fun d s1 => ∃ s, d = .str s ∧ ∀ t : Str, t.length = s.length → (∀ c ∈ t.cps.toList, c ∈ s.cps.toList) → Q (.str t) s1) : dRevS te ex sl st Q := h
end
end Kn

set_option Elab.async false
set_option linter.all false
set_option maxRecDepth 100000
set_option maxHeartbeats 2000000
namespace Kn
open PySem PySem.Spec PyProof.Rows L2
section
variable {X : Cx} {W : Wd} {K : PySem.W.Frag} {st : Sto} {H : Hp} {E : EK}
/-! ## pop(i), insert(i, y) -/
def qPopAt : DV → List DV → Sto → KD → Prop := fun x ds st Q => ∃ n es, ∃ k : Nat, ∃ y, x = .ref n ∧ ds = [.int (k : Int)] ∧ st n = some (.lst es) ∧ es.length ≤ 100000 ∧ es[k]? = some y ∧ Q y (sset st n (.lst (es.eraseIdx k)))
theorem DvAll.erase : ∀ {vs : List V} {ds : List DV} (i : Nat), DvAll K W vs ds → DvAll K W (vs.eraseIdx i) (ds.eraseIdx i)
  | _, _, _, .nil => .nil
  | _, _, 0, .cons _ h => h
  | _, _, i + 1, .cons h1 h => .cons h1 (h.erase i)
theorem seqIx_nat {k n : Nat} (h : k < n) : seqIndex? (k : Int) n = some k := by
  unfold seqIndex?
  have h1 : ¬ ((k : Int) < 0) := by omega
  have h2 : (0 : Int) ≤ (k : Int) := by omega
  have h3 : (k : Int) < (n : Int) := by omega
  simp only [h1, if_false, h2, h3, decide_true, Bool.and_self, if_true, Int.toNat_natCast]
theorem kPopAtD : MtR X "list.pop" (canM K qPopAt) := mtI (show MtR X "list.pop" rPopAt from mt_popAt) fun R D1 D ⟨n, es, k0, y, e1, e2, h, hl, hy, q⟩ k => by
  subst e1 e2
  obtain ⟨v, rfl, D2⟩ := dv1 D
  rw [dvI D2]
  cases D1 with
  | ref ha =>
    obtain ⟨a, h1, h2, vs, h3, h4⟩ := R.ob _ _ h
    rw [ha] at h1; injection h1 with h1; subst h1
    have hk := (List.getElem?_eq_some_iff.mp hy).1
    obtain ⟨w, g1, g2⟩ := h4.get hy
    exact ⟨_, vs, (k0 : Int), k0, w, rfl, rfl, h3, by omega, by omega, by rw [h4.len]; exact seqIx_nat hk, g1, k _ _ _ _ _ (Wd.Le.refl _) (R.put (o' := .lst (es.eraseIdx k0)) h ha ⟨_, upd_same, h4.erase k0⟩) g2 q⟩
def qIns : DV → List DV → Sto → KD → Prop := fun x ds st Q => ∃ n es, ∃ k : Nat, ∃ y, x = .ref n ∧ ds = [.int (k : Int), y] ∧ st n = some (.lst es) ∧ k ≤ 100000 ∧ es.length < 100000 ∧ Q .non (sset st n (.lst (es.take k ++ [y] ++ es.drop k)))
theorem kInsD : MtR X "list.insert" (canM K qIns) := mtI mt_insert fun R D1 D ⟨n, es, k0, y, e1, e2, h, hk, hl, q⟩ k => by
  subst e1 e2
  obtain ⟨v, w, rfl, D2, D3⟩ := dv2 D
  rw [dvI D2]
  cases D1 with
  | ref ha =>
    obtain ⟨a, h1, h2, vs, h3, h4⟩ := R.ob _ _ h
    rw [ha] at h1; injection h1 with h1; subst h1
    refine ⟨_, vs, (k0 : Int), w, rfl, rfl, h3, by rw [h4.len]; exact Nat.lt_of_lt_of_le hl (by decide), by omega, by omega, ?_⟩
    rw [Int.toNat_natCast]
    exact k _ _ _ _ _ (Wd.Le.refl _) (R.put (o' := .lst (es.take k0 ++ [y] ++ es.drop k0)) h ha ⟨_, upd_same, ((h4.take k0).app (.cons D3 .nil)).app (h4.drop k0)⟩) .non q
theorem w_popAt {n k : Nat} {es : List DV} {y : DV} {Q : KD} (h : st n = some (.lst es)) (hl : es.length ≤ 100000) (hy : es[k]? = some y) (q : Q y (sset st n (.lst (es.eraseIdx k)))) : qPopAt (.ref n) [.int (k : Int)] st Q := ⟨n, es, k, y, rfl, rfl, h, hl, hy, q⟩
theorem w_ins {n k : Nat} {es : List DV} {y : DV} {Q : KD} (h : st n = some (.lst es)) (hk : k ≤ 100000) (hl : es.length < 100000) (q : Q .non (sset st n (.lst (es.take k ++ [y] ++ es.drop k)))) : qIns (.ref n) [.int (k : Int), y] st Q := ⟨n, es, k, y, rfl, rfl, h, hk, hl, q⟩
/-! ## what stood in the store taken as frozen, at any expression -/
def dGv (te : TEd) : TEd := fun ex sl st Q => te ex sl st fun d s1 => ∃ d' s2, Gv d s1 d' s2 ∧ Q d' s2
theorem d_gv {e : Expr} {te : TEd} (he : PE X e (canE K E te)) : PE X e (canE K E (dGv te)) := peI he fun A h k => ⟨_, _, _, _, _, A, h, fun W' st' H' v d l R D ⟨d', s2, g, q⟩ => by
  obtain ⟨W2, l2, R2, D2⟩ := Rl.gv g R D
  exact k W2 s2 H' v d' (l.trans l2) R2 D2 q⟩
theorem w_dgv {te : TEd} {ex : KX} {sl : Sl} {Q : KD} (h : te ex sl st fun d s1 => ∃ d' s2, Gv d s1 d' s2 ∧ Q d' s2) : dGv te ex sl st Q := h
/-! ## a, b = x, y -/
def dPar (i j : Nat) (ta : TAd) : TSd := fun D sl st => ta (fun x s => D.ex x sl s) sl st fun ds s1 => ∃ d e, ds = [d, e] ∧ D.nx ((sl.set i (some d)).set j (some e)) s1
theorem ds_par {i j : Nat} {x y : Str} {a b : Expr} {ta : TAd} {px py pt pos : Pos} {kt k2 pt2} (hc : X.calm = true) (hN : X.N.Nodup) (hi : X.N[i]? = some x) (hj : X.N[j]? = some y) (hij : i ≠ j)
    (hx : X.env.scope.names.lookup x = some .local) (hy : X.env.scope.names.lookup y = some .local) (ha : PA X [a, b] (canA K E ta))
    (hw : swappedStores [.Tuple [.Name x px, .Name y py] kt pt] (.Tuple [a, b] k2 pt2) X.env = pure (some [x, y]))
    (hs : swapsWithSole [.Tuple [.Name x px, .Name y py] kt pt] (.Tuple [a, b] k2 pt2) pos.line X.env = pure false := by rfl) :
    PS X (.Assign [.Tuple [.Name x px, .Name y py] kt pt] (.Tuple [a, b] k2 pt2) pos) (canS K E (dPar i j ta)) :=
  psI (ps_par hc hN hi hj hij hx hy ha hw hs) fun R S N q => runA (N.at_ R S) q fun W1 s1 H1 vs ds l A1 D ⟨d, e, e1, q1⟩ => by
    subst e1
    obtain ⟨v, w, rfl, D1, D2⟩ := dv2 D
    exact ⟨v, w, rfl, N.nx _ _ _ _ _ l A1.r ((A1.s.set D1).set D2) q1⟩
theorem w_par {i j : Nat} {ta : TAd} {D : Endd} {sl : Sl} (h : ta (fun x s => D.ex x sl s) sl st fun ds s1 => ∃ d e, ds = [d, e] ∧ D.nx ((sl.set i (some d)).set j (some e)) s1) : dPar i j ta D sl st := h
end
end Kn

set_option Elab.async false
set_option linter.all false
set_option maxRecDepth 100000
set_option maxHeartbeats 2000000
namespace Kn
open PySem PySem.Spec PyProof.Rows L2
section
variable {X : Cx} {E : EK} {W : Wd} {K : PySem.W.Frag} {st : Sto} {H : Hp}
/-! ## try: body / except ..: .. / else: .., where the body raises nothing -/
def dThru (tb u : TSd) : TSd := fun D sl st => tb { D with nx := u D, ex := fun _ _ _ => False } sl st
theorem ds_thru {body orelse : List Stmt} {h₀ : ExceptHandler} {hs : List ExceptHandler} {tb u : TSd} {pos : Pos} (hb : PSs X.nox body (canS K E0c tb)) (ho : PSs X orelse (canS K E u)) : PS X (.Try body (h₀ :: hs) orelse [] pos) (canS K E (dThru tb u)) :=
  psI (ps_try_thru hb ho) fun {D σ H W sl st Dd} R S N q => ⟨W, sl, st, { Dd with nx := u Dd, ex := fun _ _ _ => False }, R, S, ⟨fun W2 sl2 s2 σ2 H2 l R2 S2 q2 => ⟨W2, sl2, s2, Dd, R2, S2, N.le l, q2⟩, N.rt, fun _ _ _ _ _ _ _ _ _ _ _ _ z => z.elim, N.bk, N.ct⟩, q⟩
theorem w_thru {tb u : TSd} {D : Endd} {sl : Sl} (h : tb { D with nx := u D, ex := fun _ _ _ => False } sl st) : dThru tb u D sl st := h
theorem szl2 {n : Nat} (h : n ≤ 100000) : n + 2 ≤ sizeLine := by
  have : (100002 : Nat) ≤ sizeLine := by decide
  omega
/-! ## split -/
theorem joinL_mem {S : List Nat} : ∀ {ps : List (List Nat)} {p : List Nat}, p ∈ ps → (∀ c ∈ p, c ∈ TL.joinL S ps) ∧ p.length ≤ (TL.joinL S ps).length
  | [], p, h => nomatch h
  | [q], p, h => by
    rw [List.mem_singleton.mp h]
    exact ⟨fun _ h => h, Nat.le_refl _⟩
  | q :: r :: t, p, h => by
    show (∀ c ∈ p, c ∈ q ++ (S ++ TL.joinL S (r :: t))) ∧ p.length ≤ (q ++ (S ++ TL.joinL S (r :: t))).length
    rcases List.mem_cons.mp h with rfl | h
    · exact ⟨fun c hc => List.mem_append_left _ hc, by rw [List.length_append]; omega⟩
    · obtain ⟨h1, h2⟩ := joinL_mem (S := S) h
      exact ⟨fun c hc => List.mem_append_right _ (List.mem_append_right _ (h1 c hc)), by rw [List.length_append, List.length_append]; omega⟩
theorem split_part {x y p : Str} (h : p ∈ Txt.split x y) : (∀ c ∈ cl p, c ∈ cl x) ∧ p.length ≤ x.length := by
  have e := StrLaws.join_split x y
  have e2 := TL.tl_join y (Txt.split x y)
  rw [e] at e2
  obtain ⟨h1, h2⟩ := joinL_mem (S := TL.tl y) (List.mem_map.mpr ⟨p, h, rfl⟩ : TL.tl p ∈ (Txt.split x y).map TL.tl)
  rw [← e2] at h1 h2
  refine ⟨h1, ?_⟩
  have a : (TL.tl p).length = p.length := Array.length_toList
  have b : (TL.tl x).length = x.length := Array.length_toList
  omega
theorem sok_part {x y p : Str} (hx : SOk x) (h : p ∈ Txt.split x y) : SOk p := by
  obtain ⟨h1, h2⟩ := split_part h
  refine ⟨?_, Nat.le_trans h2 hx.2⟩
  have hh := hx.1
  unfold PyData.strOk at hh ⊢
  rw [← Array.all_toList] at hh ⊢
  exact List.all_eq_true.mpr fun c hc => List.all_eq_true.mp hh c (h1 c hc)
theorem dva_strs : ∀ {ss : List Str}, (∀ s ∈ ss, SOk s) → DvAll K W (ss.map V.str) (ss.map DV.str)
  | [], _ => .nil
  | s :: r, h => .cons (.str s (h s (List.mem_cons_self ..))) (dva_strs fun z hz => h z (List.mem_cons_of_mem _ hz))
def qSplit : DV → List DV → Sto → KD → Prop := fun x ds st Q => ∃ a b, x = .str a ∧ ds = [.str b] ∧ (b.length == 0) = false ∧ NewL ((Txt.split a b).map DV.str) st Q
theorem kSplitD : MtR X "str.split" (canM K qSplit) := mtI mt_split fun R D1 D ⟨a, b, e1, e2, hb, q⟩ k => by
  subst e1 e2
  obtain ⟨v, rfl, D2⟩ := dv1 D
  obtain ⟨rfl, s1⟩ := dvS D1
  obtain ⟨rfl, s2⟩ := dvS D2
  exact ⟨a, b, rfl, rfl, hb, szl2 s1.2, newL R (dva_strs fun s hs => sok_part s1 hs) q k⟩
theorem w_split {a b : Str} {Q : KD} (hb : (b.length == 0) = false) (q : NewL ((Txt.split a b).map DV.str) st Q) : qSplit (.str a) [.str b] st Q := ⟨a, b, rfl, rfl, hb, q⟩
/-! ## endswith -/
def qEnds : DV → List DV → Sto → KD → Prop := fun x ds st Q => ∃ a b, x = .str a ∧ ds = [.str b] ∧ Q (.bl (Txt.endswith a b)) st
theorem kEndsD : MtR X "str.endswith" (canM K qEnds) := mtI mt_endswith fun R D1 D ⟨a, b, e1, e2, q⟩ k => by
  subst e1 e2
  obtain ⟨v, rfl, D2⟩ := dv1 D
  obtain ⟨rfl, s1⟩ := dvS D1
  obtain ⟨rfl, s2⟩ := dvS D2
  exact ⟨a, b, rfl, rfl, k _ _ _ _ _ (Wd.Le.refl _) R (.bl _) q⟩
theorem w_ends {a b : Str} {Q : KD} (q : Q (.bl (Txt.endswith a b)) st) : qEnds (.str a) [.str b] st Q := ⟨a, b, rfl, rfl, q⟩
/-! ## int of a text -/
def qIntS : List DV → Sto → KD → Prop := fun ds st Q => ∃ a n, ds = [.str a] ∧ PySem.intText? a = some n ∧ a.length ≤ 640 ∧ Q (.int n) st
theorem kIntSD : CallR X (.type "int") (canC K qIntS) := crI call_int_str fun R D ⟨a, n, e, h1, h2, q⟩ k => by
  subst e
  obtain ⟨v, rfl, D1⟩ := dv1 D
  obtain ⟨rfl, s1⟩ := dvS D1
  exact ⟨a, n, rfl, h1, h2, k _ _ _ _ _ (Wd.Le.refl _) R (.int _) q⟩
theorem w_intS {a : Str} {n : Int} {Q : KD} (h1 : PySem.intText? a = some n) (h2 : a.length ≤ 640) (q : Q (.int n) st) : qIntS [.str a] st Q := ⟨a, n, rfl, h1, h2, q⟩
/-! ## the plain law of words, rows -/
theorem ends_nl {a : Str} (h : (cl a).getLast? = some 10) : Txt.endswith a "\n" = true := by
  have h1 : ((⟨#[10]⟩ : Str)) = ("\n" : Str) := by decide +kernel
  show (decide (0 + ("\n" : Str).length ≤ a.length) && Builtin.Str.subAt a "\n" (a.length - ("\n" : Str).length)) = true
  rw [← h1]
  have hl : a.length = (cl a).length := by show a.cps.size = _; exact (Array.length_toList).symm
  have hp : 0 < (cl a).length := by
    cases e : cl a with
    | nil => rw [e] at h; cases h
    | cons _ _ => exact Nat.succ_pos _
  rw [List.getLast?_eq_getElem?] at h
  have := (StrLaws.subAt_one a 10 (a.length - 1)).mpr (by rw [hl]; exact h)
  rw [Bool.and_eq_true]
  exact ⟨decide_eq_true (by show 0 + 1 ≤ a.length; omega), this.2⟩
end
end Kn

set_option Elab.async false
set_option linter.all false
set_option maxRecDepth 100000
set_option maxHeartbeats 2000000
namespace Kn
open PySem PySem.Spec PyProof.Rows L2
/-! ## words, numbers and rows of texts -/
def FIGk : Str := "0123456789"
def numIn (w : Str) : Option Int := if w = "" ∨ 16 < w.length ∨ ¬ Txt.stripChars w FIGk = "" then none else if (cl w).head? = some 48 ∧ ¬ w = "0" then none else PySem.intText? w
def strW : DV → Str
  | .str s => s
  | .int i => Str.ofString (toString i)
  | _ => ""
def wordW (d : DV) : Str := if deq d (.str "") = true then "-" else strW d
def rowS (xs : List DV) : Str := Str.join " " (xs.map wordW) ++ "\n"
def rowsOf (t : Str) : Option (List Str) := if t = "" then some [] else if Txt.endswith t "\n" = true then some ((Txt.split t "\n").take ((Txt.split t "\n").length - 1)) else none
theorem tl_cl {s : Str} : TL.tl s = cl s := rfl
theorem FIG_iff (c : Nat) : FIGk.cps.contains c = true ↔ 48 ≤ c ∧ c ≤ 57 := by
  rw [show FIGk.cps = #[48, 49, 50, 51, 52, 53, 54, 55, 56, 57] from by decide +kernel]
  simp
  omega
theorem strip_noneB {b s : Str} (h : ∀ c ∈ cl s, b.cps.contains c = true) : Txt.stripChars s b = "" := by
  unfold Txt.stripChars
  rw [stripBy_eq]
  have e1 : PySem.stripLo b.cps.contains true s = (cl s).length := by
    show ((cl s).takeWhile _).length = _
    rw [takeWhile_id h]
  rw [e1]
  have e2 : PySem.stripHi b.cps.contains true s (cl s).length = (cl s).length := by
    show s.length - ((((cl s).drop (cl s).length).reverse).takeWhile _).length = _
    rw [List.drop_length]
    simp [cl_len]
  rw [e2]
  apply cl_ext
  rw [empty_cl]
  show (s.cps.extract (cl s).length (cl s).length).toList = []
  simp
theorem strip_convB {b s : Str} (h : Txt.stripChars s b = "") : ∀ c ∈ cl s, b.cps.contains c = true := by
  unfold Txt.stripChars at h
  rw [stripBy_eq] at h
  have e1 : PySem.stripLo b.cps.contains true s = ((cl s).takeWhile b.cps.contains).length := rfl
  rw [e1] at h
  generalize hlo : ((cl s).takeWhile b.cps.contains).length = lo at h
  have e2 : PySem.stripHi b.cps.contains true s lo = (cl s).length - ((((cl s).drop lo).reverse).takeWhile b.cps.contains).length := by
    show s.length - _ = _
    rw [cl_len]
  rw [e2] at h
  have h := congrArg cl h
  rw [empty_cl] at h
  have h : ((cl s).take ((cl s).length - ((((cl s).drop lo).reverse).takeWhile b.cps.contains).length)).drop lo = [] := by
    have h : (s.cps.extract lo ((cl s).length - ((((cl s).drop lo).reverse).takeWhile b.cps.contains).length)).toList = [] := h
    rw [Array.toList_extract, List.extract_eq_take_drop, ← List.drop_take] at h
    exact h
  have hl := congrArg List.length h
  rw [List.length_drop, List.length_take, List.length_nil] at hl
  have hk : ((((cl s).drop lo).reverse).takeWhile b.cps.contains).length = (((cl s).drop lo).reverse).length := by
    have h1 : ((((cl s).drop lo).reverse).takeWhile b.cps.contains).length ≤ (((cl s).drop lo).reverse).length := List.Sublist.length_le (List.takeWhile_sublist _)
    have h2 : lo ≤ (cl s).length := by
      rw [← hlo]
      exact List.Sublist.length_le (List.takeWhile_sublist _)
    rw [List.length_reverse, List.length_drop] at h1 ⊢
    omega
  have hall := List.Sublist.eq_of_length (List.takeWhile_sublist (p := b.cps.contains) (l := ((cl s).drop lo).reverse)) hk
  intro c hc
  rw [← List.take_append_drop lo (cl s)] at hc
  have mt : ∀ {l : List Nat} {c : Nat}, c ∈ l.takeWhile b.cps.contains → b.cps.contains c = true := by
    intro l
    induction l with
    | nil => intro c h; cases h
    | cons a r ih =>
      intro c h
      rw [List.takeWhile_cons] at h
      split at h
      · rename_i q
        rcases List.mem_cons.mp h with rfl | h
        · exact q
        · exact ih h
      · cases h
  rcases List.mem_append.mp hc with hc | hc
  · have : (cl s).take lo = (cl s).takeWhile b.cps.contains := by
      rw [← hlo]
      exact (List.prefix_iff_eq_take.mp (List.takeWhile_prefix _)).symm
    rw [this] at hc
    exact mt hc
  · refine mt (l := ((cl s).drop lo).reverse) ?_
    rw [hall]
    exact List.mem_reverse.mpr hc
theorem numL_head {n : Nat} : ∀ c, (TL.numL n).head? = some c → c = 48 → n = 0 := by
  induction n using Nat.strongRecOn with
  | _ n ih =>
    intro c h e
    by_cases q : n < 10
    · rw [TL.numL_lt q] at h
      injection h with h
      omega
    · rw [TL.numL_step (by omega)] at h
      cases e2 : TL.numL (n / 10) with
      | nil => exact (TL.numL_ne _ e2).elim
      | cons a r =>
        rw [e2] at h
        have := ih (n / 10) (by omega) c (by rw [e2]; exact h) e
        omega
theorem cl_num (n : Nat) : cl (Str.ofString (toString ((n : Nat) : Int))) = TL.numL n := TL.tl_num n
theorem len_cl {s : Str} : s.length = (cl s).length := by show s.cps.size = _; exact (Array.length_toList).symm
theorem numIn_num {n : Nat} (h : n < 10 ^ 16) : numIn (Str.ofString (toString (n : Int))) = some (n : Int) := by
  have hl : (TL.numL n).length ≤ 16 := TL.numL_len (by decide) h
  unfold numIn
  rw [if_neg, if_neg, TL.int_num (by omega)]
  · rintro ⟨h1, h2⟩
    rw [cl_num] at h1
    have := numL_head 48 h1 rfl
    subst this
    exact h2 (by decide +kernel)
  · rintro (h1 | h1 | h1)
    · have := congrArg cl h1
      rw [cl_num] at this
      exact TL.numL_ne n this
    · rw [len_cl, cl_num] at h1
      omega
    · refine h1 (strip_noneB fun c hc => (FIG_iff c).mpr ?_)
      rw [cl_num] at hc
      exact TL.numL_digits n c hc
theorem numIn_int {i : Int} (h0 : 0 ≤ i) (h : i < 10 ^ 16) : numIn (Str.ofString (toString i)) = some i := by
  obtain ⟨n, rfl⟩ : ∃ n : Nat, i = (n : Int) := ⟨i.toNat, by omega⟩
  exact numIn_num (by omega)
theorem int_free {i : Int} {c : Nat} (h0 : 0 ≤ i) (h : c < 48 ∨ 57 < c) : c ∉ cl (Str.ofString (toString i)) := by
  obtain ⟨n, rfl⟩ : ∃ n : Nat, i = (n : Int) := ⟨i.toNat, by omega⟩
  rw [cl_num]
  exact TL.numL_free h
theorem int_ne {i : Int} (h0 : 0 ≤ i) : ¬ Str.ofString (toString i) = "" := fun e => by
  obtain ⟨n, rfl⟩ : ∃ n : Nat, i = (n : Int) := ⟨i.toNat, by omega⟩
  have := congrArg cl e
  rw [cl_num] at this
  exact TL.numL_ne n this
/-- a word: some signs, no blank, no line end -/
structure Wd1 (w : Str) : Prop where
  ne : cl w ≠ []
  sp : 32 ∉ cl w
  nl : 10 ∉ cl w
theorem wd_int {i : Int} (h0 : 0 ≤ i) : Wd1 (Str.ofString (toString i)) := ⟨fun e => int_ne h0 (TL.ext_tl e), int_free h0 (.inl (by decide)), int_free h0 (.inl (by decide))⟩
theorem wd_nm {s : Str} (h : Nm s) : Wd1 s := ⟨h.ne, fun q => by have := (h.lt _ q).1; omega, fun q => by have := (h.lt _ q).1; omega⟩
theorem tl_sp : TL.tl (" " : Str) = [32] := by decide +kernel
theorem tl_nl : TL.tl ("\n" : Str) = [10] := by decide +kernel
theorem split_words {ws : List Str} (h : ws ≠ []) (hw : ∀ w ∈ ws, 32 ∉ cl w) : Txt.split (Str.join " " ws) " " = ws := by
  rw [← TL.join_eq]
  exact TL.split_join tl_sp (by decide +kernel) h hw
theorem joinL_sub {S : List Nat} {c : Nat} : ∀ {ps : List (List Nat)}, c ∈ TL.joinL S ps → c ∈ S ∨ ∃ p ∈ ps, c ∈ p
  | [], h => nomatch h
  | [p], h => .inr ⟨p, List.mem_singleton.mpr rfl, h⟩
  | p :: q :: r, h => by
    have h : c ∈ p ++ (S ++ TL.joinL S (q :: r)) := h
    rcases List.mem_append.mp h with h | h
    · exact .inr ⟨p, List.mem_cons_self .., h⟩
    · rcases List.mem_append.mp h with h | h
      · exact .inl h
      · rcases joinL_sub h with h | ⟨z, hz, h⟩
        · exact .inl h
        · exact .inr ⟨z, List.mem_cons_of_mem _ hz, h⟩
theorem row_nl {ws : List Str} (hw : ∀ w ∈ ws, 10 ∉ cl w) : 10 ∉ cl (Str.join " " ws) := fun h => by
  rw [← tl_cl, TL.tl_join, tl_sp] at h
  rcases joinL_sub h with h | ⟨p, hp, h⟩
  · exact absurd (List.mem_singleton.mp h) (by decide)
  · obtain ⟨w, hw1, rfl⟩ := List.mem_map.mp hp
    exact hw w hw1 h
theorem join_nl : ∀ xs : List Str, Str.join "" (xs.map fun x => x ++ "\n") = Str.join "\n" (xs ++ [("" : Str)])
  | [] => by decide +kernel
  | [x] => by
    show x ++ "\n" = x ++ "\n" ++ ""
    refine TL.ext_tl ?_
    rw [TL.tl_append, TL.tl_append, TL.tl_append]
    show _ = _ ++ []
    rw [List.append_nil]
  | x :: y :: r => by
    have ih := join_nl (y :: r)
    show x ++ "\n" ++ "" ++ Str.join "" ((y :: r).map fun x => x ++ "\n") = x ++ "\n" ++ Str.join "\n" ((y :: r) ++ [("" : Str)])
    rw [ih]
    refine TL.ext_tl ?_
    rw [TL.tl_append, TL.tl_append, TL.tl_append, TL.tl_append, TL.tl_append]
    show _ ++ [] ++ _ = _
    rw [List.append_nil]
theorem joinL_last {S : List Nat} : ∀ {ps : List (List Nat)}, ps ≠ [] → TL.joinL S (ps ++ [[]]) = TL.joinL S ps ++ S
  | [], h => absurd rfl h
  | [p], _ => by show p ++ (S ++ []) = p ++ S; rw [List.append_nil]
  | p :: q :: r, _ => by
    show p ++ (S ++ TL.joinL S ((q :: r) ++ [[]])) = (p ++ (S ++ TL.joinL S (q :: r))) ++ S
    rw [joinL_last (by simp), List.append_assoc, List.append_assoc]
/-- the rows of a text of rows -/
theorem rows_back {xs : List Str} (h : ∀ x ∈ xs, 10 ∉ cl x) : rowsOf (Str.join "" (xs.map fun x => x ++ "\n")) = some xs := by
  rw [join_nl]
  unfold rowsOf
  cases xs with
  | nil => rw [if_pos (by decide +kernel)]
  | cons x r =>
    have hs : Txt.split (Str.join "\n" ((x :: r) ++ [("" : Str)])) "\n" = (x :: r) ++ [("" : Str)] := by
      rw [← TL.join_eq]
      refine TL.split_join tl_nl (by decide +kernel) (by simp) fun p hp => ?_
      rcases List.mem_append.mp hp with hp | hp
      · exact h p hp
      · rw [List.mem_singleton.mp hp]; decide +kernel
    have ht : cl (Str.join "\n" ((x :: r) ++ [("" : Str)])) = TL.joinL [10] ((x :: r).map cl) ++ [10] := by
      rw [← tl_cl, TL.tl_join, tl_nl, List.map_append]
      exact joinL_last (by simp)
    rw [if_neg, if_pos (ends_nl (by rw [ht]; simp)), hs]
    · simp
    · intro e
      have := congrArg cl e
      rw [ht] at this
      rw [show cl ("" : Str) = [] from by decide +kernel] at this
      exact absurd this (by simp)
end Kn

set_option Elab.async false
set_option linter.all false
set_option maxRecDepth 100000
set_option maxHeartbeats 2000000
namespace Kn
open PySem PySem.Spec PyProof.Rows L2
/-! ## a year's text -/
abbrev istr (i : Int) : Str := Str.ofString (toString i)
def headOf : List Str → Option (Str × Str)
  | [_, n] => some (n, "")
  | [_, n, i, a] => if i = "in" ∧ ¬ a = "" then some (n, a) else none
  | _ => none
def numsOf : List Str → Option LimT
  | [_, h, a, b, c] => match numIn a, numIn b, numIn c with
    | some x, some y, some z => some (h, x, y, z)
    | _, _, _ => none
  | _ => none
def rankOf (w : Str) : Int := if w = "head" then 1 else if w = "limit" then 2 else if w = "rule" then 3 else 0
structure YS where
  k : Int
  hs : List (Str × Str)
  ls : List LimT
  rs : List LimT
def stepY (s : YS) (ws : List Str) : Option YS :=
  if rankOf (ws.headD "") < s.k then none
  else if rankOf (ws.headD "") = 1 then (headOf ws).map fun p => ⟨1, s.hs ++ [p], s.ls, s.rs⟩
  else (numsOf ws).map fun x => if rankOf (ws.headD "") = 2 then ⟨2, s.hs, s.ls ++ [x], s.rs⟩ else ⟨3, s.hs, s.ls, s.rs ++ [x]⟩
def foldY (s : YS) : List (List Str) → Option YS
  | [] => some s
  | w :: r => (stepY s w).bind fun s' => foldY s' r
def readW : List (List Str) → Option (Int × YS)
  | [y, d] :: rest => if y = "year" then (numIn d).bind fun i => (foldY ⟨1, [], [], []⟩ rest).map fun s => (i, s) else none
  | _ => none
def readY (t : Str) : Option (Int × YS) := (rowsOf t).bind fun rows => readW (rows.map fun r => Txt.split r " ")
def headW (p : Str × Str) : List Str := if p.2 = "" then ["head", p.1] else ["head", p.1, "in", p.2]
def limW (k : Str) (x : LimT) : List Str := [k, x.1, istr x.2.1, istr x.2.2.1, istr x.2.2.2]
def yearW (d : Int) (hs : List (Str × Str)) (ls rs : List LimT) : List (List Str) := [[("year" : Str), istr d]] ++ hs.map headW ++ ls.map (limW "limit") ++ rs.map (limW "rule")
def textW (W : List (List Str)) : Str := Str.join "" ((W.map fun ws => Str.join " " ws).map fun x => x ++ "\n")
theorem rows_text {W : List (List Str)} (h : ∀ ws ∈ W, ws ≠ [] ∧ ∀ w ∈ ws, Wd1 w) : (rowsOf (textW W)).map (fun rows => rows.map fun r => Txt.split r " ") = some W := by
  unfold textW
  rw [rows_back fun x hx => ?_]
  · show some ((W.map fun ws => Str.join " " ws).map fun r => Txt.split r " ") = some W
    rw [List.map_map]
    congr 1
    conv => rhs; rw [← List.map_id W]
    refine List.map_congr_left fun ws hws => ?_
    exact split_words (h ws hws).1 fun w hw => ((h ws hws).2 w hw).sp
  · obtain ⟨ws, hws, rfl⟩ := List.mem_map.mp hx
    exact row_nl fun w hw => ((h ws hws).2 w hw).nl
/-- numbers that a text tells back -/
def Nu (i : Int) : Prop := 0 ≤ i ∧ i < 10 ^ 16
structure LimG (x : LimT) : Prop where
  h : Nm x.1
  a : Nu x.2.1
  b : Nu x.2.2.1
  c : Nu x.2.2.2
structure YG (d : Int) (hs : List (Str × Str)) (ls rs : List LimT) : Prop where
  d : Nu d
  h : ∀ p ∈ hs, Nm p.1 ∧ (p.2 = "" ∨ Nm p.2)
  l : ∀ x ∈ ls, LimG x
  r : ∀ x ∈ rs, LimG x
theorem wdk : Wd1 "year" ∧ Wd1 "head" ∧ Wd1 "in" ∧ Wd1 "limit" ∧ Wd1 "rule" := by
  have k : ∀ s ∈ (["year", "head", "in", "limit", "rule"] : List Str), Wd1 s := fun s hs => by
    have : ((["year", "head", "in", "limit", "rule"] : List Str).all fun s => nameS s) = true := by decide +kernel
    exact wd_nm (nm_ofS (List.all_eq_true.mp this s hs))
  exact ⟨k _ (by simp), k _ (by simp), k _ (by simp), k _ (by simp), k _ (by simp)⟩
theorem limW_ok {k : Str} (hk : Wd1 k) {x : LimT} (h : LimG x) : limW k x ≠ [] ∧ ∀ w ∈ limW k x, Wd1 w := by
  refine ⟨by simp [limW], fun w hw => ?_⟩
  unfold limW at hw
  simp only [List.mem_cons, List.not_mem_nil, or_false] at hw
  rcases hw with rfl | rfl | rfl | rfl | rfl
  · exact hk
  · exact wd_nm h.h
  · exact wd_int h.a.1
  · exact wd_int h.b.1
  · exact wd_int h.c.1
theorem yearW_ok {d : Int} {hs : List (Str × Str)} {ls rs : List LimT} (G : YG d hs ls rs) : ∀ ws ∈ yearW d hs ls rs, ws ≠ [] ∧ ∀ w ∈ ws, Wd1 w := by
  intro ws h
  unfold yearW at h
  rcases List.mem_append.mp h with h | h
  · rcases List.mem_append.mp h with h | h
    · rcases List.mem_append.mp h with h | h
      · rw [List.mem_singleton.mp h]
        refine ⟨by simp, fun w hw => ?_⟩
        simp only [List.mem_cons, List.not_mem_nil, or_false] at hw
        rcases hw with rfl | rfl
        · exact wdk.1
        · exact wd_int G.d.1
      · obtain ⟨p, hp, rfl⟩ := List.mem_map.mp h
        obtain ⟨g1, g2⟩ := G.h p hp
        unfold headW
        split
        · refine ⟨by simp, fun w hw => ?_⟩
          simp only [List.mem_cons, List.not_mem_nil, or_false] at hw
          rcases hw with rfl | rfl
          · exact wdk.2.1
          · exact wd_nm g1
        · rename_i hne
          refine ⟨by simp, fun w hw => ?_⟩
          simp only [List.mem_cons, List.not_mem_nil, or_false] at hw
          rcases hw with rfl | rfl | rfl | rfl
          · exact wdk.2.1
          · exact wd_nm g1
          · exact wdk.2.2.1
          · exact wd_nm (g2.resolve_left hne)
    · obtain ⟨x, hx, rfl⟩ := List.mem_map.mp h
      exact limW_ok wdk.2.2.2.1 (G.l x hx)
  · obtain ⟨x, hx, rfl⟩ := List.mem_map.mp h
    exact limW_ok wdk.2.2.2.2 (G.r x hx)
theorem ranks : rankOf "head" = 1 ∧ rankOf "limit" = 2 ∧ rankOf "rule" = 3 := by decide +kernel
theorem headOf_W {p : Str × Str} : headOf (headW p) = some p := by
  unfold headW
  split
  · rename_i h
    show some (p.1, ("" : Str)) = some p
    rw [← h]
  · rename_i h
    show (if ("in" : Str) = "in" ∧ ¬ p.2 = "" then some (p.1, p.2) else none) = some p
    rw [if_pos ⟨rfl, h⟩]
theorem headW_hd {p : Str × Str} : (headW p).headD "" = "head" := by
  unfold headW
  split <;> rfl
theorem numsOf_W {k : Str} {x : LimT} (h : LimG x) : numsOf (limW k x) = some x := by
  show (match numIn (istr x.2.1), numIn (istr x.2.2.1), numIn (istr x.2.2.2) with | some a, some b, some c => some (x.1, a, b, c) | _, _, _ => none) = some x
  rw [numIn_int h.a.1 h.a.2, numIn_int h.b.1 h.b.2, numIn_int h.c.1 h.c.2]
theorem foldY_heads {rest : List (List Str)} {L R : List LimT} : ∀ {hs H : List (Str × Str)}, foldY ⟨1, H, L, R⟩ (hs.map headW ++ rest) = foldY ⟨1, H ++ hs, L, R⟩ rest
  | [], H => by rw [List.append_nil]; rfl
  | p :: r, H => by
    show (stepY ⟨1, H, L, R⟩ (headW p)).bind _ = _
    have e : stepY ⟨1, H, L, R⟩ (headW p) = some ⟨1, H ++ [p], L, R⟩ := by
      unfold stepY
      rw [headW_hd, ranks.1, if_neg (by show ¬ (1 : Int) < 1; decide), if_pos rfl, headOf_W]
      rfl
    rw [e]
    show foldY ⟨1, H ++ [p], L, R⟩ (r.map headW ++ rest) = _
    rw [foldY_heads, List.append_assoc]
    rfl
theorem foldY_limits {rest : List (List Str)} {H : List (Str × Str)} {R : List LimT} : ∀ {ls L : List LimT} {k : Int}, k ≤ 2 → (∀ x ∈ ls, LimG x) → ∃ k', k' ≤ 2 ∧ foldY ⟨k, H, L, R⟩ (ls.map (limW "limit") ++ rest) = foldY ⟨k', H, L ++ ls, R⟩ rest
  | [], L, k, hk, _ => ⟨k, hk, by rw [List.append_nil]; rfl⟩
  | x :: r, L, k, hk, h => by
    have e : stepY ⟨k, H, L, R⟩ (limW "limit" x) = some ⟨2, H, L ++ [x], R⟩ := by
      unfold stepY
      rw [show (limW "limit" x).headD "" = "limit" from rfl, ranks.2.1, if_neg (by show ¬ (2 : Int) < k; omega), if_neg (by decide), numsOf_W (h x (List.mem_cons_self ..))]
      rfl
    obtain ⟨k', h1, h2⟩ := foldY_limits (rest := rest) (H := H) (R := R) (ls := r) (L := L ++ [x]) (k := 2) (by decide) fun y hy => h y (List.mem_cons_of_mem _ hy)
    refine ⟨k', h1, ?_⟩
    show (stepY ⟨k, H, L, R⟩ (limW "limit" x)).bind _ = _
    rw [e]
    show foldY ⟨2, H, L ++ [x], R⟩ (r.map (limW "limit") ++ rest) = _
    rw [h2, List.append_assoc]
    rfl
theorem foldY_rules {H : List (Str × Str)} {L : List LimT} : ∀ {rs R : List LimT} {k : Int}, k ≤ 3 → (∀ x ∈ rs, LimG x) → ∃ k', foldY ⟨k, H, L, R⟩ (rs.map (limW "rule")) = some ⟨k', H, L, R ++ rs⟩
  | [], R, k, hk, _ => ⟨k, by rw [List.append_nil]; rfl⟩
  | x :: r, R, k, hk, h => by
    have e : stepY ⟨k, H, L, R⟩ (limW "rule" x) = some ⟨3, H, L, R ++ [x]⟩ := by
      unfold stepY
      rw [show (limW "rule" x).headD "" = "rule" from rfl, ranks.2.2, if_neg (by show ¬ (3 : Int) < k; omega), if_neg (by decide), numsOf_W (h x (List.mem_cons_self ..))]
      rfl
    obtain ⟨k', h2⟩ := foldY_rules (H := H) (L := L) (rs := r) (R := R ++ [x]) (k := 3) (by decide) fun y hy => h y (List.mem_cons_of_mem _ hy)
    refine ⟨k', ?_⟩
    show (stepY ⟨k, H, L, R⟩ (limW "rule" x)).bind _ = _
    rw [e]
    show foldY ⟨3, H, L, R ++ [x]⟩ (r.map (limW "rule")) = _
    rw [h2, List.append_assoc]
    rfl
/-- a year's text is read back -/
theorem read_back {d : Int} {hs : List (Str × Str)} {ls rs : List LimT} (G : YG d hs ls rs) : ∃ k, readY (textW (yearW d hs ls rs)) = some (d, ⟨k, hs, ls, rs⟩) := by
  have h1 := rows_text (yearW_ok G)
  cases e : rowsOf (textW (yearW d hs ls rs)) with
  | none => rw [e] at h1; cases h1
  | some rows =>
    rw [e] at h1
    injection h1 with h1
    have h1 : (rows.map fun r => Txt.split r " ") = yearW d hs ls rs := h1
    obtain ⟨k1, hk1, e1⟩ := foldY_limits (rest := rs.map (limW "rule")) (H := hs) (R := []) (ls := ls) (L := []) (k := 1) (by decide) G.l
    obtain ⟨k2, e2⟩ := foldY_rules (H := hs) (L := ls) (rs := rs) (R := []) (k := k1) (by omega) G.r
    refine ⟨k2, ?_⟩
    unfold readY
    rw [e]
    show readW (rows.map fun r => Txt.split r " ") = _
    rw [h1]
    show (if ("year" : Str) = "year" then (numIn (istr d)).bind fun i => (foldY ⟨1, [], [], []⟩ (hs.map headW ++ ls.map (limW "limit") ++ rs.map (limW "rule"))).map fun s => (i, s) else none) = _
    rw [if_pos rfl, numIn_int G.d.1 G.d.2, List.append_assoc, foldY_heads]
    rw [List.nil_append, e1, List.nil_append, e2]
    rfl
end Kn

set_option Elab.async false
set_option linter.all false
set_option maxRecDepth 100000
set_option maxHeartbeats 2000000
namespace Kn
open PySem PySem.Spec PyProof.Rows L2
section
variable {X : Cx} {E : EK} {W : Wd} {K : PySem.W.Frag} {st : Sto} {H : Hp}
/-! ## enumerate of a frozen list -/
def enD (ds : List DV) : List DV := ds.mapIdx fun i d => .tup [.int (i : Nat), d]
def iEn (t : TAd) : TId := fun ex sl st R => t ex sl st fun ds s1 => ∃ es, ds = [.lst es] ∧ R (enD es) (fun _ => True) s1
theorem di_enum {elts : List Expr} {kk : Nat} {tpos : Pos} {a : Expr} {ta : TAd} {p pos : Pos} (hK : X.K = K) (hg : Gl X "enumerate") (hm : X.mg "enumerate" = none) (ha : PA X [a] (canA K E ta)) (hs : starEach [a] X.env = [(false, eval a X.env)] := by rfl) : PI X (.Tuple elts kk tpos) (.Call (.Name "enumerate" p) [a] [] pos) (canI K E (iEn ta)) := by
  subst hK
  exact piI (pi_enum hg hm ha hs) fun A h k => runA A h fun W1 s1 H1 vs ds l A1 D ⟨es, e, q⟩ => by
    subst e
    obtain ⟨v, rfl, D1⟩ := dv1 D
    cases D1 with
    | lst h1 h2 =>
      rename_i aa xs
      refine ⟨aa, xs, rfl, SqL.of (A1.r.fh.at_ h1), k W1 s1 H1 _ _ _ l A1.r ⟨fun i W' st' H' hi f j R _ => ?_, fun W' st' H' f j R _ => ?_, fun i W' st' H' x H'' hi f j R _ y => ?_⟩ q⟩
      · have hi' : i < xs.length := by rw [h2.len]; simpa [enD] using hi
        exact ⟨xs, xs[i], SqL.of (R.fh.at_ (f.at_ h1)), List.getElem?_eq_getElem _⟩
      · exact ⟨xs, SqL.of (R.fh.at_ (f.at_ h1)), by rw [h2.len]; simp [enD]⟩
      · obtain ⟨T, u, rfl, hT, rfl, hx⟩ := y
        obtain ⟨d, hd, D2⟩ := (h2.mono f j).getV (hx xs (SqL.of (R.fh.at_ (f.at_ h1))))
        refine ⟨W'.fz T (.tup [.int (i : Nat), u]), .tup [.int (i : Nat), d], Wd.fz_le (R.fnone hT), R.new hT, ?_, ?_⟩
        · exact .tup (SqT.of upd_same) (.cons (.int _) (.cons (D2.le (Wd.fz_le (R.fnone hT))) .nil))
        · unfold enD
          rw [List.getElem?_mapIdx, hd]
          rfl
theorem w_en {ex : KX} {sl : Sl} {t : TAd} {R : List DV → (Sto → Prop) → Sto → Prop} (h : t ex sl st fun ds s1 => ∃ es, ds = [.lst es] ∧ R (enD es) (fun _ => True) s1) : iEn t ex sl st R := h
theorem enD_get {es : List DV} {i : Nat} {x : DV} (h : (enD es)[i]? = some x) : ∃ d, es[i]? = some d ∧ x = .tup [.int (i : Nat), d] := by
  unfold enD at h
  rw [List.getElem?_mapIdx] at h
  cases e : es[i]? with
  | none => rw [e] at h; cases h
  | some d =>
    rw [e] at h
    injection h with h
    exact ⟨d, rfl, h.symm⟩
theorem enD_len {es : List DV} : (enD es).length = es.length := by simp [enD]
/-! ## str of a tuple of words and numbers: some text -/
def TI (d : DV) : Prop := (∃ s : Str, d = .str s ∧ (∀ c ∈ cl s, 97 ≤ c ∧ c ≤ 122) ∧ s.length ≤ 20) ∨ ∃ i : Int, d = .int i ∧ i.natAbs < 10 ^ 40
theorem log_small {i : Int} (h : i.natAbs < 10 ^ 40) : i.natAbs.log2 < 1920 := by
  by_cases e : i.natAbs = 0
  · rw [e]; decide
  · refine (Nat.log2_lt e).mpr (Nat.lt_of_lt_of_le h ?_)
    have : (10 : Nat) ^ 40 ≤ 2 ^ 1920 := by decide +kernel
    exact this
def rpr : DV → Str
  | .str s => reprText s
  | .int i => Str.ofString (toString i)
  | _ => ""
theorem sok_cl {s : Str} : SOk s ↔ (∀ c ∈ cl s, c < 0x110000) ∧ s.length ≤ 100000 := by
  unfold SOk PyData.strOk
  rw [← Array.all_toList, List.all_eq_true]
  constructor
  · rintro ⟨h1, h2⟩
    exact ⟨fun c hc => by simpa using h1 c hc, h2⟩
  · rintro ⟨h1, h2⟩
    exact ⟨fun c hc => by simpa using h1 c hc, h2⟩
theorem reprText_cl {s : Str} (hc : ∀ c ∈ cl s, 97 ≤ c ∧ c ≤ 122) (hl : s.length ≤ 20) : (∀ c ∈ cl (reprText s), c < 0x110000) ∧ (reprText s).length ≤ 300 := by
  have q : reprQuote s = 39 ∨ reprQuote s = 34 := by
    unfold reprQuote
    split <;> simp
  have key : ∀ k : _root_.Fin 26, ∀ q ∈ [39, 34], (Builtin.Str.reprChar q (97 + k.val)).all (fun c => decide (c < 0x110000)) = true := by decide +kernel
  refine ⟨fun c h => ?_, ?_⟩
  · have fold : ∀ (l : List Nat) (acc : Array Nat), (∀ c ∈ l, 97 ≤ c ∧ c ≤ 122) → (∀ c ∈ acc.toList, c < 0x110000) → ∀ c ∈ (l.foldl (fun out c => out ++ (Builtin.Str.reprChar (reprQuote s) c).toArray) acc).toList, c < 0x110000 := by
      intro l
      induction l with
      | nil => exact fun acc _ h2 => h2
      | cons a r ih =>
        intro acc h1 h2
        rw [List.foldl_cons]
        refine ih _ (fun c hc => h1 c (List.mem_cons_of_mem _ hc)) fun c hc => ?_
        rw [Array.toList_append] at hc
        rcases List.mem_append.mp hc with hc | hc
        · exact h2 c hc
        · have ha := h1 a (List.mem_cons_self ..)
          have := key ⟨a - 97, by omega⟩ (reprQuote s) (by rcases q with q | q <;> rw [q] <;> simp)
          rw [show 97 + (a - 97) = a from by omega] at this
          have := List.all_eq_true.mp this c (by simpa using hc)
          exact of_decide_eq_true this
    have h : c ∈ ((s.cps.foldl (fun out c => out ++ (Builtin.Str.reprChar (reprQuote s) c).toArray) #[reprQuote s]).push (reprQuote s)).toList := h
    rw [Array.toList_push] at h
    rw [← Array.foldl_toList] at h
    rcases List.mem_append.mp h with h | h
    · refine fold _ _ hc (fun c hc => ?_) c h
      rw [List.mem_singleton.mp hc]
      rcases q with q | q <;> rw [q] <;> decide
    · rw [List.mem_singleton.mp h]
      rcases q with q | q <;> rw [q] <;> decide
  · have := StrLaws.reprText_len s fun c h => by have := hc c h; omega
    omega
theorem rpr_ok {d : DV} (h : TI d) : (∀ c ∈ cl (rpr d), c < 0x110000) ∧ (rpr d).length ≤ 5000 := by
  rcases h with ⟨s, rfl, h1, h2⟩ | ⟨i, rfl, h⟩
  · have := reprText_cl h1 h2
    exact ⟨this.1, Nat.le_trans this.2 (by decide)⟩
  · have := sok_cl.mp (sok_int (a := i) (natAbs_log (log_small h)))
    exact ⟨this.1, Nat.le_trans (int_text_len_1921 (log_small h)) (by decide)⟩
theorem tupleText_sok {ds : List DV} (h : ∀ d ∈ ds, TI d) (hl : ds.length ≤ 10) : SOk (tupleText (ds.map rpr)) := by
  refine sok_cl.mpr ⟨fun c hc => ?_, ?_⟩
  · unfold tupleText at hc
    rw [cl_app, cl_app] at hc
    rcases List.mem_append.mp hc with hc | hc
    · rcases List.mem_append.mp hc with hc | hc
      · have : (cl ("(" : Str)).all (fun c => decide (c < 0x110000)) = true := by decide +kernel
        exact of_decide_eq_true (List.all_eq_true.mp this c hc)
      · have := join_all (sep := ", ") (p := fun c => decide (c < 0x110000)) (fun c hc => by
          have : (cl (", " : Str)).all (fun c => decide (c < 0x110000)) = true := by decide +kernel
          exact List.all_eq_true.mp this c hc) (ss := ds.map rpr) (fun s hs c hc => by
          obtain ⟨d, hd, rfl⟩ := List.mem_map.mp hs
          exact decide_eq_true ((rpr_ok (h d hd)).1 c hc)) c hc
        exact of_decide_eq_true this
    · have : (cl (",)" : Str)).all (fun c => decide (c < 0x110000)) = true ∧ (cl (")" : Str)).all (fun c => decide (c < 0x110000)) = true := by decide +kernel
      split at hc
      · exact of_decide_eq_true (List.all_eq_true.mp this.1 c hc)
      · exact of_decide_eq_true (List.all_eq_true.mp this.2 c hc)
  · have h1 := fmt_text (ds.map rpr)
    have h2 : piled (ds.map rpr) ≤ ds.length * 5002 := by
      clear hl h1
      induction ds with
      | nil => exact Nat.zero_le _
      | cons a r ih =>
        have := (rpr_ok (h a (List.mem_cons_self ..))).2
        have := ih fun d hd => h d (List.mem_cons_of_mem _ hd)
        rw [List.map_cons, piled_cons, List.length_cons, Nat.add_mul]
        omega
    have : ds.length * 5002 ≤ 10 * 5002 := Nat.mul_le_mul_right _ hl
    omega
theorem rep_all {prog : Program} {w : World} : ∀ {ds : List DV} {vs : List V} {its : List Value}, (∀ d ∈ ds, TI d) → DvAll K W vs ds → Vals vs its → ReprAll prog w its (ds.map rpr)
  | [], _, _, _, .nil, r => by
    cases r
    exact .nil
  | d :: ds, _, _, h, .cons D1 D2, r => by
    cases r with
    | cons r1 r2 =>
      refine .cons ?_ (rep_all (fun z hz => h z (List.mem_cons_of_mem _ hz)) D2 r2)
      rcases h d (List.mem_cons_self ..) with ⟨s, rfl, h1, h2⟩ | ⟨i, rfl, h1⟩
      · obtain ⟨rfl, _⟩ := dvS D1
        obtain ⟨t, rfl⟩ := r1
        exact ReprIs.str s t (Nat.le_trans (reprText_cl h1 h2).2 (by decide))
      · rw [dvI D1] at r1
        obtain ⟨t, rfl⟩ := r1
        exact ReprIs.int t (log_small h1)
/-- str of a tuple: its own text, or that of one under way -/
theorem tup_repr {prog : Program} {w : World} {A : Around} {Er : Value → Shared → Prop} {s : Shared} {a : Addr} {o : Obj} {items : Array Value} {n : Nat} {ts : List Str} {Q : Value → Shared → Prop} (ha : s.heap.get? a = some o) (hc : o.cls = .type "tuple") (hd : o.data = .seq items n) (hT : ReprAll prog w items.toList ts) (hsz : piled ts + 2 ≤ sizeLine)
    (h1 : ∀ (u tk : Tok), Q (.str (tupleText ts) u) { s with toks := tk }) (h2 : ∀ (u tk : Tok), Q (.str "(...)" u) { s with toks := tk }) : wpAny (model prog w) A (call (.builtin "tuple.__repr__") [.ref a]) Q Er s := by
  have hz : (tupleText ts).length ≤ sizeLine := Nat.le_trans (fmt_text ts) hsz
  apply wpAny_call
  apply codeAny_call_builtin_own (Code.quiet_builtin (id := "tuple.__repr__") _ (by decide +kernel)) F.entry_tuple_repr
  have T0 : s.TypeIs (.ref a) "tuple" := ⟨o, ha, hc⟩
  refine F.slot_tuple_repr.check _ _ _ _ _ _ _ _ T0 (F.args_tuple_repr_1 (.ref a)) ?_
  apply wpOwn_of_wpAny
  show wpAny (model prog w) _ (Builtin.tupleReprAt 0 _) _ _ _
  rw [tuple_repr_tree]
  apply wpAny_bind
  apply fmt_underWay
  intro way
  by_cases hw : way = true
  · subst hw
    apply PySem.W.KFB.if_so rfl
    exact wpAny_bind (wpAny_rule (wpAny_bind (wpAny_mkStr (wpAny_pure (h2 _ _)) (by decide +kernel))))
  · have hw : way = false := by simpa using hw
    subst hw
    apply PySem.W.KFB.if_not rfl
    exact wpAny_tupleReprRest ha hd hT (fun u tk => h1 u tk) (by omega)
theorem str_tup {prog : Program} {w : World} {A : Around} {Er : Value → Shared → Prop} {s : Shared} {a : Addr} {o : Obj} {items : Array Value} {n : Nat} {ts : List Str} {Q : Value → Shared → Prop} (hu : A.units + 5 < cLine) (ha : s.heap.get? a = some o) (hc : o.cls = .type "tuple") (hd : o.data = .seq items n) (hT : ∀ (prog : Program) (w : World), ReprAll prog w items.toList ts) (hsz : piled ts + 2 ≤ sizeLine)
    (h : ∀ (m : Str) (u tk : Tok), m = tupleText ts ∨ m = "(...)" → Q (.str m u) { s with toks := tk }) : wpAny (model prog w) A (call (.type "str") [.ref a]) Q Er s :=
  callType_new F.called_str (by decide) (F.typeCall_str_1 _) (F.newCall_str_1 _) (fun obj => F.args_object_init_2 obj _) F.entry_str_new
    (meets_str_new (S := fun A R s => A.units + 2 < cLine ∧ s.heap.get? a = some o ∧ ∀ (m : Str) (u tk : Tok), m = tupleText ts ∨ m = "(...)" → R (.ok (.ret (.str m u))) { s with toks := tk }) fun _ _ _ _ s hq =>
      wpAny_strOf_slot rfl (by have := hq.1; omega) ⟨o, hq.2.1, hc⟩ F.slot_tuple_str F.slot_tuple_repr (tup_repr hq.2.1 hc hd (hT _ _) hsz (fun u tk => ⟨_, _, rfl, hq.2.2 _ _ _ (.inl rfl)⟩) fun u tk => ⟨_, _, rfl, hq.2.2 _ _ _ (.inr rfl)⟩)) ⟨by show A.units + 1 + 2 < cLine; omega, ha, fun m u tk hm => ⟨typeIs_str _ _ _, h m u tk hm⟩⟩
end
end Kn

set_option Elab.async false
set_option linter.all false
set_option maxRecDepth 100000
set_option maxHeartbeats 2000000
namespace Kn
open PySem PySem.Spec PyProof.Rows L2
section
variable {X : Cx} {E : EK} {W : Wd} {K : PySem.W.Frag} {st : Sto} {H : Hp}
theorem piled_le : ∀ {ds : List DV}, (∀ d ∈ ds, TI d) → piled (ds.map rpr) ≤ ds.length * 5002
  | [], _ => Nat.zero_le _
  | a :: r, h => by
    have h1 := (rpr_ok (h a (List.mem_cons_self ..))).2
    have h2 := piled_le fun d hd => h d (List.mem_cons_of_mem _ hd)
    rw [List.map_cons, piled_cons, List.length_cons, Nat.add_mul]
    omega
/-! ## str of a tuple, as a rule -/
def qStrT : List DV → Sto → KD → Prop := fun ds st Q => ∃ es, ds = [.tup es] ∧ (∀ e ∈ es, TI e) ∧ es.length ≤ 10 ∧ ∀ m, SOk m → Q (.str m) st
theorem kStrT {k : Nat} (hK : X.K = K) (hr : Room k X.A) : CallR X (.type "str") (canC K qStrT) := by
  subst hK
  intro pins s σ H xs us Q I r h
  obtain ⟨W, st, ds, Qd, R, D, ⟨es, e, h1, h2, q⟩, k⟩ := h
  subst e
  obtain ⟨v, rfl, D1⟩ := dv1 D
  cases D1 with
  | tup h3 h4 =>
    rename_i a vs
    obtain ⟨u, rfl, ru⟩ := vals1 r
    cases ru
    obtain ⟨its, rv, ⟨o, ho, hcl, n, hd⟩, hz⟩ := I.tuple (R.fh.sqt h3)
    have hu := hr.units
    have hT : ∀ (prog : Program) (w : World), ReprAll prog w its (es.map rpr) := fun prog w => rep_all h1 h4 rv
    have pl := piled_le h1
    have h5 : es.length * 5002 ≤ 10 * 5002 := Nat.mul_le_mul_right _ h2
    have h6 : (100000 : Nat) ≤ sizeLine := by decide
    refine str_tup (ts := es.map rpr) (by omega) ho hcl hd (by simpa using hT) (by omega) fun m u tk hm => ?_
    have sm : SOk m := by
      rcases hm with rfl | rfl
      · exact tupleText_sok h1 h2
      · decide +kernel
    exact ⟨.str m, H, I.tok _, ⟨u, rfl⟩, k _ _ _ _ _ (Wd.Le.refl _) R (.str m sm) (q m sm)⟩
def qStrX : List DV → Sto → KD → Prop := fun ds st Q => qStr ds st Q ∨ qStrT ds st Q
theorem kStrXD {k : Nat} (hK : X.K = K) (hr : Room k X.A) : CallR X (.type "str") (canC K qStrX) := by
  intro pins s σ H xs us Q I r ⟨W, st, ds, Qd, R, D, h, kk⟩
  rcases h with h | h
  · exact kStr1D pins s σ H xs us Q I r ⟨W, st, ds, Qd, R, D, h, kk⟩
  · exact kStrT hK hr pins s σ H xs us Q I r ⟨W, st, ds, Qd, R, D, h, kk⟩
theorem w_strXI {i : Int} {Q : KD} (h : i.natAbs.log2 < 1920) (q : Q (.str (Str.ofString (toString i))) st) : qStrX [.int i] st Q := .inl (w_strI h q)
theorem w_strXS {a : Str} {Q : KD} (q : Q (.str a) st) : qStrX [.str a] st Q := .inl (.inr (.inl ⟨a, rfl, q⟩))
theorem w_strXT {es : List DV} {Q : KD} (h1 : ∀ e ∈ es, TI e) (h2 : es.length ≤ 10) (q : ∀ m, SOk m → Q (.str m) st) : qStrX [.tup es] st Q := .inr ⟨es, rfl, h1, h2, q⟩
/-! ## clear -/
theorem kClrD : MtR X "list.clear" (canM K qClr) := mtI (show MtR X "list.clear" rClear from mt_clear) fun R D1 D ⟨n, es, e1, e2, h, q⟩ k => by
  subst e1 e2
  cases D
  cases D1 with
  | ref ha =>
    obtain ⟨a, h1, h2, vs, h3, h4⟩ := R.ob _ _ h
    rw [ha] at h1; injection h1 with h1; subst h1
    exact ⟨_, vs, rfl, rfl, h3, k _ _ _ _ _ (Wd.Le.refl _) (R.put (o' := .lst []) h ha ⟨_, upd_same, .nil⟩) .non q⟩
theorem w_clr {n : Nat} {es : List DV} {Q : KD} (h : st n = some (.lst es)) (q : Q .non (sset st n (.lst []))) : qClr (.ref n) [] st Q := ⟨n, es, rfl, rfl, h, q⟩
/-! ## isinstance(x, (bool, list)) -/
theorem w_isi_bl {x : DV} {Q : KD} (hk : knD x = true) (q : Q (.bl (bKB x || lKB x)) st) : ∃ t b, tyD st x = some t ∧ PySem.W.kitAny K t [.type "bool", .type "list"] = some b ∧ Q (.bl b) st := by
  have key : ∀ n ∈ (["NoneType", "bool", "int", "str", "list", "tuple", "dict"] : List String), PySem.W.kitAny K (.type n) [.type "bool", .type "list"] = some ((n == "bool") || (n == "list")) := by
    intro n hn
    have h1 := kit_ty (K := K) (kkD n hn).2.2.1
    have h2 := kit_ty (K := K) (kkD n hn).2.2.2.2.1
    exact kitAny_cons h1 (fun e => by rw [e, Bool.false_or]; exact kitAny_cons h2 (fun e => by rw [e]; exact kitAny_nil) fun e => e) fun e => by rw [e]; rfl
  cases x with
  | non => exact ⟨_, _, rfl, key "NoneType" (by simp), q⟩
  | bl _ => exact ⟨_, _, rfl, key "bool" (by simp), q⟩
  | int _ => exact ⟨_, _, rfl, key "int" (by simp), q⟩
  | str _ => exact ⟨_, _, rfl, key "str" (by simp), q⟩
  | tup _ => exact ⟨_, _, rfl, key "tuple" (by simp), q⟩
  | lst _ => exact ⟨_, _, rfl, key "list" (by simp), q⟩
  | scr _ => exact ⟨_, _, rfl, key "list" (by simp), q⟩
  | dct _ _ => exact ⟨_, _, rfl, key "dict" (by simp), q⟩
  | _ => cases hk
/-! ## a dict of tuples of numbers, written at the module, asked by get -/
def tabTB (K : PySem.W.Frag) (a : Addr) (tab : List (Str × List Int)) : Bool := match K.lookup a with
  | some ⟨_, _, .dict es _, _⟩ => go tab es.toList
  | _ => false
where
  ivs : List Int → List Value → Bool
    | [], [] => true
    | i :: r, .int j _ :: l => decide (i = j) && ivs r l
    | _, _ => false
  go : List (Str × List Int) → List DictEntry → Bool
    | [], [] => true
    | p :: r, e :: l => (match e.key with | .str x _ => decide (x = p.1) | _ => false) && ((match e.val with | .ref b => (match K.lookup b with | some ⟨.type t, _, .seq its _, _⟩ => decide (t = "tuple") && (decide (its.size ≤ 100) && ivs p.2 its.toList) | _ => false) | _ => false) && go r l)
    | _, _ => false
theorem tabTB_ivs : ∀ {is : List Int} {l : List Value}, tabTB.ivs is l = true → Vals (is.map V.int) l
  | [], [], _ => .nil
  | [], _ :: _, h => by cases h
  | _ :: _, [], h => by cases h
  | i :: r, v :: l, h => by
    cases v with
    | int j t =>
      have h : (decide (i = j) && tabTB.ivs r l) = true := h
      obtain ⟨h1, h2⟩ := He.ba h
      exact .cons ⟨t, by rw [of_decide_eq_true h1]⟩ (tabTB_ivs h2)
    | _ => cases h
/-- the table by values that are places of tuples -/
structure KTabT (K : PySem.W.Frag) (w : World) (d : Addr) (tab : List (Str × List Int)) : Prop where
  ex : ∃ tb : List (Str × V), KTab K w d tb ∧ Paired (fun (p : Str × List Int) (q : Str × V) => p.1 = q.1 ∧ ∃ a, q.2 = .ref a ∧ ∀ H, SqT K H a (p.2.map V.int)) tab tb
theorem tabTB_go : ∀ {tab : List (Str × List Int)} {l : List DictEntry}, tabTB.go K tab l = true → ∃ tb : List (Str × V), Paired (fun (p : Str × V) (e : DictEntry) => (∃ t, e.key = .str p.1 t) ∧ RelV p.2 e.val) tb l ∧ Paired (fun (p : Str × List Int) (q : Str × V) => p.1 = q.1 ∧ ∃ a, q.2 = .ref a ∧ ∀ H, SqT K H a (p.2.map V.int)) tab tb
  | [], [], _ => ⟨[], .nil, .nil⟩
  | [], _ :: _, h => by cases h
  | _ :: _, [], h => by cases h
  | p :: r, e :: l, h => by
    have h : ((match e.key with | .str x _ => decide (x = p.1) | _ => false) && ((match e.val with | .ref b => (match K.lookup b with | some ⟨.type t, _, .seq its _, _⟩ => decide (t = "tuple") && (decide (its.size ≤ 100) && tabTB.ivs p.2 its.toList) | _ => false) | _ => false) && tabTB.go K r l)) = true := h
    obtain ⟨h1, h⟩ := He.ba h
    obtain ⟨h2, h3⟩ := He.ba h
    obtain ⟨tb, g1, g2⟩ := tabTB_go h3
    have k1 : ∃ t, e.key = .str p.1 t := by
      split at h1
      · rename_i x t q
        exact ⟨t, by rw [q, of_decide_eq_true h1]⟩
      · cases h1
    split at h2
    · rename_i b hb
      split at h2
      · rename_i o t d its n sl ho
        obtain ⟨e1, h2⟩ := He.ba h2
        obtain ⟨e2, e3⟩ := He.ba h2
        have e1 := of_decide_eq_true e1
        have e2 := of_decide_eq_true e2
        have sz : (100 : Nat) ≤ sizeLine := by decide
        subst e1
        exact ⟨(p.1, .ref b) :: tb, .cons ⟨k1, hb⟩ g1, .cons ⟨rfl, b, rfl, fun H => .inr ⟨_, its, n, ho, rfl, rfl, by omega, tabTB_ivs e3⟩⟩ g2⟩
      · cases h2
    · cases h2
theorem tabTB_ok {w : World} {a : Addr} {tab : List (Str × List Int)} (h : tabTB K a tab = true) (D : ∃ es n, KDict K w a es n) : KTabT K w a tab := by
  obtain ⟨es, n, D⟩ := D
  unfold tabTB at h
  rw [D.at_] at h
  obtain ⟨tb, g1, g2⟩ := tabTB_go h
  exact ⟨tb, ⟨es, n, D, g1⟩, g2⟩
theorem pair_look {tab : List (Str × List Int)} {tb : List (Str × V)} {k : Str} (h : Paired (fun (p : Str × List Int) (q : Str × V) => p.1 = q.1 ∧ ∃ a, q.2 = .ref a ∧ ∀ H, SqT K H a (p.2.map V.int)) tab tb) :
    (tab.lookup k = none ∧ tb.lookup k = none) ∨ ∃ is a, tab.lookup k = some is ∧ tb.lookup k = some (.ref a) ∧ ∀ H, SqT K H a (is.map V.int) := by
  induction h with
  | nil => exact .inl ⟨rfl, rfl⟩
  | cons h1 h2 ih =>
    rename_i p q l m
    obtain ⟨e, a, e2, hs⟩ := h1
    obtain ⟨pk, pv⟩ := p
    obtain ⟨qk, qv⟩ := q
    dsimp only at e e2 hs
    subst e e2
    rw [List.lookup_cons, List.lookup_cons]
    cases hk : k == pk with
    | true => exact .inr ⟨pv, a, rfl, rfl, hs⟩
    | false => exact ih
def dKGT (tab : List (Str × List Int)) (tb tc : TEd) : TEd := fun ex sl st Q => tb ex sl st fun y s1 => tc ex sl s1 fun z s2 => ∃ k, y = .str k ∧ Q (match tab.lookup k with | some is => .tup (is.map DV.int) | none => z) s2
theorem d_kgetT {o e f : Expr} {apos cpos : Pos} {d : Addr} {tab : List (Str × List Int)} {tb tc : TEd} (hK : X.K = K) (T : KTabT K X.w d tab) (ho : PE X o (tC (.ref d))) (he : PE X e (canE K E tb)) (hf : PE X f (canE K E tc)) (m : M2 X o "get" apos e f cpos := by exact ⟨rfl, rfl, rfl, rfl⟩) :
    PE X (.Call (.Attribute o "get" apos) [e, f] [] cpos) (canE K E (dKGT tab tb tc)) := by
  subst hK
  obtain ⟨tv, T, hp⟩ := T.ex
  refine peI (kKGet T ho he hf m) fun A h k => ⟨rfl, runE A h fun W1 s1 H1 v d l1 A1 D1 h1 => runE A1 h1 fun W2 s2 H2 u z l2 A2 D2 ⟨ky, ed, q⟩ => ?_⟩
  subst ed
  obtain ⟨rfl, _⟩ := dvS D1
  refine ⟨ky, rfl, ?_⟩
  rcases pair_look (k := ky) hp with ⟨e1, e2⟩ | ⟨is, a, e1, e2, hs⟩
  · rw [e1] at q
    rw [e2]
    exact k _ _ _ _ _ (l1.trans l2) A2.r D2 q
  · rw [e1] at q
    rw [e2]
    exact k _ _ _ _ _ (l1.trans l2) A2.r (.tup (hs _) DvAll.ints) q
theorem w_kgT {ex : KX} {sl : Sl} {tab : List (Str × List Int)} {tb tc : TEd} {Q : KD} (h : tb ex sl st fun y s1 => tc ex sl s1 fun z s2 => ∃ k, y = .str k ∧ Q (match tab.lookup k with | some is => .tup (is.map DV.int) | none => z) s2) : dKGT tab tb tc ex sl st Q := h
end
end Kn

set_option Elab.async false
set_option linter.all false
set_option maxRecDepth 100000
set_option maxHeartbeats 0
namespace Kn
open PySem PySem.Spec PyProof.Rows L2
def top (i : Nat) : Stmt := PySem.Challenge.pw_knotpurse_k84_lines_as_text.main.body.getD i (.Pass ⟨0, 0, 0, 0⟩)
abbrev s_is_whole : Stmt := top 9
abbrev nm_is_whole : List Str := ["thing"]
theorem sc_is_whole : FnScope nm_is_whole ["thing"] (defScope s_is_whole) := ⟨rfl, rfl, rfl, by decide +kernel, rfl, by decide +kernel, by decide +kernel⟩
abbrev s_within : Stmt := top 10
abbrev nm_within : List Str := ["thing", "least", "most"]
theorem sc_within : FnScope nm_within ["thing", "least", "most"] (defScope s_within) := ⟨rfl, rfl, rfl, by decide +kernel, rfl, by decide +kernel, by decide +kernel⟩
abbrev s_is_name : Stmt := top 11
abbrev nm_is_name : List Str := ["thing"]
theorem sc_is_name : FnScope nm_is_name ["thing"] (defScope s_is_name) := ⟨rfl, rfl, rfl, by decide +kernel, rfl, by decide +kernel, by decide +kernel⟩
abbrev s_number_in : Stmt := top 12
abbrev nm_number_in : List Str := ["word"]
theorem sc_number_in : FnScope nm_number_in ["word"] (defScope s_number_in) := ⟨rfl, rfl, rfl, by decide +kernel, rfl, by decide +kernel, by decide +kernel⟩
abbrev s_check_entries : Stmt := top 17
abbrev nm_check_entries : List Str := ["good"]
theorem sc_check_entries : FnScope nm_check_entries ["good"] (defScope s_check_entries) := ⟨rfl, rfl, rfl, by decide +kernel, rfl, by decide +kernel, by decide +kernel⟩
abbrev s_check_coins : Stmt := top 19
abbrev nm_check_coins : List Str := ["coins", "note"]
theorem sc_check_coins : FnScope nm_check_coins ["coins", "note"] (defScope s_check_coins) := ⟨rfl, rfl, rfl, by decide +kernel, rfl, by decide +kernel, by decide +kernel⟩
abbrev s_Entry_told : Stmt := inClass (top 20) 0
abbrev nm_Entry_told : List Str := ["self"]
theorem sc_Entry_told : FnScope nm_Entry_told ["self"] (defScope s_Entry_told) := ⟨rfl, rfl, rfl, by decide +kernel, rfl, by decide +kernel, by decide +kernel⟩
abbrev s_Entry_named : Stmt := inClass (top 20) 1
abbrev nm_Entry_named : List Str := ["self"]
theorem sc_Entry_named : FnScope nm_Entry_named ["self"] (defScope s_Entry_named) := ⟨rfl, rfl, rfl, by decide +kernel, rfl, by decide +kernel, by decide +kernel⟩
abbrev s_Entry_lasts : Stmt := inClass (top 20) 2
abbrev nm_Entry_lasts : List Str := ["self", "year", "date"]
theorem sc_Entry_lasts : FnScope nm_Entry_lasts ["self", "year", "date"] (defScope s_Entry_lasts) := ⟨rfl, rfl, rfl, by decide +kernel, rfl, by decide +kernel, by decide +kernel⟩
abbrev s_Entry_fits : Stmt := inClass (top 20) 3
abbrev nm_Entry_fits : List Str := ["self", "year", "date", "names", "head"]
theorem sc_Entry_fits : FnScope nm_Entry_fits ["self", "year", "date"] (defScope s_Entry_fits) := ⟨rfl, rfl, rfl, by decide +kernel, rfl, by decide +kernel, by decide +kernel⟩
abbrev s_Give___init__ : Stmt := inClass (top 21) 0
abbrev nm_Give___init__ : List Str := ["self", "head", "coins", "note"]
theorem sc_Give___init__ : FnScope nm_Give___init__ ["self", "head", "coins", "note"] (defScope s_Give___init__) := ⟨rfl, rfl, rfl, by decide +kernel, rfl, by decide +kernel, by decide +kernel⟩
abbrev s_Give_told : Stmt := inClass (top 21) 1
abbrev nm_Give_told : List Str := ["self"]
theorem sc_Give_told : FnScope nm_Give_told ["self"] (defScope s_Give_told) := ⟨rfl, rfl, rfl, by decide +kernel, rfl, by decide +kernel, by decide +kernel⟩
abbrev s_Give_named : Stmt := inClass (top 21) 2
abbrev nm_Give_named : List Str := ["self"]
theorem sc_Give_named : FnScope nm_Give_named ["self"] (defScope s_Give_named) := ⟨rfl, rfl, rfl, by decide +kernel, rfl, by decide +kernel, by decide +kernel⟩
abbrev s_Hold___init__ : Stmt := inClass (top 22) 0
abbrev nm_Hold___init__ : List Str := ["self", "head", "coins", "until", "note"]
theorem sc_Hold___init__ : FnScope nm_Hold___init__ ["self", "head", "coins", "until", "note"] (defScope s_Hold___init__) := ⟨rfl, rfl, rfl, by decide +kernel, rfl, by decide +kernel, by decide +kernel⟩
abbrev s_Hold_told : Stmt := inClass (top 22) 1
abbrev nm_Hold_told : List Str := ["self"]
theorem sc_Hold_told : FnScope nm_Hold_told ["self"] (defScope s_Hold_told) := ⟨rfl, rfl, rfl, by decide +kernel, rfl, by decide +kernel, by decide +kernel⟩
abbrev s_Hold_named : Stmt := inClass (top 22) 2
abbrev nm_Hold_named : List Str := ["self"]
theorem sc_Hold_named : FnScope nm_Hold_named ["self"] (defScope s_Hold_named) := ⟨rfl, rfl, rfl, by decide +kernel, rfl, by decide +kernel, by decide +kernel⟩
abbrev s_Hold_lasts : Stmt := inClass (top 22) 3
abbrev nm_Hold_lasts : List Str := ["self", "year", "date"]
theorem sc_Hold_lasts : FnScope nm_Hold_lasts ["self", "year", "date"] (defScope s_Hold_lasts) := ⟨rfl, rfl, rfl, by decide +kernel, rfl, by decide +kernel, by decide +kernel⟩
abbrev s_Move___init__ : Stmt := inClass (top 23) 0
abbrev nm_Move___init__ : List Str := ["self", "head", "other", "coins", "note"]
theorem sc_Move___init__ : FnScope nm_Move___init__ ["self", "head", "other", "coins", "note"] (defScope s_Move___init__) := ⟨rfl, rfl, rfl, by decide +kernel, rfl, by decide +kernel, by decide +kernel⟩
abbrev s_Move_told : Stmt := inClass (top 23) 1
abbrev nm_Move_told : List Str := ["self"]
theorem sc_Move_told : FnScope nm_Move_told ["self"] (defScope s_Move_told) := ⟨rfl, rfl, rfl, by decide +kernel, rfl, by decide +kernel, by decide +kernel⟩
abbrev s_Move_named : Stmt := inClass (top 23) 2
abbrev nm_Move_named : List Str := ["self"]
theorem sc_Move_named : FnScope nm_Move_named ["self"] (defScope s_Move_named) := ⟨rfl, rfl, rfl, by decide +kernel, rfl, by decide +kernel, by decide +kernel⟩
abbrev s_Spend___init__ : Stmt := inClass (top 24) 0
abbrev nm_Spend___init__ : List Str := ["self", "head", "coins", "note"]
theorem sc_Spend___init__ : FnScope nm_Spend___init__ ["self", "head", "coins", "note"] (defScope s_Spend___init__) := ⟨rfl, rfl, rfl, by decide +kernel, rfl, by decide +kernel, by decide +kernel⟩
abbrev s_Spend_told : Stmt := inClass (top 24) 1
abbrev nm_Spend_told : List Str := ["self"]
theorem sc_Spend_told : FnScope nm_Spend_told ["self"] (defScope s_Spend_told) := ⟨rfl, rfl, rfl, by decide +kernel, rfl, by decide +kernel, by decide +kernel⟩
abbrev s_Spend_named : Stmt := inClass (top 24) 2
abbrev nm_Spend_named : List Str := ["self"]
theorem sc_Spend_named : FnScope nm_Spend_named ["self"] (defScope s_Spend_named) := ⟨rfl, rfl, rfl, by decide +kernel, rfl, by decide +kernel, by decide +kernel⟩
abbrev s_Promise___init__ : Stmt := inClass (top 25) 0
abbrev nm_Promise___init__ : List Str := ["self", "word", "head", "coins", "note"]
theorem sc_Promise___init__ : FnScope nm_Promise___init__ ["self", "word", "head", "coins", "note"] (defScope s_Promise___init__) := ⟨rfl, rfl, rfl, by decide +kernel, rfl, by decide +kernel, by decide +kernel⟩
abbrev s_Promise_told : Stmt := inClass (top 25) 1
abbrev nm_Promise_told : List Str := ["self"]
theorem sc_Promise_told : FnScope nm_Promise_told ["self"] (defScope s_Promise_told) := ⟨rfl, rfl, rfl, by decide +kernel, rfl, by decide +kernel, by decide +kernel⟩
abbrev s_Promise_named : Stmt := inClass (top 25) 2
abbrev nm_Promise_named : List Str := ["self"]
theorem sc_Promise_named : FnScope nm_Promise_named ["self"] (defScope s_Promise_named) := ⟨rfl, rfl, rfl, by decide +kernel, rfl, by decide +kernel, by decide +kernel⟩
abbrev s_Lessen___init__ : Stmt := inClass (top 26) 0
abbrev nm_Lessen___init__ : List Str := ["self", "word", "coins", "note"]
theorem sc_Lessen___init__ : FnScope nm_Lessen___init__ ["self", "word", "coins", "note"] (defScope s_Lessen___init__) := ⟨rfl, rfl, rfl, by decide +kernel, rfl, by decide +kernel, by decide +kernel⟩
abbrev s_Lessen_told : Stmt := inClass (top 26) 1
abbrev nm_Lessen_told : List Str := ["self"]
theorem sc_Lessen_told : FnScope nm_Lessen_told ["self"] (defScope s_Lessen_told) := ⟨rfl, rfl, rfl, by decide +kernel, rfl, by decide +kernel, by decide +kernel⟩
abbrev s_Out___init__ : Stmt := inClass (top 27) 0
abbrev nm_Out___init__ : List Str := ["self", "word", "coins", "note"]
theorem sc_Out___init__ : FnScope nm_Out___init__ ["self", "word", "coins", "note"] (defScope s_Out___init__) := ⟨rfl, rfl, rfl, by decide +kernel, rfl, by decide +kernel, by decide +kernel⟩
abbrev s_Out_told : Stmt := inClass (top 27) 1
abbrev nm_Out_told : List Str := ["self"]
theorem sc_Out_told : FnScope nm_Out_told ["self"] (defScope s_Out_told) := ⟨rfl, rfl, rfl, by decide +kernel, rfl, by decide +kernel, by decide +kernel⟩
abbrev s_read_entry : Stmt := top 28
abbrev nm_read_entry : List Str := ["told"]
theorem sc_read_entry : FnScope nm_read_entry ["told"] (defScope s_read_entry) := ⟨rfl, rfl, rfl, by decide +kernel, rfl, by decide +kernel, by decide +kernel⟩
abbrev s_check_texts : Stmt := top 31
abbrev nm_check_texts : List Str := ["good"]
theorem sc_check_texts : FnScope nm_check_texts ["good"] (defScope s_check_texts) := ⟨rfl, rfl, rfl, by decide +kernel, rfl, by decide +kernel, by decide +kernel⟩
abbrev s_number_of : Stmt := top 33
abbrev nm_number_of : List Str := ["word", "number"]
theorem sc_number_of : FnScope nm_number_of ["word"] (defScope s_number_of) := ⟨rfl, rfl, rfl, by decide +kernel, rfl, by decide +kernel, by decide +kernel⟩
abbrev s_rows_of : Stmt := top 34
abbrev nm_rows_of : List Str := ["text"]
theorem sc_rows_of : FnScope nm_rows_of ["text"] (defScope s_rows_of) := ⟨rfl, rfl, rfl, by decide +kernel, rfl, by decide +kernel, by decide +kernel⟩
abbrev s_words_of : Stmt := top 35
abbrev nm_words_of : List Str := ["things", "thing"]
theorem sc_words_of : FnScope nm_words_of ["things"] (defScope s_words_of) := ⟨rfl, rfl, rfl, by decide +kernel, rfl, by decide +kernel, by decide +kernel⟩
abbrev s_row_text : Stmt := top 36
abbrev nm_row_text : List Str := ["things"]
theorem sc_row_text : FnScope nm_row_text ["things"] (defScope s_row_text) := ⟨rfl, rfl, rfl, by decide +kernel, rfl, by decide +kernel, by decide +kernel⟩
abbrev s_line_text : Stmt := top 37
abbrev nm_line_text : List Str := ["line"]
theorem sc_line_text : FnScope nm_line_text ["line"] (defScope s_line_text) := ⟨rfl, rfl, rfl, by decide +kernel, rfl, by decide +kernel, by decide +kernel⟩
abbrev s_lines_text : Stmt := top 38
abbrev nm_lines_text : List Str := ["lines", "line"]
theorem sc_lines_text : FnScope nm_lines_text ["lines"] (defScope s_lines_text) := ⟨rfl, rfl, rfl, by decide +kernel, rfl, by decide +kernel, by decide +kernel⟩
abbrev s_told_of : Stmt := top 39
abbrev nm_told_of : List Str := ["words", "places", "told", "k", "word", "entry"]
theorem sc_told_of : FnScope nm_told_of ["words"] (defScope s_told_of) := ⟨rfl, rfl, rfl, by decide +kernel, rfl, by decide +kernel, by decide +kernel⟩
abbrev s_read_line : Stmt := top 40
abbrev nm_read_line : List Str := ["row", "words"]
theorem sc_read_line : FnScope nm_read_line ["row"] (defScope s_read_line) := ⟨rfl, rfl, rfl, by decide +kernel, rfl, by decide +kernel, by decide +kernel⟩
abbrev s_read_lines : Stmt := top 41
abbrev nm_read_lines : List Str := ["text", "row"]
theorem sc_read_lines : FnScope nm_read_lines ["text"] (defScope s_read_lines) := ⟨rfl, rfl, rfl, by decide +kernel, rfl, by decide +kernel, by decide +kernel⟩
abbrev s_Lcell_at : Stmt := top 43
abbrev nm_Lcell_at : List Str := ["_law_script", "_law_k"]
theorem sc_Lcell_at : FnScope nm_Lcell_at ["_law_script", "_law_k"] (defScope s_Lcell_at) := ⟨rfl, rfl, rfl, by decide +kernel, rfl, by decide +kernel, by decide +kernel⟩
abbrev s_Lwell : Stmt := top 44
abbrev nm_Lwell : List Str := ["_law_cell"]
theorem sc_Lwell : FnScope nm_Lwell ["_law_cell"] (defScope s_Lwell) := ⟨rfl, rfl, rfl, by decide +kernel, rfl, by decide +kernel, by decide +kernel⟩
abbrev s_Ldraw : Stmt := top 45
abbrev nm_Ldraw : List Str := ["_law_well_here", "_law_many", "_law_found", "_law_number"]
theorem sc_Ldraw : FnScope nm_Ldraw ["_law_well_here", "_law_many"] (defScope s_Ldraw) := ⟨rfl, rfl, rfl, by decide +kernel, rfl, by decide +kernel, by decide +kernel⟩
abbrev s_Lname : Stmt := top 46
abbrev nm_Lname : List Str := ["_law_well_here", "_law_some", "_law_signs", "_law_k"]
theorem sc_Lname : FnScope nm_Lname ["_law_well_here"] (defScope s_Lname) := ⟨rfl, rfl, rfl, by decide +kernel, rfl, by decide +kernel, by decide +kernel⟩
abbrev s_Lnames : Stmt := top 47
abbrev nm_Lnames : List Str := ["_law_well_here", "_law_many", "_law_found", "_law_k", "_law_name_here", "_law_some", "_law_sign", "_law_one"]
theorem sc_Lnames : FnScope nm_Lnames ["_law_well_here", "_law_many"] (defScope s_Lnames) := ⟨rfl, rfl, rfl, by decide +kernel, rfl, by decide +kernel, by decide +kernel⟩
abbrev s_Lcoins : Stmt := top 48
abbrev nm_Lcoins : List Str := ["_law_well_here"]
theorem sc_Lcoins : FnScope nm_Lcoins ["_law_well_here"] (defScope s_Lcoins) := ⟨rfl, rfl, rfl, by decide +kernel, rfl, by decide +kernel, by decide +kernel⟩
abbrev s_Ltold : Stmt := top 49
abbrev nm_Ltold : List Str := ["_law_well_here", "_law_kind", "_law_one", "_law_other", "_law_coins_here", "_law_note"]
theorem sc_Ltold : FnScope nm_Ltold ["_law_well_here"] (defScope s_Ltold) := ⟨rfl, rfl, rfl, by decide +kernel, rfl, by decide +kernel, by decide +kernel⟩
abbrev s_Lfar : Stmt := top 50
abbrev nm_Lfar : List Str := ["_law_well_here", "_law_some"]
theorem sc_Lfar : FnScope nm_Lfar ["_law_well_here"] (defScope s_Lfar) := ⟨rfl, rfl, rfl, by decide +kernel, rfl, by decide +kernel, by decide +kernel⟩
abbrev s_Lline : Stmt := top 51
abbrev nm_Lline : List Str := ["_law_well_here", "_law_lot"]
theorem sc_Lline : FnScope nm_Lline ["_law_well_here"] (defScope s_Lline) := ⟨rfl, rfl, rfl, by decide +kernel, rfl, by decide +kernel, by decide +kernel⟩
abbrev s_Lline_text : Stmt := top 52
abbrev nm_Lline_text : List Str := ["_law_line_here", "_law_words", "_law_one"]
theorem sc_Lline_text : FnScope nm_Lline_text ["_law_line_here"] (defScope s_Lline_text) := ⟨rfl, rfl, rfl, by decide +kernel, rfl, by decide +kernel, by decide +kernel⟩
abbrev s_Llines : Stmt := top 53
abbrev nm_Llines : List Str := ["_law_well_here", "_law_many", "_law_k"]
theorem sc_Llines : FnScope nm_Llines ["_law_well_here"] (defScope s_Llines) := ⟨rfl, rfl, rfl, by decide +kernel, rfl, by decide +kernel, by decide +kernel⟩
abbrev s_law : Stmt := top 54
abbrev nm_law : List Str := ["_law_script", "_law_kept", "_law_cell", "_law_lines_here", "_law_text", "_law_handed", "_law_turn", "_law_found", "_law_line_here", "_law_one"]
theorem sc_law : FnScope nm_law ["_law_script"] (defScope s_law) := ⟨rfl, rfl, rfl, by decide +kernel, rfl, by decide +kernel, by decide +kernel⟩
def dd_is_whole : He.DefD := ⟨("is_whole", none), "is_whole", "is_whole", defArgs s_is_whole, defBody s_is_whole, defScope s_is_whole, [], []⟩
def dd_within : He.DefD := ⟨("within", none), "within", "within", defArgs s_within, defBody s_within, defScope s_within, [], []⟩
def dd_is_name : He.DefD := ⟨("is_name", none), "is_name", "is_name", defArgs s_is_name, defBody s_is_name, defScope s_is_name, [], []⟩
def dd_number_in : He.DefD := ⟨("number_in", none), "number_in", "number_in", defArgs s_number_in, defBody s_number_in, defScope s_number_in, [], []⟩
def dd_check_entries : He.DefD := ⟨("check_entries", none), "check", "check", defArgs s_check_entries, defBody s_check_entries, defScope s_check_entries, [], []⟩
def dd_check_coins : He.DefD := ⟨("check_coins", none), "check_coins", "check_coins", defArgs s_check_coins, defBody s_check_coins, defScope s_check_coins, [], []⟩
def dd_Entry_told : He.DefD := ⟨("Entry", some "told"), "told", "Entry.told", defArgs s_Entry_told, defBody s_Entry_told, defScope s_Entry_told, [], []⟩
def dd_Entry_named : He.DefD := ⟨("Entry", some "named"), "named", "Entry.named", defArgs s_Entry_named, defBody s_Entry_named, defScope s_Entry_named, [], []⟩
def dd_Entry_lasts : He.DefD := ⟨("Entry", some "lasts"), "lasts", "Entry.lasts", defArgs s_Entry_lasts, defBody s_Entry_lasts, defScope s_Entry_lasts, [], []⟩
def dd_Entry_fits : He.DefD := ⟨("Entry", some "fits"), "fits", "Entry.fits", defArgs s_Entry_fits, defBody s_Entry_fits, defScope s_Entry_fits, [], []⟩
def dd_Give___init__ : He.DefD := ⟨("Give", some "__init__"), "__init__", "Give.__init__", defArgs s_Give___init__, defBody s_Give___init__, defScope s_Give___init__, [], []⟩
def dd_Give_told : He.DefD := ⟨("Give", some "told"), "told", "Give.told", defArgs s_Give_told, defBody s_Give_told, defScope s_Give_told, [], []⟩
def dd_Give_named : He.DefD := ⟨("Give", some "named"), "named", "Give.named", defArgs s_Give_named, defBody s_Give_named, defScope s_Give_named, [], []⟩
def dd_Hold___init__ : He.DefD := ⟨("Hold", some "__init__"), "__init__", "Hold.__init__", defArgs s_Hold___init__, defBody s_Hold___init__, defScope s_Hold___init__, [], []⟩
def dd_Hold_told : He.DefD := ⟨("Hold", some "told"), "told", "Hold.told", defArgs s_Hold_told, defBody s_Hold_told, defScope s_Hold_told, [], []⟩
def dd_Hold_named : He.DefD := ⟨("Hold", some "named"), "named", "Hold.named", defArgs s_Hold_named, defBody s_Hold_named, defScope s_Hold_named, [], []⟩
def dd_Hold_lasts : He.DefD := ⟨("Hold", some "lasts"), "lasts", "Hold.lasts", defArgs s_Hold_lasts, defBody s_Hold_lasts, defScope s_Hold_lasts, [], []⟩
def dd_Move___init__ : He.DefD := ⟨("Move", some "__init__"), "__init__", "Move.__init__", defArgs s_Move___init__, defBody s_Move___init__, defScope s_Move___init__, [], []⟩
def dd_Move_told : He.DefD := ⟨("Move", some "told"), "told", "Move.told", defArgs s_Move_told, defBody s_Move_told, defScope s_Move_told, [], []⟩
def dd_Move_named : He.DefD := ⟨("Move", some "named"), "named", "Move.named", defArgs s_Move_named, defBody s_Move_named, defScope s_Move_named, [], []⟩
def dd_Spend___init__ : He.DefD := ⟨("Spend", some "__init__"), "__init__", "Spend.__init__", defArgs s_Spend___init__, defBody s_Spend___init__, defScope s_Spend___init__, [], []⟩
def dd_Spend_told : He.DefD := ⟨("Spend", some "told"), "told", "Spend.told", defArgs s_Spend_told, defBody s_Spend_told, defScope s_Spend_told, [], []⟩
def dd_Spend_named : He.DefD := ⟨("Spend", some "named"), "named", "Spend.named", defArgs s_Spend_named, defBody s_Spend_named, defScope s_Spend_named, [], []⟩
def dd_Promise___init__ : He.DefD := ⟨("Promise", some "__init__"), "__init__", "Promise.__init__", defArgs s_Promise___init__, defBody s_Promise___init__, defScope s_Promise___init__, [], []⟩
def dd_Promise_told : He.DefD := ⟨("Promise", some "told"), "told", "Promise.told", defArgs s_Promise_told, defBody s_Promise_told, defScope s_Promise_told, [], []⟩
def dd_Promise_named : He.DefD := ⟨("Promise", some "named"), "named", "Promise.named", defArgs s_Promise_named, defBody s_Promise_named, defScope s_Promise_named, [], []⟩
def dd_Lessen___init__ : He.DefD := ⟨("Lessen", some "__init__"), "__init__", "Lessen.__init__", defArgs s_Lessen___init__, defBody s_Lessen___init__, defScope s_Lessen___init__, [], []⟩
def dd_Lessen_told : He.DefD := ⟨("Lessen", some "told"), "told", "Lessen.told", defArgs s_Lessen_told, defBody s_Lessen_told, defScope s_Lessen_told, [], []⟩
def dd_Out___init__ : He.DefD := ⟨("Out", some "__init__"), "__init__", "Out.__init__", defArgs s_Out___init__, defBody s_Out___init__, defScope s_Out___init__, [], []⟩
def dd_Out_told : He.DefD := ⟨("Out", some "told"), "told", "Out.told", defArgs s_Out_told, defBody s_Out_told, defScope s_Out_told, [], []⟩
def dd_read_entry : He.DefD := ⟨("read_entry", none), "read_entry", "read_entry", defArgs s_read_entry, defBody s_read_entry, defScope s_read_entry, [], []⟩
def dd_check_texts : He.DefD := ⟨("check_texts", none), "check", "check", defArgs s_check_texts, defBody s_check_texts, defScope s_check_texts, [], []⟩
def dd_number_of : He.DefD := ⟨("number_of", none), "number_of", "number_of", defArgs s_number_of, defBody s_number_of, defScope s_number_of, [], []⟩
def dd_rows_of : He.DefD := ⟨("rows_of", none), "rows_of", "rows_of", defArgs s_rows_of, defBody s_rows_of, defScope s_rows_of, [], []⟩
def dd_words_of : He.DefD := ⟨("words_of", none), "words_of", "words_of", defArgs s_words_of, defBody s_words_of, defScope s_words_of, [], []⟩
def dd_row_text : He.DefD := ⟨("row_text", none), "row_text", "row_text", defArgs s_row_text, defBody s_row_text, defScope s_row_text, [], []⟩
def dd_line_text : He.DefD := ⟨("line_text", none), "line_text", "line_text", defArgs s_line_text, defBody s_line_text, defScope s_line_text, [], []⟩
def dd_lines_text : He.DefD := ⟨("lines_text", none), "lines_text", "lines_text", defArgs s_lines_text, defBody s_lines_text, defScope s_lines_text, [], []⟩
def dd_told_of : He.DefD := ⟨("told_of", none), "told_of", "told_of", defArgs s_told_of, defBody s_told_of, defScope s_told_of, [], []⟩
def dd_read_line : He.DefD := ⟨("read_line", none), "read_line", "read_line", defArgs s_read_line, defBody s_read_line, defScope s_read_line, [], []⟩
def dd_read_lines : He.DefD := ⟨("read_lines", none), "read_lines", "read_lines", defArgs s_read_lines, defBody s_read_lines, defScope s_read_lines, [], []⟩
def dd_Lcell_at : He.DefD := ⟨("_law_cell_at", none), "_law_cell_at", "_law_cell_at", defArgs s_Lcell_at, defBody s_Lcell_at, defScope s_Lcell_at, [], []⟩
def dd_Lwell : He.DefD := ⟨("_law_well", none), "_law_well", "_law_well", defArgs s_Lwell, defBody s_Lwell, defScope s_Lwell, [], []⟩
def dd_Ldraw : He.DefD := ⟨("_law_draw", none), "_law_draw", "_law_draw", defArgs s_Ldraw, defBody s_Ldraw, defScope s_Ldraw, [], []⟩
def dd_Lname : He.DefD := ⟨("_law_name", none), "_law_name", "_law_name", defArgs s_Lname, defBody s_Lname, defScope s_Lname, [], []⟩
def dd_Lnames : He.DefD := ⟨("_law_names", none), "_law_names", "_law_names", defArgs s_Lnames, defBody s_Lnames, defScope s_Lnames, [], []⟩
def dd_Lcoins : He.DefD := ⟨("_law_coins", none), "_law_coins", "_law_coins", defArgs s_Lcoins, defBody s_Lcoins, defScope s_Lcoins, [], []⟩
def dd_Ltold : He.DefD := ⟨("_law_told", none), "_law_told", "_law_told", defArgs s_Ltold, defBody s_Ltold, defScope s_Ltold, [], []⟩
def dd_Lfar : He.DefD := ⟨("_law_far", none), "_law_far", "_law_far", defArgs s_Lfar, defBody s_Lfar, defScope s_Lfar, [], []⟩
def dd_Lline : He.DefD := ⟨("_law_line", none), "_law_line", "_law_line", defArgs s_Lline, defBody s_Lline, defScope s_Lline, [], []⟩
def dd_Lline_text : He.DefD := ⟨("_law_line_text", none), "_law_line_text", "_law_line_text", defArgs s_Lline_text, defBody s_Lline_text, defScope s_Lline_text, [], []⟩
def dd_Llines : He.DefD := ⟨("_law_lines", none), "_law_lines", "_law_lines", defArgs s_Llines, defBody s_Llines, defScope s_Llines, [], []⟩
def dd_law : He.DefD := ⟨("law", none), "law", "law", defArgs s_law, defBody s_law, defScope s_law, [], []⟩
def fnA_0 : List He.DefD := [dd_is_whole,
  dd_within,
  dd_is_name,
  dd_number_in,
  dd_check_entries,
  dd_check_coins,
  dd_Entry_told,
  dd_Entry_named,
  dd_Entry_lasts,
  dd_Entry_fits,
  dd_Give___init__,
  dd_Give_told,
  dd_Give_named,
  dd_Hold___init__,
  dd_Hold_told,
  dd_Hold_named,
  dd_Hold_lasts,
  dd_Move___init__,
  dd_Move_told,
  dd_Move_named,
  dd_Spend___init__,
  dd_Spend_told,
  dd_Spend_named,
  dd_Promise___init__,
  dd_Promise_told]
def fnA_1 : List He.DefD := [dd_Promise_named,
  dd_Lessen___init__,
  dd_Lessen_told,
  dd_Out___init__,
  dd_Out_told,
  dd_read_entry,
  dd_check_texts,
  dd_number_of,
  dd_rows_of,
  dd_words_of,
  dd_row_text,
  dd_line_text,
  dd_lines_text,
  dd_told_of,
  dd_read_line,
  dd_read_lines,
  dd_Lcell_at,
  dd_Lwell,
  dd_Ldraw,
  dd_Lname,
  dd_Lnames,
  dd_Lcoins,
  dd_Ltold,
  dd_Lfar,
  dd_Lline]
def fnA_2 : List He.DefD := [dd_Lline_text,
  dd_Llines,
  dd_law]
def fnA : List He.DefD := fnA_0 ++ fnA_1 ++ fnA_2
def fxA_0 (K : PySem.W.Frag) : List Bool := [(He.Fa.glo "is_whole").ok K,
  (He.Fa.glo "within").ok K,
  (He.Fa.glo "is_name").ok K,
  (He.Fa.glo "number_in").ok K,
  (He.Fa.glo "check").ok K,
  (He.Fa.glo "check_entries").ok K,
  (He.Fa.glo "check_coins").ok K,
  (He.Fa.glo "read_entry").ok K,
  (He.Fa.glo "check_texts").ok K,
  (He.Fa.glo "number_of").ok K,
  (He.Fa.glo "rows_of").ok K,
  (He.Fa.glo "words_of").ok K,
  (He.Fa.glo "row_text").ok K,
  (He.Fa.glo "line_text").ok K,
  (He.Fa.glo "lines_text").ok K,
  (He.Fa.glo "told_of").ok K,
  (He.Fa.glo "read_line").ok K,
  (He.Fa.glo "read_lines").ok K,
  (He.Fa.glo "_law_cell_at").ok K,
  (He.Fa.glo "_law_well").ok K,
  (He.Fa.glo "_law_draw").ok K,
  (He.Fa.glo "_law_name").ok K,
  (He.Fa.glo "_law_names").ok K,
  (He.Fa.glo "_law_coins").ok K,
  (He.Fa.glo "_law_told").ok K]
def fxA_1 (K : PySem.W.Frag) : List Bool := [(He.Fa.glo "_law_far").ok K,
  (He.Fa.glo "_law_line").ok K,
  (He.Fa.glo "_law_line_text").ok K,
  (He.Fa.glo "_law_lines").ok K,
  (He.Fa.glo "law").ok K,
  (He.Fa.glo "PurseError").ok K,
  (He.Fa.glo "NoEntry").ok K,
  (He.Fa.glo "NoText").ok K,
  (He.Fa.glo "Entry").ok K,
  (He.Fa.glo "Give").ok K,
  (He.Fa.glo "Hold").ok K,
  (He.Fa.glo "Move").ok K,
  (He.Fa.glo "Spend").ok K,
  (He.Fa.glo "Promise").ok K,
  (He.Fa.glo "Lessen").ok K,
  (He.Fa.glo "Out").ok K,
  (He.Fa.str "LETTERS" "abcdefghijklmnopqrstuvwxyz").ok K,
  (He.Fa.str "FIGURES" "0123456789").ok K,
  (He.Fa.int "MOST_SIGNS" 8).ok K,
  (He.Fa.int "MOST_FIGURES" 16).ok K,
  (He.Fa.int "MOST_COINS" 1000000000000).ok K,
  (He.Fa.int "LAST_UNTIL" 31).ok K,
  (He.Fa.glo "SIZES").ok K,
  (He.Fa.glo "NUMBERS").ok K,
  (He.Fa.free "len").ok K]
def fxA_2 (K : PySem.W.Frag) : List Bool := [(He.Fa.free "isinstance").ok K,
  (He.Fa.free "int").ok K,
  (He.Fa.free "str").ok K,
  (He.Fa.free "bool").ok K,
  (He.Fa.free "range").ok K,
  (He.Fa.free "tuple").ok K,
  (He.Fa.free "list").ok K,
  (He.Fa.free "enumerate").ok K,
  (He.Fa.exc "PurseError").ok K,
  (He.Fa.exc "NoEntry").ok K,
  (He.Fa.exc "NoText").ok K,
  (He.Fa.cls "Entry").ok K,
  insB K (He.ga K "Entry"),
  (He.Fa.meth "Entry" "told").ok K,
  (He.Fa.meth "Entry" "named").ok K,
  (He.Fa.meth "Entry" "lasts").ok K,
  (He.Fa.meth "Entry" "fits").ok K,
  (He.Fa.cls "Give").ok K,
  insB K (He.ga K "Give"),
  (He.Fa.noat "Give" "head").ok K,
  (He.Fa.noat "Give" "coins").ok K,
  (He.Fa.noat "Give" "note").ok K,
  (He.Fa.noat "Give" "until").ok K,
  (He.Fa.noat "Give" "other").ok K,
  (He.Fa.noat "Give" "word").ok K]
def fxA_3 (K : PySem.W.Frag) : List Bool := [(He.Fa.mkr "Give").ok K,
  (He.Fa.meth "Give" "told").ok K,
  (He.Fa.meth "Give" "named").ok K,
  (He.Fa.meth "Give" "lasts").ok K,
  (He.Fa.meth "Give" "fits").ok K,
  (He.Fa.cls "Hold").ok K,
  insB K (He.ga K "Hold"),
  (He.Fa.noat "Hold" "head").ok K,
  (He.Fa.noat "Hold" "coins").ok K,
  (He.Fa.noat "Hold" "note").ok K,
  (He.Fa.noat "Hold" "until").ok K,
  (He.Fa.noat "Hold" "other").ok K,
  (He.Fa.noat "Hold" "word").ok K,
  (He.Fa.mkr "Hold").ok K,
  (He.Fa.meth "Hold" "told").ok K,
  (He.Fa.meth "Hold" "named").ok K,
  (He.Fa.meth "Hold" "lasts").ok K,
  (He.Fa.meth "Hold" "fits").ok K,
  (He.Fa.cls "Move").ok K,
  insB K (He.ga K "Move"),
  (He.Fa.noat "Move" "head").ok K,
  (He.Fa.noat "Move" "coins").ok K,
  (He.Fa.noat "Move" "note").ok K,
  (He.Fa.noat "Move" "until").ok K,
  (He.Fa.noat "Move" "other").ok K]
def fxA_4 (K : PySem.W.Frag) : List Bool := [(He.Fa.noat "Move" "word").ok K,
  (He.Fa.mkr "Move").ok K,
  (He.Fa.meth "Move" "told").ok K,
  (He.Fa.meth "Move" "named").ok K,
  (He.Fa.meth "Move" "lasts").ok K,
  (He.Fa.meth "Move" "fits").ok K,
  (He.Fa.cls "Spend").ok K,
  insB K (He.ga K "Spend"),
  (He.Fa.noat "Spend" "head").ok K,
  (He.Fa.noat "Spend" "coins").ok K,
  (He.Fa.noat "Spend" "note").ok K,
  (He.Fa.noat "Spend" "until").ok K,
  (He.Fa.noat "Spend" "other").ok K,
  (He.Fa.noat "Spend" "word").ok K,
  (He.Fa.mkr "Spend").ok K,
  (He.Fa.meth "Spend" "told").ok K,
  (He.Fa.meth "Spend" "named").ok K,
  (He.Fa.meth "Spend" "lasts").ok K,
  (He.Fa.meth "Spend" "fits").ok K,
  (He.Fa.cls "Promise").ok K,
  insB K (He.ga K "Promise"),
  (He.Fa.noat "Promise" "head").ok K,
  (He.Fa.noat "Promise" "coins").ok K,
  (He.Fa.noat "Promise" "note").ok K,
  (He.Fa.noat "Promise" "until").ok K]
def fxA_5 (K : PySem.W.Frag) : List Bool := [(He.Fa.noat "Promise" "other").ok K,
  (He.Fa.noat "Promise" "word").ok K,
  (He.Fa.mkr "Promise").ok K,
  (He.Fa.meth "Promise" "told").ok K,
  (He.Fa.meth "Promise" "named").ok K,
  (He.Fa.meth "Promise" "lasts").ok K,
  (He.Fa.meth "Promise" "fits").ok K,
  (He.Fa.cls "Lessen").ok K,
  insB K (He.ga K "Lessen"),
  (He.Fa.noat "Lessen" "head").ok K,
  (He.Fa.noat "Lessen" "coins").ok K,
  (He.Fa.noat "Lessen" "note").ok K,
  (He.Fa.noat "Lessen" "until").ok K,
  (He.Fa.noat "Lessen" "other").ok K,
  (He.Fa.noat "Lessen" "word").ok K,
  (He.Fa.mkr "Lessen").ok K,
  (He.Fa.meth "Lessen" "told").ok K,
  (He.Fa.meth "Lessen" "named").ok K,
  (He.Fa.meth "Lessen" "lasts").ok K,
  (He.Fa.meth "Lessen" "fits").ok K,
  (He.Fa.cls "Out").ok K,
  insB K (He.ga K "Out"),
  (He.Fa.noat "Out" "head").ok K,
  (He.Fa.noat "Out" "coins").ok K,
  (He.Fa.noat "Out" "note").ok K]
def fxA_6 (K : PySem.W.Frag) : List Bool := [(He.Fa.noat "Out" "until").ok K,
  (He.Fa.noat "Out" "other").ok K,
  (He.Fa.noat "Out" "word").ok K,
  (He.Fa.mkr "Out").ok K,
  (He.Fa.meth "Out" "told").ok K,
  (He.Fa.meth "Out" "named").ok K,
  (He.Fa.meth "Out" "lasts").ok K,
  (He.Fa.meth "Out" "fits").ok K,
  decide (PySem.W.kitOne K (.ref (He.ga K "Give")) (.ref (He.ga K "Give")) = some true),
  decide (PySem.W.kitOne K (.ref (He.ga K "Give")) (.ref (He.ga K "Hold")) = some false),
  decide (PySem.W.kitOne K (.ref (He.ga K "Give")) (.ref (He.ga K "Move")) = some false),
  decide (PySem.W.kitOne K (.ref (He.ga K "Give")) (.ref (He.ga K "Spend")) = some false),
  decide (PySem.W.kitOne K (.ref (He.ga K "Give")) (.ref (He.ga K "Promise")) = some false),
  decide (PySem.W.kitOne K (.ref (He.ga K "Give")) (.ref (He.ga K "Lessen")) = some false),
  decide (PySem.W.kitOne K (.ref (He.ga K "Give")) (.ref (He.ga K "Out")) = some false),
  decide (PySem.W.kitOne K (.ref (He.ga K "Hold")) (.ref (He.ga K "Give")) = some false),
  decide (PySem.W.kitOne K (.ref (He.ga K "Hold")) (.ref (He.ga K "Hold")) = some true),
  decide (PySem.W.kitOne K (.ref (He.ga K "Hold")) (.ref (He.ga K "Move")) = some false),
  decide (PySem.W.kitOne K (.ref (He.ga K "Hold")) (.ref (He.ga K "Spend")) = some false),
  decide (PySem.W.kitOne K (.ref (He.ga K "Hold")) (.ref (He.ga K "Promise")) = some false),
  decide (PySem.W.kitOne K (.ref (He.ga K "Hold")) (.ref (He.ga K "Lessen")) = some false),
  decide (PySem.W.kitOne K (.ref (He.ga K "Hold")) (.ref (He.ga K "Out")) = some false),
  decide (PySem.W.kitOne K (.ref (He.ga K "Move")) (.ref (He.ga K "Give")) = some false),
  decide (PySem.W.kitOne K (.ref (He.ga K "Move")) (.ref (He.ga K "Hold")) = some false),
  decide (PySem.W.kitOne K (.ref (He.ga K "Move")) (.ref (He.ga K "Move")) = some true)]
def fxA_7 (K : PySem.W.Frag) : List Bool := [decide (PySem.W.kitOne K (.ref (He.ga K "Move")) (.ref (He.ga K "Spend")) = some false),
  decide (PySem.W.kitOne K (.ref (He.ga K "Move")) (.ref (He.ga K "Promise")) = some false),
  decide (PySem.W.kitOne K (.ref (He.ga K "Move")) (.ref (He.ga K "Lessen")) = some false),
  decide (PySem.W.kitOne K (.ref (He.ga K "Move")) (.ref (He.ga K "Out")) = some false),
  decide (PySem.W.kitOne K (.ref (He.ga K "Spend")) (.ref (He.ga K "Give")) = some false),
  decide (PySem.W.kitOne K (.ref (He.ga K "Spend")) (.ref (He.ga K "Hold")) = some false),
  decide (PySem.W.kitOne K (.ref (He.ga K "Spend")) (.ref (He.ga K "Move")) = some false),
  decide (PySem.W.kitOne K (.ref (He.ga K "Spend")) (.ref (He.ga K "Spend")) = some true),
  decide (PySem.W.kitOne K (.ref (He.ga K "Spend")) (.ref (He.ga K "Promise")) = some false),
  decide (PySem.W.kitOne K (.ref (He.ga K "Spend")) (.ref (He.ga K "Lessen")) = some false),
  decide (PySem.W.kitOne K (.ref (He.ga K "Spend")) (.ref (He.ga K "Out")) = some false),
  decide (PySem.W.kitOne K (.ref (He.ga K "Promise")) (.ref (He.ga K "Give")) = some false),
  decide (PySem.W.kitOne K (.ref (He.ga K "Promise")) (.ref (He.ga K "Hold")) = some false),
  decide (PySem.W.kitOne K (.ref (He.ga K "Promise")) (.ref (He.ga K "Move")) = some false),
  decide (PySem.W.kitOne K (.ref (He.ga K "Promise")) (.ref (He.ga K "Spend")) = some false),
  decide (PySem.W.kitOne K (.ref (He.ga K "Promise")) (.ref (He.ga K "Promise")) = some true),
  decide (PySem.W.kitOne K (.ref (He.ga K "Promise")) (.ref (He.ga K "Lessen")) = some false),
  decide (PySem.W.kitOne K (.ref (He.ga K "Promise")) (.ref (He.ga K "Out")) = some false),
  decide (PySem.W.kitOne K (.ref (He.ga K "Lessen")) (.ref (He.ga K "Give")) = some false),
  decide (PySem.W.kitOne K (.ref (He.ga K "Lessen")) (.ref (He.ga K "Hold")) = some false),
  decide (PySem.W.kitOne K (.ref (He.ga K "Lessen")) (.ref (He.ga K "Move")) = some false),
  decide (PySem.W.kitOne K (.ref (He.ga K "Lessen")) (.ref (He.ga K "Spend")) = some false),
  decide (PySem.W.kitOne K (.ref (He.ga K "Lessen")) (.ref (He.ga K "Promise")) = some false),
  decide (PySem.W.kitOne K (.ref (He.ga K "Lessen")) (.ref (He.ga K "Lessen")) = some true),
  decide (PySem.W.kitOne K (.ref (He.ga K "Lessen")) (.ref (He.ga K "Out")) = some false)]
def fxA_8 (K : PySem.W.Frag) : List Bool := [decide (PySem.W.kitOne K (.ref (He.ga K "Out")) (.ref (He.ga K "Give")) = some false),
  decide (PySem.W.kitOne K (.ref (He.ga K "Out")) (.ref (He.ga K "Hold")) = some false),
  decide (PySem.W.kitOne K (.ref (He.ga K "Out")) (.ref (He.ga K "Move")) = some false),
  decide (PySem.W.kitOne K (.ref (He.ga K "Out")) (.ref (He.ga K "Spend")) = some false),
  decide (PySem.W.kitOne K (.ref (He.ga K "Out")) (.ref (He.ga K "Promise")) = some false),
  decide (PySem.W.kitOne K (.ref (He.ga K "Out")) (.ref (He.ga K "Lessen")) = some false),
  decide (PySem.W.kitOne K (.ref (He.ga K "Out")) (.ref (He.ga K "Out")) = some true),
  decide (PySem.W.kitOne K (.ref (He.ga K "Give")) (.ref (He.ga K "Entry")) = some true),
  decide (PySem.W.kitOne K (.ref (He.ga K "Hold")) (.ref (He.ga K "Entry")) = some true),
  decide (PySem.W.kitOne K (.ref (He.ga K "Move")) (.ref (He.ga K "Entry")) = some true),
  decide (PySem.W.kitOne K (.ref (He.ga K "Spend")) (.ref (He.ga K "Entry")) = some true),
  decide (PySem.W.kitOne K (.ref (He.ga K "Promise")) (.ref (He.ga K "Entry")) = some true),
  decide (PySem.W.kitOne K (.ref (He.ga K "Lessen")) (.ref (He.ga K "Entry")) = some true),
  decide (PySem.W.kitOne K (.ref (He.ga K "Out")) (.ref (He.ga K "Entry")) = some true),
  tabB K (He.ga K "SIZES") [("give", .int 4), ("hold", .int 5), ("move", .int 5), ("spend", .int 4), ("promise", .int 5), ("lessen", .int 4), ("out", .int 4)],
  tabTB K (He.ga K "NUMBERS") [("give", [2]), ("hold", [2, 3]), ("move", [3]), ("spend", [2]), ("promise", [3]), ("lessen", [2]), ("out", [2])]]
def fxA (K : PySem.W.Frag) : List Bool := fxA_0 K ++ fxA_1 K ++ fxA_2 K ++ fxA_3 K ++ fxA_4 K ++ fxA_5 K ++ fxA_6 K ++ fxA_7 K ++ fxA_8 K
def tsA : List He.Tab := [(fun K => He.ga K "SIZES", ["give", "hold", "move", "spend", "promise", "lessen", "out"]), (fun K => He.ga K "NUMBERS", ["give", "hold", "move", "spend", "promise", "lessen", "out"])]
structure Tx (P : Program) (w : World) (K : PySem.W.Frag) (mg : Str → Option Value) (base : Heap) : Prop where
  g_is_whole : mg "is_whole" = some (.ref (He.ga K "is_whole"))
  g_within : mg "within" = some (.ref (He.ga K "within"))
  g_is_name : mg "is_name" = some (.ref (He.ga K "is_name"))
  g_number_in : mg "number_in" = some (.ref (He.ga K "number_in"))
  g_check : mg "check" = some (.ref (He.ga K "check"))
  g_check_entries : mg "check_entries" = some (.ref (He.ga K "check_entries"))
  g_check_coins : mg "check_coins" = some (.ref (He.ga K "check_coins"))
  g_read_entry : mg "read_entry" = some (.ref (He.ga K "read_entry"))
  g_check_texts : mg "check_texts" = some (.ref (He.ga K "check_texts"))
  g_number_of : mg "number_of" = some (.ref (He.ga K "number_of"))
  g_rows_of : mg "rows_of" = some (.ref (He.ga K "rows_of"))
  g_words_of : mg "words_of" = some (.ref (He.ga K "words_of"))
  g_row_text : mg "row_text" = some (.ref (He.ga K "row_text"))
  g_line_text : mg "line_text" = some (.ref (He.ga K "line_text"))
  g_lines_text : mg "lines_text" = some (.ref (He.ga K "lines_text"))
  g_told_of : mg "told_of" = some (.ref (He.ga K "told_of"))
  g_read_line : mg "read_line" = some (.ref (He.ga K "read_line"))
  g_read_lines : mg "read_lines" = some (.ref (He.ga K "read_lines"))
  g__law_cell_at : mg "_law_cell_at" = some (.ref (He.ga K "_law_cell_at"))
  g__law_well : mg "_law_well" = some (.ref (He.ga K "_law_well"))
  g__law_draw : mg "_law_draw" = some (.ref (He.ga K "_law_draw"))
  g__law_name : mg "_law_name" = some (.ref (He.ga K "_law_name"))
  g__law_names : mg "_law_names" = some (.ref (He.ga K "_law_names"))
  g__law_coins : mg "_law_coins" = some (.ref (He.ga K "_law_coins"))
  g__law_told : mg "_law_told" = some (.ref (He.ga K "_law_told"))
  g__law_far : mg "_law_far" = some (.ref (He.ga K "_law_far"))
  g__law_line : mg "_law_line" = some (.ref (He.ga K "_law_line"))
  g__law_line_text : mg "_law_line_text" = some (.ref (He.ga K "_law_line_text"))
  g__law_lines : mg "_law_lines" = some (.ref (He.ga K "_law_lines"))
  g_law : mg "law" = some (.ref (He.ga K "law"))
  g_PurseError : mg "PurseError" = some (.ref (He.ga K "PurseError"))
  g_NoEntry : mg "NoEntry" = some (.ref (He.ga K "NoEntry"))
  g_NoText : mg "NoText" = some (.ref (He.ga K "NoText"))
  g_Entry : mg "Entry" = some (.ref (He.ga K "Entry"))
  g_Give : mg "Give" = some (.ref (He.ga K "Give"))
  g_Hold : mg "Hold" = some (.ref (He.ga K "Hold"))
  g_Move : mg "Move" = some (.ref (He.ga K "Move"))
  g_Spend : mg "Spend" = some (.ref (He.ga K "Spend"))
  g_Promise : mg "Promise" = some (.ref (He.ga K "Promise"))
  g_Lessen : mg "Lessen" = some (.ref (He.ga K "Lessen"))
  g_Out : mg "Out" = some (.ref (He.ga K "Out"))
  g_LETTERS : ∃ t, mg "LETTERS" = some (.str "abcdefghijklmnopqrstuvwxyz" t)
  g_FIGURES : ∃ t, mg "FIGURES" = some (.str "0123456789" t)
  g_MOST_SIGNS : ∃ t, mg "MOST_SIGNS" = some (.int 8 t)
  g_MOST_FIGURES : ∃ t, mg "MOST_FIGURES" = some (.int 16 t)
  g_MOST_COINS : ∃ t, mg "MOST_COINS" = some (.int 1000000000000 t)
  g_LAST_UNTIL : ∃ t, mg "LAST_UNTIL" = some (.int 31 t)
  g_SIZES : mg "SIZES" = some (.ref (He.ga K "SIZES"))
  g_NUMBERS : mg "NUMBERS" = some (.ref (He.ga K "NUMBERS"))
  n_len : mg "len" = none
  n_isinstance : mg "isinstance" = none
  n_int : mg "int" = none
  n_str : mg "str" = none
  n_bool : mg "bool" = none
  n_range : mg "range" = none
  n_tuple : mg "tuple" = none
  n_list : mg "list" = none
  n_enumerate : mg "enumerate" = none
  x_PurseError : PySem.W.excIn K (He.ga K "PurseError") He.veBase "ValueError.__new__" = true ∧ PySem.W.keepIn K (.ref (He.ga K "PurseError")) = true ∧ PySem.W.subIn K (.ref (He.ga K "PurseError")) (.type "BaseException") = some true ∧ PySem.W.typeIn K (.ref (He.ga K "PurseError")) = some (.type "type")
  x_NoEntry : PySem.W.excIn K (He.ga K "NoEntry") He.veBase "ValueError.__new__" = true ∧ PySem.W.keepIn K (.ref (He.ga K "NoEntry")) = true ∧ PySem.W.subIn K (.ref (He.ga K "NoEntry")) (.type "BaseException") = some true ∧ PySem.W.typeIn K (.ref (He.ga K "NoEntry")) = some (.type "type")
  x_NoText : PySem.W.excIn K (He.ga K "NoText") He.veBase "ValueError.__new__" = true ∧ PySem.W.keepIn K (.ref (He.ga K "NoText")) = true ∧ PySem.W.subIn K (.ref (He.ga K "NoText")) (.type "BaseException") = some true ∧ PySem.W.typeIn K (.ref (He.ga K "NoText")) = some (.type "type")
  c_Entry : Cls K (He.ga K "Entry")
  i_Entry : InsK K (He.ga K "Entry")
  m_Entry_told : Meth K (He.ga K "Entry") "told" (He.ma K (He.ga K "Entry") "told")
  m_Entry_named : Meth K (He.ga K "Entry") "named" (He.ma K (He.ga K "Entry") "named")
  m_Entry_lasts : Meth K (He.ga K "Entry") "lasts" (He.ma K (He.ga K "Entry") "lasts")
  m_Entry_fits : Meth K (He.ga K "Entry") "fits" (He.ma K (He.ga K "Entry") "fits")
  c_Give : Cls K (He.ga K "Give")
  i_Give : InsK K (He.ga K "Give")
  a_Give_head : NoAttr K (He.ga K "Give") "head"
  a_Give_coins : NoAttr K (He.ga K "Give") "coins"
  a_Give_note : NoAttr K (He.ga K "Give") "note"
  a_Give_until : NoAttr K (He.ga K "Give") "until"
  a_Give_other : NoAttr K (He.ga K "Give") "other"
  a_Give_word : NoAttr K (He.ga K "Give") "word"
  mk_Give : Mk K (He.ga K "Give") (He.ma K (He.ga K "Give") "__init__")
  m_Give_told : Meth K (He.ga K "Give") "told" (He.ma K (He.ga K "Give") "told")
  m_Give_named : Meth K (He.ga K "Give") "named" (He.ma K (He.ga K "Give") "named")
  m_Give_lasts : Meth K (He.ga K "Give") "lasts" (He.ma K (He.ga K "Give") "lasts")
  m_Give_fits : Meth K (He.ga K "Give") "fits" (He.ma K (He.ga K "Give") "fits")
  c_Hold : Cls K (He.ga K "Hold")
  i_Hold : InsK K (He.ga K "Hold")
  a_Hold_head : NoAttr K (He.ga K "Hold") "head"
  a_Hold_coins : NoAttr K (He.ga K "Hold") "coins"
  a_Hold_note : NoAttr K (He.ga K "Hold") "note"
  a_Hold_until : NoAttr K (He.ga K "Hold") "until"
  a_Hold_other : NoAttr K (He.ga K "Hold") "other"
  a_Hold_word : NoAttr K (He.ga K "Hold") "word"
  mk_Hold : Mk K (He.ga K "Hold") (He.ma K (He.ga K "Hold") "__init__")
  m_Hold_told : Meth K (He.ga K "Hold") "told" (He.ma K (He.ga K "Hold") "told")
  m_Hold_named : Meth K (He.ga K "Hold") "named" (He.ma K (He.ga K "Hold") "named")
  m_Hold_lasts : Meth K (He.ga K "Hold") "lasts" (He.ma K (He.ga K "Hold") "lasts")
  m_Hold_fits : Meth K (He.ga K "Hold") "fits" (He.ma K (He.ga K "Hold") "fits")
  c_Move : Cls K (He.ga K "Move")
  i_Move : InsK K (He.ga K "Move")
  a_Move_head : NoAttr K (He.ga K "Move") "head"
  a_Move_coins : NoAttr K (He.ga K "Move") "coins"
  a_Move_note : NoAttr K (He.ga K "Move") "note"
  a_Move_until : NoAttr K (He.ga K "Move") "until"
  a_Move_other : NoAttr K (He.ga K "Move") "other"
  a_Move_word : NoAttr K (He.ga K "Move") "word"
  mk_Move : Mk K (He.ga K "Move") (He.ma K (He.ga K "Move") "__init__")
  m_Move_told : Meth K (He.ga K "Move") "told" (He.ma K (He.ga K "Move") "told")
  m_Move_named : Meth K (He.ga K "Move") "named" (He.ma K (He.ga K "Move") "named")
  m_Move_lasts : Meth K (He.ga K "Move") "lasts" (He.ma K (He.ga K "Move") "lasts")
  m_Move_fits : Meth K (He.ga K "Move") "fits" (He.ma K (He.ga K "Move") "fits")
  c_Spend : Cls K (He.ga K "Spend")
  i_Spend : InsK K (He.ga K "Spend")
  a_Spend_head : NoAttr K (He.ga K "Spend") "head"
  a_Spend_coins : NoAttr K (He.ga K "Spend") "coins"
  a_Spend_note : NoAttr K (He.ga K "Spend") "note"
  a_Spend_until : NoAttr K (He.ga K "Spend") "until"
  a_Spend_other : NoAttr K (He.ga K "Spend") "other"
  a_Spend_word : NoAttr K (He.ga K "Spend") "word"
  mk_Spend : Mk K (He.ga K "Spend") (He.ma K (He.ga K "Spend") "__init__")
  m_Spend_told : Meth K (He.ga K "Spend") "told" (He.ma K (He.ga K "Spend") "told")
  m_Spend_named : Meth K (He.ga K "Spend") "named" (He.ma K (He.ga K "Spend") "named")
  m_Spend_lasts : Meth K (He.ga K "Spend") "lasts" (He.ma K (He.ga K "Spend") "lasts")
  m_Spend_fits : Meth K (He.ga K "Spend") "fits" (He.ma K (He.ga K "Spend") "fits")
  c_Promise : Cls K (He.ga K "Promise")
  i_Promise : InsK K (He.ga K "Promise")
  a_Promise_head : NoAttr K (He.ga K "Promise") "head"
  a_Promise_coins : NoAttr K (He.ga K "Promise") "coins"
  a_Promise_note : NoAttr K (He.ga K "Promise") "note"
  a_Promise_until : NoAttr K (He.ga K "Promise") "until"
  a_Promise_other : NoAttr K (He.ga K "Promise") "other"
  a_Promise_word : NoAttr K (He.ga K "Promise") "word"
  mk_Promise : Mk K (He.ga K "Promise") (He.ma K (He.ga K "Promise") "__init__")
  m_Promise_told : Meth K (He.ga K "Promise") "told" (He.ma K (He.ga K "Promise") "told")
  m_Promise_named : Meth K (He.ga K "Promise") "named" (He.ma K (He.ga K "Promise") "named")
  m_Promise_lasts : Meth K (He.ga K "Promise") "lasts" (He.ma K (He.ga K "Promise") "lasts")
  m_Promise_fits : Meth K (He.ga K "Promise") "fits" (He.ma K (He.ga K "Promise") "fits")
  c_Lessen : Cls K (He.ga K "Lessen")
  i_Lessen : InsK K (He.ga K "Lessen")
  a_Lessen_head : NoAttr K (He.ga K "Lessen") "head"
  a_Lessen_coins : NoAttr K (He.ga K "Lessen") "coins"
  a_Lessen_note : NoAttr K (He.ga K "Lessen") "note"
  a_Lessen_until : NoAttr K (He.ga K "Lessen") "until"
  a_Lessen_other : NoAttr K (He.ga K "Lessen") "other"
  a_Lessen_word : NoAttr K (He.ga K "Lessen") "word"
  mk_Lessen : Mk K (He.ga K "Lessen") (He.ma K (He.ga K "Lessen") "__init__")
  m_Lessen_told : Meth K (He.ga K "Lessen") "told" (He.ma K (He.ga K "Lessen") "told")
  m_Lessen_named : Meth K (He.ga K "Lessen") "named" (He.ma K (He.ga K "Lessen") "named")
  m_Lessen_lasts : Meth K (He.ga K "Lessen") "lasts" (He.ma K (He.ga K "Lessen") "lasts")
  m_Lessen_fits : Meth K (He.ga K "Lessen") "fits" (He.ma K (He.ga K "Lessen") "fits")
  c_Out : Cls K (He.ga K "Out")
  i_Out : InsK K (He.ga K "Out")
  a_Out_head : NoAttr K (He.ga K "Out") "head"
  a_Out_coins : NoAttr K (He.ga K "Out") "coins"
  a_Out_note : NoAttr K (He.ga K "Out") "note"
  a_Out_until : NoAttr K (He.ga K "Out") "until"
  a_Out_other : NoAttr K (He.ga K "Out") "other"
  a_Out_word : NoAttr K (He.ga K "Out") "word"
  mk_Out : Mk K (He.ga K "Out") (He.ma K (He.ga K "Out") "__init__")
  m_Out_told : Meth K (He.ga K "Out") "told" (He.ma K (He.ga K "Out") "told")
  m_Out_named : Meth K (He.ga K "Out") "named" (He.ma K (He.ga K "Out") "named")
  m_Out_lasts : Meth K (He.ga K "Out") "lasts" (He.ma K (He.ga K "Out") "lasts")
  m_Out_fits : Meth K (He.ga K "Out") "fits" (He.ma K (He.ga K "Out") "fits")
  k_Give_Give : PySem.W.kitOne K (.ref (He.ga K "Give")) (.ref (He.ga K "Give")) = some true
  k_Give_Hold : PySem.W.kitOne K (.ref (He.ga K "Give")) (.ref (He.ga K "Hold")) = some false
  k_Give_Move : PySem.W.kitOne K (.ref (He.ga K "Give")) (.ref (He.ga K "Move")) = some false
  k_Give_Spend : PySem.W.kitOne K (.ref (He.ga K "Give")) (.ref (He.ga K "Spend")) = some false
  k_Give_Promise : PySem.W.kitOne K (.ref (He.ga K "Give")) (.ref (He.ga K "Promise")) = some false
  k_Give_Lessen : PySem.W.kitOne K (.ref (He.ga K "Give")) (.ref (He.ga K "Lessen")) = some false
  k_Give_Out : PySem.W.kitOne K (.ref (He.ga K "Give")) (.ref (He.ga K "Out")) = some false
  k_Hold_Give : PySem.W.kitOne K (.ref (He.ga K "Hold")) (.ref (He.ga K "Give")) = some false
  k_Hold_Hold : PySem.W.kitOne K (.ref (He.ga K "Hold")) (.ref (He.ga K "Hold")) = some true
  k_Hold_Move : PySem.W.kitOne K (.ref (He.ga K "Hold")) (.ref (He.ga K "Move")) = some false
  k_Hold_Spend : PySem.W.kitOne K (.ref (He.ga K "Hold")) (.ref (He.ga K "Spend")) = some false
  k_Hold_Promise : PySem.W.kitOne K (.ref (He.ga K "Hold")) (.ref (He.ga K "Promise")) = some false
  k_Hold_Lessen : PySem.W.kitOne K (.ref (He.ga K "Hold")) (.ref (He.ga K "Lessen")) = some false
  k_Hold_Out : PySem.W.kitOne K (.ref (He.ga K "Hold")) (.ref (He.ga K "Out")) = some false
  k_Move_Give : PySem.W.kitOne K (.ref (He.ga K "Move")) (.ref (He.ga K "Give")) = some false
  k_Move_Hold : PySem.W.kitOne K (.ref (He.ga K "Move")) (.ref (He.ga K "Hold")) = some false
  k_Move_Move : PySem.W.kitOne K (.ref (He.ga K "Move")) (.ref (He.ga K "Move")) = some true
  k_Move_Spend : PySem.W.kitOne K (.ref (He.ga K "Move")) (.ref (He.ga K "Spend")) = some false
  k_Move_Promise : PySem.W.kitOne K (.ref (He.ga K "Move")) (.ref (He.ga K "Promise")) = some false
  k_Move_Lessen : PySem.W.kitOne K (.ref (He.ga K "Move")) (.ref (He.ga K "Lessen")) = some false
  k_Move_Out : PySem.W.kitOne K (.ref (He.ga K "Move")) (.ref (He.ga K "Out")) = some false
  k_Spend_Give : PySem.W.kitOne K (.ref (He.ga K "Spend")) (.ref (He.ga K "Give")) = some false
  k_Spend_Hold : PySem.W.kitOne K (.ref (He.ga K "Spend")) (.ref (He.ga K "Hold")) = some false
  k_Spend_Move : PySem.W.kitOne K (.ref (He.ga K "Spend")) (.ref (He.ga K "Move")) = some false
  k_Spend_Spend : PySem.W.kitOne K (.ref (He.ga K "Spend")) (.ref (He.ga K "Spend")) = some true
  k_Spend_Promise : PySem.W.kitOne K (.ref (He.ga K "Spend")) (.ref (He.ga K "Promise")) = some false
  k_Spend_Lessen : PySem.W.kitOne K (.ref (He.ga K "Spend")) (.ref (He.ga K "Lessen")) = some false
  k_Spend_Out : PySem.W.kitOne K (.ref (He.ga K "Spend")) (.ref (He.ga K "Out")) = some false
  k_Promise_Give : PySem.W.kitOne K (.ref (He.ga K "Promise")) (.ref (He.ga K "Give")) = some false
  k_Promise_Hold : PySem.W.kitOne K (.ref (He.ga K "Promise")) (.ref (He.ga K "Hold")) = some false
  k_Promise_Move : PySem.W.kitOne K (.ref (He.ga K "Promise")) (.ref (He.ga K "Move")) = some false
  k_Promise_Spend : PySem.W.kitOne K (.ref (He.ga K "Promise")) (.ref (He.ga K "Spend")) = some false
  k_Promise_Promise : PySem.W.kitOne K (.ref (He.ga K "Promise")) (.ref (He.ga K "Promise")) = some true
  k_Promise_Lessen : PySem.W.kitOne K (.ref (He.ga K "Promise")) (.ref (He.ga K "Lessen")) = some false
  k_Promise_Out : PySem.W.kitOne K (.ref (He.ga K "Promise")) (.ref (He.ga K "Out")) = some false
  k_Lessen_Give : PySem.W.kitOne K (.ref (He.ga K "Lessen")) (.ref (He.ga K "Give")) = some false
  k_Lessen_Hold : PySem.W.kitOne K (.ref (He.ga K "Lessen")) (.ref (He.ga K "Hold")) = some false
  k_Lessen_Move : PySem.W.kitOne K (.ref (He.ga K "Lessen")) (.ref (He.ga K "Move")) = some false
  k_Lessen_Spend : PySem.W.kitOne K (.ref (He.ga K "Lessen")) (.ref (He.ga K "Spend")) = some false
  k_Lessen_Promise : PySem.W.kitOne K (.ref (He.ga K "Lessen")) (.ref (He.ga K "Promise")) = some false
  k_Lessen_Lessen : PySem.W.kitOne K (.ref (He.ga K "Lessen")) (.ref (He.ga K "Lessen")) = some true
  k_Lessen_Out : PySem.W.kitOne K (.ref (He.ga K "Lessen")) (.ref (He.ga K "Out")) = some false
  k_Out_Give : PySem.W.kitOne K (.ref (He.ga K "Out")) (.ref (He.ga K "Give")) = some false
  k_Out_Hold : PySem.W.kitOne K (.ref (He.ga K "Out")) (.ref (He.ga K "Hold")) = some false
  k_Out_Move : PySem.W.kitOne K (.ref (He.ga K "Out")) (.ref (He.ga K "Move")) = some false
  k_Out_Spend : PySem.W.kitOne K (.ref (He.ga K "Out")) (.ref (He.ga K "Spend")) = some false
  k_Out_Promise : PySem.W.kitOne K (.ref (He.ga K "Out")) (.ref (He.ga K "Promise")) = some false
  k_Out_Lessen : PySem.W.kitOne K (.ref (He.ga K "Out")) (.ref (He.ga K "Lessen")) = some false
  k_Out_Out : PySem.W.kitOne K (.ref (He.ga K "Out")) (.ref (He.ga K "Out")) = some true
  k_Give_Entry : PySem.W.kitOne K (.ref (He.ga K "Give")) (.ref (He.ga K "Entry")) = some true
  k_Hold_Entry : PySem.W.kitOne K (.ref (He.ga K "Hold")) (.ref (He.ga K "Entry")) = some true
  k_Move_Entry : PySem.W.kitOne K (.ref (He.ga K "Move")) (.ref (He.ga K "Entry")) = some true
  k_Spend_Entry : PySem.W.kitOne K (.ref (He.ga K "Spend")) (.ref (He.ga K "Entry")) = some true
  k_Promise_Entry : PySem.W.kitOne K (.ref (He.ga K "Promise")) (.ref (He.ga K "Entry")) = some true
  k_Lessen_Entry : PySem.W.kitOne K (.ref (He.ga K "Lessen")) (.ref (He.ga K "Entry")) = some true
  k_Out_Entry : PySem.W.kitOne K (.ref (He.ga K "Out")) (.ref (He.ga K "Entry")) = some true
  tb_SIZES : tabB K (He.ga K "SIZES") [("give", .int 4), ("hold", .int 5), ("move", .int 5), ("spend", .int 4), ("promise", .int 5), ("lessen", .int 4), ("out", .int 4)] = true
  tt_NUMBERS : tabTB K (He.ga K "NUMBERS") [("give", [2]), ("hold", [2, 3]), ("move", [3]), ("spend", [2]), ("promise", [3]), ("lessen", [2]), ("out", [2])] = true
  f_is_whole : ∃ fd, FunD K "is_whole" "is_whole" (defArgs s_is_whole) (defBody s_is_whole) (defScope s_is_whole) [] [] (He.fAd K ("is_whole", none)) fd
  f_within : ∃ fd, FunD K "within" "within" (defArgs s_within) (defBody s_within) (defScope s_within) [] [] (He.fAd K ("within", none)) fd
  f_is_name : ∃ fd, FunD K "is_name" "is_name" (defArgs s_is_name) (defBody s_is_name) (defScope s_is_name) [] [] (He.fAd K ("is_name", none)) fd
  f_number_in : ∃ fd, FunD K "number_in" "number_in" (defArgs s_number_in) (defBody s_number_in) (defScope s_number_in) [] [] (He.fAd K ("number_in", none)) fd
  f_check_entries : ∃ fd, FunD K "check" "check" (defArgs s_check_entries) (defBody s_check_entries) (defScope s_check_entries) [] [] (He.fAd K ("check_entries", none)) fd
  f_check_coins : ∃ fd, FunD K "check_coins" "check_coins" (defArgs s_check_coins) (defBody s_check_coins) (defScope s_check_coins) [] [] (He.fAd K ("check_coins", none)) fd
  f_Entry_told : ∃ fd, FunD K "told" "Entry.told" (defArgs s_Entry_told) (defBody s_Entry_told) (defScope s_Entry_told) [] [] (He.fAd K ("Entry", some "told")) fd
  f_Entry_named : ∃ fd, FunD K "named" "Entry.named" (defArgs s_Entry_named) (defBody s_Entry_named) (defScope s_Entry_named) [] [] (He.fAd K ("Entry", some "named")) fd
  f_Entry_lasts : ∃ fd, FunD K "lasts" "Entry.lasts" (defArgs s_Entry_lasts) (defBody s_Entry_lasts) (defScope s_Entry_lasts) [] [] (He.fAd K ("Entry", some "lasts")) fd
  f_Entry_fits : ∃ fd, FunD K "fits" "Entry.fits" (defArgs s_Entry_fits) (defBody s_Entry_fits) (defScope s_Entry_fits) [] [] (He.fAd K ("Entry", some "fits")) fd
  f_Give___init__ : ∃ fd, FunD K "__init__" "Give.__init__" (defArgs s_Give___init__) (defBody s_Give___init__) (defScope s_Give___init__) [] [] (He.fAd K ("Give", some "__init__")) fd
  f_Give_told : ∃ fd, FunD K "told" "Give.told" (defArgs s_Give_told) (defBody s_Give_told) (defScope s_Give_told) [] [] (He.fAd K ("Give", some "told")) fd
  f_Give_named : ∃ fd, FunD K "named" "Give.named" (defArgs s_Give_named) (defBody s_Give_named) (defScope s_Give_named) [] [] (He.fAd K ("Give", some "named")) fd
  f_Hold___init__ : ∃ fd, FunD K "__init__" "Hold.__init__" (defArgs s_Hold___init__) (defBody s_Hold___init__) (defScope s_Hold___init__) [] [] (He.fAd K ("Hold", some "__init__")) fd
  f_Hold_told : ∃ fd, FunD K "told" "Hold.told" (defArgs s_Hold_told) (defBody s_Hold_told) (defScope s_Hold_told) [] [] (He.fAd K ("Hold", some "told")) fd
  f_Hold_named : ∃ fd, FunD K "named" "Hold.named" (defArgs s_Hold_named) (defBody s_Hold_named) (defScope s_Hold_named) [] [] (He.fAd K ("Hold", some "named")) fd
  f_Hold_lasts : ∃ fd, FunD K "lasts" "Hold.lasts" (defArgs s_Hold_lasts) (defBody s_Hold_lasts) (defScope s_Hold_lasts) [] [] (He.fAd K ("Hold", some "lasts")) fd
  f_Move___init__ : ∃ fd, FunD K "__init__" "Move.__init__" (defArgs s_Move___init__) (defBody s_Move___init__) (defScope s_Move___init__) [] [] (He.fAd K ("Move", some "__init__")) fd
  f_Move_told : ∃ fd, FunD K "told" "Move.told" (defArgs s_Move_told) (defBody s_Move_told) (defScope s_Move_told) [] [] (He.fAd K ("Move", some "told")) fd
  f_Move_named : ∃ fd, FunD K "named" "Move.named" (defArgs s_Move_named) (defBody s_Move_named) (defScope s_Move_named) [] [] (He.fAd K ("Move", some "named")) fd
  f_Spend___init__ : ∃ fd, FunD K "__init__" "Spend.__init__" (defArgs s_Spend___init__) (defBody s_Spend___init__) (defScope s_Spend___init__) [] [] (He.fAd K ("Spend", some "__init__")) fd
  f_Spend_told : ∃ fd, FunD K "told" "Spend.told" (defArgs s_Spend_told) (defBody s_Spend_told) (defScope s_Spend_told) [] [] (He.fAd K ("Spend", some "told")) fd
  f_Spend_named : ∃ fd, FunD K "named" "Spend.named" (defArgs s_Spend_named) (defBody s_Spend_named) (defScope s_Spend_named) [] [] (He.fAd K ("Spend", some "named")) fd
  f_Promise___init__ : ∃ fd, FunD K "__init__" "Promise.__init__" (defArgs s_Promise___init__) (defBody s_Promise___init__) (defScope s_Promise___init__) [] [] (He.fAd K ("Promise", some "__init__")) fd
  f_Promise_told : ∃ fd, FunD K "told" "Promise.told" (defArgs s_Promise_told) (defBody s_Promise_told) (defScope s_Promise_told) [] [] (He.fAd K ("Promise", some "told")) fd
  f_Promise_named : ∃ fd, FunD K "named" "Promise.named" (defArgs s_Promise_named) (defBody s_Promise_named) (defScope s_Promise_named) [] [] (He.fAd K ("Promise", some "named")) fd
  f_Lessen___init__ : ∃ fd, FunD K "__init__" "Lessen.__init__" (defArgs s_Lessen___init__) (defBody s_Lessen___init__) (defScope s_Lessen___init__) [] [] (He.fAd K ("Lessen", some "__init__")) fd
  f_Lessen_told : ∃ fd, FunD K "told" "Lessen.told" (defArgs s_Lessen_told) (defBody s_Lessen_told) (defScope s_Lessen_told) [] [] (He.fAd K ("Lessen", some "told")) fd
  f_Out___init__ : ∃ fd, FunD K "__init__" "Out.__init__" (defArgs s_Out___init__) (defBody s_Out___init__) (defScope s_Out___init__) [] [] (He.fAd K ("Out", some "__init__")) fd
  f_Out_told : ∃ fd, FunD K "told" "Out.told" (defArgs s_Out_told) (defBody s_Out_told) (defScope s_Out_told) [] [] (He.fAd K ("Out", some "told")) fd
  f_read_entry : ∃ fd, FunD K "read_entry" "read_entry" (defArgs s_read_entry) (defBody s_read_entry) (defScope s_read_entry) [] [] (He.fAd K ("read_entry", none)) fd
  f_check_texts : ∃ fd, FunD K "check" "check" (defArgs s_check_texts) (defBody s_check_texts) (defScope s_check_texts) [] [] (He.fAd K ("check_texts", none)) fd
  f_number_of : ∃ fd, FunD K "number_of" "number_of" (defArgs s_number_of) (defBody s_number_of) (defScope s_number_of) [] [] (He.fAd K ("number_of", none)) fd
  f_rows_of : ∃ fd, FunD K "rows_of" "rows_of" (defArgs s_rows_of) (defBody s_rows_of) (defScope s_rows_of) [] [] (He.fAd K ("rows_of", none)) fd
  f_words_of : ∃ fd, FunD K "words_of" "words_of" (defArgs s_words_of) (defBody s_words_of) (defScope s_words_of) [] [] (He.fAd K ("words_of", none)) fd
  f_row_text : ∃ fd, FunD K "row_text" "row_text" (defArgs s_row_text) (defBody s_row_text) (defScope s_row_text) [] [] (He.fAd K ("row_text", none)) fd
  f_line_text : ∃ fd, FunD K "line_text" "line_text" (defArgs s_line_text) (defBody s_line_text) (defScope s_line_text) [] [] (He.fAd K ("line_text", none)) fd
  f_lines_text : ∃ fd, FunD K "lines_text" "lines_text" (defArgs s_lines_text) (defBody s_lines_text) (defScope s_lines_text) [] [] (He.fAd K ("lines_text", none)) fd
  f_told_of : ∃ fd, FunD K "told_of" "told_of" (defArgs s_told_of) (defBody s_told_of) (defScope s_told_of) [] [] (He.fAd K ("told_of", none)) fd
  f_read_line : ∃ fd, FunD K "read_line" "read_line" (defArgs s_read_line) (defBody s_read_line) (defScope s_read_line) [] [] (He.fAd K ("read_line", none)) fd
  f_read_lines : ∃ fd, FunD K "read_lines" "read_lines" (defArgs s_read_lines) (defBody s_read_lines) (defScope s_read_lines) [] [] (He.fAd K ("read_lines", none)) fd
  f_Lcell_at : ∃ fd, FunD K "_law_cell_at" "_law_cell_at" (defArgs s_Lcell_at) (defBody s_Lcell_at) (defScope s_Lcell_at) [] [] (He.fAd K ("_law_cell_at", none)) fd
  f_Lwell : ∃ fd, FunD K "_law_well" "_law_well" (defArgs s_Lwell) (defBody s_Lwell) (defScope s_Lwell) [] [] (He.fAd K ("_law_well", none)) fd
  f_Ldraw : ∃ fd, FunD K "_law_draw" "_law_draw" (defArgs s_Ldraw) (defBody s_Ldraw) (defScope s_Ldraw) [] [] (He.fAd K ("_law_draw", none)) fd
  f_Lname : ∃ fd, FunD K "_law_name" "_law_name" (defArgs s_Lname) (defBody s_Lname) (defScope s_Lname) [] [] (He.fAd K ("_law_name", none)) fd
  f_Lnames : ∃ fd, FunD K "_law_names" "_law_names" (defArgs s_Lnames) (defBody s_Lnames) (defScope s_Lnames) [] [] (He.fAd K ("_law_names", none)) fd
  f_Lcoins : ∃ fd, FunD K "_law_coins" "_law_coins" (defArgs s_Lcoins) (defBody s_Lcoins) (defScope s_Lcoins) [] [] (He.fAd K ("_law_coins", none)) fd
  f_Ltold : ∃ fd, FunD K "_law_told" "_law_told" (defArgs s_Ltold) (defBody s_Ltold) (defScope s_Ltold) [] [] (He.fAd K ("_law_told", none)) fd
  f_Lfar : ∃ fd, FunD K "_law_far" "_law_far" (defArgs s_Lfar) (defBody s_Lfar) (defScope s_Lfar) [] [] (He.fAd K ("_law_far", none)) fd
  f_Lline : ∃ fd, FunD K "_law_line" "_law_line" (defArgs s_Lline) (defBody s_Lline) (defScope s_Lline) [] [] (He.fAd K ("_law_line", none)) fd
  f_Lline_text : ∃ fd, FunD K "_law_line_text" "_law_line_text" (defArgs s_Lline_text) (defBody s_Lline_text) (defScope s_Lline_text) [] [] (He.fAd K ("_law_line_text", none)) fd
  f_Llines : ∃ fd, FunD K "_law_lines" "_law_lines" (defArgs s_Llines) (defBody s_Llines) (defScope s_Llines) [] [] (He.fAd K ("_law_lines", none)) fd
  f_law : ∃ fd, FunD K "law" "law" (defArgs s_law) (defBody s_law) (defScope s_law) [] [] (He.fAd K ("law", none)) fd
  d_SIZES : KTab K w (He.ga K "SIZES") [("give", .int 4), ("hold", .int 5), ("move", .int 5), ("spend", .int 4), ("promise", .int 5), ("lessen", .int 4), ("out", .int 4)]
  d_NUMBERS : KTabT K w (He.ga K "NUMBERS") [("give", [2]), ("hold", [2, 3]), ("move", [3]), ("spend", [2]), ("promise", [3]), ("lessen", [2]), ("out", [2])]
theorem tx_of {P : Program} {w : World} {K : PySem.W.Frag} {mg : Str → Option Value} {base h : Heap} (X : K.In h) (G : h.Ns mainGlobals mg) (c : SaysK fxA fnA tsA w K) : Tx P w K mg base where
  g_is_whole := He.glo_ok X G (c.fact 0)
  g_within := He.glo_ok X G (c.fact 1)
  g_is_name := He.glo_ok X G (c.fact 2)
  g_number_in := He.glo_ok X G (c.fact 3)
  g_check := He.glo_ok X G (c.fact 4)
  g_check_entries := He.glo_ok X G (c.fact 5)
  g_check_coins := He.glo_ok X G (c.fact 6)
  g_read_entry := He.glo_ok X G (c.fact 7)
  g_check_texts := He.glo_ok X G (c.fact 8)
  g_number_of := He.glo_ok X G (c.fact 9)
  g_rows_of := He.glo_ok X G (c.fact 10)
  g_words_of := He.glo_ok X G (c.fact 11)
  g_row_text := He.glo_ok X G (c.fact 12)
  g_line_text := He.glo_ok X G (c.fact 13)
  g_lines_text := He.glo_ok X G (c.fact 14)
  g_told_of := He.glo_ok X G (c.fact 15)
  g_read_line := He.glo_ok X G (c.fact 16)
  g_read_lines := He.glo_ok X G (c.fact 17)
  g__law_cell_at := He.glo_ok X G (c.fact 18)
  g__law_well := He.glo_ok X G (c.fact 19)
  g__law_draw := He.glo_ok X G (c.fact 20)
  g__law_name := He.glo_ok X G (c.fact 21)
  g__law_names := He.glo_ok X G (c.fact 22)
  g__law_coins := He.glo_ok X G (c.fact 23)
  g__law_told := He.glo_ok X G (c.fact 24)
  g__law_far := He.glo_ok X G (c.fact 25)
  g__law_line := He.glo_ok X G (c.fact 26)
  g__law_line_text := He.glo_ok X G (c.fact 27)
  g__law_lines := He.glo_ok X G (c.fact 28)
  g_law := He.glo_ok X G (c.fact 29)
  g_PurseError := He.glo_ok X G (c.fact 30)
  g_NoEntry := He.glo_ok X G (c.fact 31)
  g_NoText := He.glo_ok X G (c.fact 32)
  g_Entry := He.glo_ok X G (c.fact 33)
  g_Give := He.glo_ok X G (c.fact 34)
  g_Hold := He.glo_ok X G (c.fact 35)
  g_Move := He.glo_ok X G (c.fact 36)
  g_Spend := He.glo_ok X G (c.fact 37)
  g_Promise := He.glo_ok X G (c.fact 38)
  g_Lessen := He.glo_ok X G (c.fact 39)
  g_Out := He.glo_ok X G (c.fact 40)
  g_LETTERS := He.str_ok X G (c.fact 41)
  g_FIGURES := He.str_ok X G (c.fact 42)
  g_MOST_SIGNS := He.int_ok X G (c.fact 43)
  g_MOST_FIGURES := He.int_ok X G (c.fact 44)
  g_MOST_COINS := He.int_ok X G (c.fact 45)
  g_LAST_UNTIL := He.int_ok X G (c.fact 46)
  g_SIZES := He.glo_ok X G (c.fact 47)
  g_NUMBERS := He.glo_ok X G (c.fact 48)
  n_len := He.free_ok X G (c.fact 49)
  n_isinstance := He.free_ok X G (c.fact 50)
  n_int := He.free_ok X G (c.fact 51)
  n_str := He.free_ok X G (c.fact 52)
  n_bool := He.free_ok X G (c.fact 53)
  n_range := He.free_ok X G (c.fact 54)
  n_tuple := He.free_ok X G (c.fact 55)
  n_list := He.free_ok X G (c.fact 56)
  n_enumerate := He.free_ok X G (c.fact 57)
  x_PurseError := He.exc_ok (c.fact 58)
  x_NoEntry := He.exc_ok (c.fact 59)
  x_NoText := He.exc_ok (c.fact 60)
  c_Entry := He.cls_ok (c.fact 61)
  i_Entry := insB_ok (c.fact 62)
  m_Entry_told := He.meth_ok (c.fact 63)
  m_Entry_named := He.meth_ok (c.fact 64)
  m_Entry_lasts := He.meth_ok (c.fact 65)
  m_Entry_fits := He.meth_ok (c.fact 66)
  c_Give := He.cls_ok (c.fact 67)
  i_Give := insB_ok (c.fact 68)
  a_Give_head := He.noat_ok (c.fact 69)
  a_Give_coins := He.noat_ok (c.fact 70)
  a_Give_note := He.noat_ok (c.fact 71)
  a_Give_until := He.noat_ok (c.fact 72)
  a_Give_other := He.noat_ok (c.fact 73)
  a_Give_word := He.noat_ok (c.fact 74)
  mk_Give := He.mkr_ok (c.fact 75)
  m_Give_told := He.meth_ok (c.fact 76)
  m_Give_named := He.meth_ok (c.fact 77)
  m_Give_lasts := He.meth_ok (c.fact 78)
  m_Give_fits := He.meth_ok (c.fact 79)
  c_Hold := He.cls_ok (c.fact 80)
  i_Hold := insB_ok (c.fact 81)
  a_Hold_head := He.noat_ok (c.fact 82)
  a_Hold_coins := He.noat_ok (c.fact 83)
  a_Hold_note := He.noat_ok (c.fact 84)
  a_Hold_until := He.noat_ok (c.fact 85)
  a_Hold_other := He.noat_ok (c.fact 86)
  a_Hold_word := He.noat_ok (c.fact 87)
  mk_Hold := He.mkr_ok (c.fact 88)
  m_Hold_told := He.meth_ok (c.fact 89)
  m_Hold_named := He.meth_ok (c.fact 90)
  m_Hold_lasts := He.meth_ok (c.fact 91)
  m_Hold_fits := He.meth_ok (c.fact 92)
  c_Move := He.cls_ok (c.fact 93)
  i_Move := insB_ok (c.fact 94)
  a_Move_head := He.noat_ok (c.fact 95)
  a_Move_coins := He.noat_ok (c.fact 96)
  a_Move_note := He.noat_ok (c.fact 97)
  a_Move_until := He.noat_ok (c.fact 98)
  a_Move_other := He.noat_ok (c.fact 99)
  a_Move_word := He.noat_ok (c.fact 100)
  mk_Move := He.mkr_ok (c.fact 101)
  m_Move_told := He.meth_ok (c.fact 102)
  m_Move_named := He.meth_ok (c.fact 103)
  m_Move_lasts := He.meth_ok (c.fact 104)
  m_Move_fits := He.meth_ok (c.fact 105)
  c_Spend := He.cls_ok (c.fact 106)
  i_Spend := insB_ok (c.fact 107)
  a_Spend_head := He.noat_ok (c.fact 108)
  a_Spend_coins := He.noat_ok (c.fact 109)
  a_Spend_note := He.noat_ok (c.fact 110)
  a_Spend_until := He.noat_ok (c.fact 111)
  a_Spend_other := He.noat_ok (c.fact 112)
  a_Spend_word := He.noat_ok (c.fact 113)
  mk_Spend := He.mkr_ok (c.fact 114)
  m_Spend_told := He.meth_ok (c.fact 115)
  m_Spend_named := He.meth_ok (c.fact 116)
  m_Spend_lasts := He.meth_ok (c.fact 117)
  m_Spend_fits := He.meth_ok (c.fact 118)
  c_Promise := He.cls_ok (c.fact 119)
  i_Promise := insB_ok (c.fact 120)
  a_Promise_head := He.noat_ok (c.fact 121)
  a_Promise_coins := He.noat_ok (c.fact 122)
  a_Promise_note := He.noat_ok (c.fact 123)
  a_Promise_until := He.noat_ok (c.fact 124)
  a_Promise_other := He.noat_ok (c.fact 125)
  a_Promise_word := He.noat_ok (c.fact 126)
  mk_Promise := He.mkr_ok (c.fact 127)
  m_Promise_told := He.meth_ok (c.fact 128)
  m_Promise_named := He.meth_ok (c.fact 129)
  m_Promise_lasts := He.meth_ok (c.fact 130)
  m_Promise_fits := He.meth_ok (c.fact 131)
  c_Lessen := He.cls_ok (c.fact 132)
  i_Lessen := insB_ok (c.fact 133)
  a_Lessen_head := He.noat_ok (c.fact 134)
  a_Lessen_coins := He.noat_ok (c.fact 135)
  a_Lessen_note := He.noat_ok (c.fact 136)
  a_Lessen_until := He.noat_ok (c.fact 137)
  a_Lessen_other := He.noat_ok (c.fact 138)
  a_Lessen_word := He.noat_ok (c.fact 139)
  mk_Lessen := He.mkr_ok (c.fact 140)
  m_Lessen_told := He.meth_ok (c.fact 141)
  m_Lessen_named := He.meth_ok (c.fact 142)
  m_Lessen_lasts := He.meth_ok (c.fact 143)
  m_Lessen_fits := He.meth_ok (c.fact 144)
  c_Out := He.cls_ok (c.fact 145)
  i_Out := insB_ok (c.fact 146)
  a_Out_head := He.noat_ok (c.fact 147)
  a_Out_coins := He.noat_ok (c.fact 148)
  a_Out_note := He.noat_ok (c.fact 149)
  a_Out_until := He.noat_ok (c.fact 150)
  a_Out_other := He.noat_ok (c.fact 151)
  a_Out_word := He.noat_ok (c.fact 152)
  mk_Out := He.mkr_ok (c.fact 153)
  m_Out_told := He.meth_ok (c.fact 154)
  m_Out_named := He.meth_ok (c.fact 155)
  m_Out_lasts := He.meth_ok (c.fact 156)
  m_Out_fits := He.meth_ok (c.fact 157)
  k_Give_Give := of_decide_eq_true (c.fact 158)
  k_Give_Hold := of_decide_eq_true (c.fact 159)
  k_Give_Move := of_decide_eq_true (c.fact 160)
  k_Give_Spend := of_decide_eq_true (c.fact 161)
  k_Give_Promise := of_decide_eq_true (c.fact 162)
  k_Give_Lessen := of_decide_eq_true (c.fact 163)
  k_Give_Out := of_decide_eq_true (c.fact 164)
  k_Hold_Give := of_decide_eq_true (c.fact 165)
  k_Hold_Hold := of_decide_eq_true (c.fact 166)
  k_Hold_Move := of_decide_eq_true (c.fact 167)
  k_Hold_Spend := of_decide_eq_true (c.fact 168)
  k_Hold_Promise := of_decide_eq_true (c.fact 169)
  k_Hold_Lessen := of_decide_eq_true (c.fact 170)
  k_Hold_Out := of_decide_eq_true (c.fact 171)
  k_Move_Give := of_decide_eq_true (c.fact 172)
  k_Move_Hold := of_decide_eq_true (c.fact 173)
  k_Move_Move := of_decide_eq_true (c.fact 174)
  k_Move_Spend := of_decide_eq_true (c.fact 175)
  k_Move_Promise := of_decide_eq_true (c.fact 176)
  k_Move_Lessen := of_decide_eq_true (c.fact 177)
  k_Move_Out := of_decide_eq_true (c.fact 178)
  k_Spend_Give := of_decide_eq_true (c.fact 179)
  k_Spend_Hold := of_decide_eq_true (c.fact 180)
  k_Spend_Move := of_decide_eq_true (c.fact 181)
  k_Spend_Spend := of_decide_eq_true (c.fact 182)
  k_Spend_Promise := of_decide_eq_true (c.fact 183)
  k_Spend_Lessen := of_decide_eq_true (c.fact 184)
  k_Spend_Out := of_decide_eq_true (c.fact 185)
  k_Promise_Give := of_decide_eq_true (c.fact 186)
  k_Promise_Hold := of_decide_eq_true (c.fact 187)
  k_Promise_Move := of_decide_eq_true (c.fact 188)
  k_Promise_Spend := of_decide_eq_true (c.fact 189)
  k_Promise_Promise := of_decide_eq_true (c.fact 190)
  k_Promise_Lessen := of_decide_eq_true (c.fact 191)
  k_Promise_Out := of_decide_eq_true (c.fact 192)
  k_Lessen_Give := of_decide_eq_true (c.fact 193)
  k_Lessen_Hold := of_decide_eq_true (c.fact 194)
  k_Lessen_Move := of_decide_eq_true (c.fact 195)
  k_Lessen_Spend := of_decide_eq_true (c.fact 196)
  k_Lessen_Promise := of_decide_eq_true (c.fact 197)
  k_Lessen_Lessen := of_decide_eq_true (c.fact 198)
  k_Lessen_Out := of_decide_eq_true (c.fact 199)
  k_Out_Give := of_decide_eq_true (c.fact 200)
  k_Out_Hold := of_decide_eq_true (c.fact 201)
  k_Out_Move := of_decide_eq_true (c.fact 202)
  k_Out_Spend := of_decide_eq_true (c.fact 203)
  k_Out_Promise := of_decide_eq_true (c.fact 204)
  k_Out_Lessen := of_decide_eq_true (c.fact 205)
  k_Out_Out := of_decide_eq_true (c.fact 206)
  k_Give_Entry := of_decide_eq_true (c.fact 207)
  k_Hold_Entry := of_decide_eq_true (c.fact 208)
  k_Move_Entry := of_decide_eq_true (c.fact 209)
  k_Spend_Entry := of_decide_eq_true (c.fact 210)
  k_Promise_Entry := of_decide_eq_true (c.fact 211)
  k_Lessen_Entry := of_decide_eq_true (c.fact 212)
  k_Out_Entry := of_decide_eq_true (c.fact 213)
  tb_SIZES := c.fact 214
  tt_NUMBERS := c.fact 215
  f_is_whole := c.def_ 0 (d := dd_is_whole) rfl
  f_within := c.def_ 1 (d := dd_within) rfl
  f_is_name := c.def_ 2 (d := dd_is_name) rfl
  f_number_in := c.def_ 3 (d := dd_number_in) rfl
  f_check_entries := c.def_ 4 (d := dd_check_entries) rfl
  f_check_coins := c.def_ 5 (d := dd_check_coins) rfl
  f_Entry_told := c.def_ 6 (d := dd_Entry_told) rfl
  f_Entry_named := c.def_ 7 (d := dd_Entry_named) rfl
  f_Entry_lasts := c.def_ 8 (d := dd_Entry_lasts) rfl
  f_Entry_fits := c.def_ 9 (d := dd_Entry_fits) rfl
  f_Give___init__ := c.def_ 10 (d := dd_Give___init__) rfl
  f_Give_told := c.def_ 11 (d := dd_Give_told) rfl
  f_Give_named := c.def_ 12 (d := dd_Give_named) rfl
  f_Hold___init__ := c.def_ 13 (d := dd_Hold___init__) rfl
  f_Hold_told := c.def_ 14 (d := dd_Hold_told) rfl
  f_Hold_named := c.def_ 15 (d := dd_Hold_named) rfl
  f_Hold_lasts := c.def_ 16 (d := dd_Hold_lasts) rfl
  f_Move___init__ := c.def_ 17 (d := dd_Move___init__) rfl
  f_Move_told := c.def_ 18 (d := dd_Move_told) rfl
  f_Move_named := c.def_ 19 (d := dd_Move_named) rfl
  f_Spend___init__ := c.def_ 20 (d := dd_Spend___init__) rfl
  f_Spend_told := c.def_ 21 (d := dd_Spend_told) rfl
  f_Spend_named := c.def_ 22 (d := dd_Spend_named) rfl
  f_Promise___init__ := c.def_ 23 (d := dd_Promise___init__) rfl
  f_Promise_told := c.def_ 24 (d := dd_Promise_told) rfl
  f_Promise_named := c.def_ 25 (d := dd_Promise_named) rfl
  f_Lessen___init__ := c.def_ 26 (d := dd_Lessen___init__) rfl
  f_Lessen_told := c.def_ 27 (d := dd_Lessen_told) rfl
  f_Out___init__ := c.def_ 28 (d := dd_Out___init__) rfl
  f_Out_told := c.def_ 29 (d := dd_Out_told) rfl
  f_read_entry := c.def_ 30 (d := dd_read_entry) rfl
  f_check_texts := c.def_ 31 (d := dd_check_texts) rfl
  f_number_of := c.def_ 32 (d := dd_number_of) rfl
  f_rows_of := c.def_ 33 (d := dd_rows_of) rfl
  f_words_of := c.def_ 34 (d := dd_words_of) rfl
  f_row_text := c.def_ 35 (d := dd_row_text) rfl
  f_line_text := c.def_ 36 (d := dd_line_text) rfl
  f_lines_text := c.def_ 37 (d := dd_lines_text) rfl
  f_told_of := c.def_ 38 (d := dd_told_of) rfl
  f_read_line := c.def_ 39 (d := dd_read_line) rfl
  f_read_lines := c.def_ 40 (d := dd_read_lines) rfl
  f_Lcell_at := c.def_ 41 (d := dd_Lcell_at) rfl
  f_Lwell := c.def_ 42 (d := dd_Lwell) rfl
  f_Ldraw := c.def_ 43 (d := dd_Ldraw) rfl
  f_Lname := c.def_ 44 (d := dd_Lname) rfl
  f_Lnames := c.def_ 45 (d := dd_Lnames) rfl
  f_Lcoins := c.def_ 46 (d := dd_Lcoins) rfl
  f_Ltold := c.def_ 47 (d := dd_Ltold) rfl
  f_Lfar := c.def_ 48 (d := dd_Lfar) rfl
  f_Lline := c.def_ 49 (d := dd_Lline) rfl
  f_Lline_text := c.def_ 50 (d := dd_Lline_text) rfl
  f_Llines := c.def_ 51 (d := dd_Llines) rfl
  f_law := c.def_ 52 (d := dd_law) rfl
  d_SIZES := tabB_ok (c.fact 214) (c.tab 0)
  d_NUMBERS := tabTB_ok (c.fact 215) (c.tab 1)
end Kn

set_option Elab.async false
set_option linter.all false
set_option maxRecDepth 100000
set_option maxHeartbeats 0
namespace Kn
open PySem PySem.Spec PyProof.Rows L2
def sp_law (K : PySem.W.Frag) : Sp := fun vs H Q _ => ∃ (a : Addr) (ns : List Int), vs = [.ref a] ∧ SqL K H a (ns.map V.int) ∧ ns.length ≤ 63 ∧ (∀ z ∈ ns, Builtin.Int.intBits z ≤ 1048576) ∧ ∀ H', Q (.bl true) H'
abbrev Rw : PySem.W.OpenRow := PySem.W.OpenLaw.row PySem.Challenge.rw_knotpurse_k84_lines_as_text
def looseN : List PySem.Str := (["PurseError", "NoEntry", "NoText", "LETTERS", "FIGURES", "MOST_SIGNS", "MOST_FIGURES", "is_whole", "within", "is_name", "number_in", "MOST_COINS", "LAST_UNTIL", "SIZES", "check", "check_entries", "check_coins", "Entry", "Give", "Hold", "Move", "Spend", "Promise", "Lessen", "Out", "read_entry", "NUMBERS", "check_texts", "number_of", "rows_of"] : List PySem.Str) ++ (["words_of", "row_text", "line_text", "lines_text", "told_of", "read_line", "read_lines", "_law_cell_at", "_law_well", "_law_draw", "_law_name", "_law_names", "_law_coins", "_law_told", "_law_far", "_law_line", "_law_line_text", "_law_lines"] : List PySem.Str)
abbrev hkA : PySem.W.Hook := hookK 6 fxA fnA tsA
def obA (s : PySem.W.SharedT) : AlK := obsKG 6 fxA fnA tsA (HandSHeadRun.getT s)
theorem obA_eq (s : PySem.W.SharedT) : obA s = hkA.obs s.abs := obsKG_eq (HandSHeadRun.getT_eq s)
theorem run_false (w : World) : HandSHeadRun.RunEq Rw (PySem.W.view Rw.prog [54]) hkA obA 14000 looseN (w.withFollow "special-get-raises" false) := by
  intro os
  kernel_rfl
theorem run_true (w : World) : HandSHeadRun.RunEq Rw (PySem.W.view Rw.prog [54]) hkA obA 14000 looseN (w.withFollow "special-get-raises" true) := by
  intro os
  kernel_rfl
theorem runHd (w : World) : HandSHeadRun.RunEq Rw (PySem.W.view Rw.prog [54]) hkA obA 14000 looseN w := PySem.W.byRow2 "special-get-raises" run_false run_true w
theorem closeA (F : ∀ (w : World) (K : PySem.W.Frag) (mg : Str → Option Value) (base : Heap), Tx (PySem.Challenge.rw_knotpurse_k84_lines_as_text).prog w K mg base → DefOk (PySem.Challenge.rw_knotpurse_k84_lines_as_text).prog w K mg base 10 ("law", none) ["_law_script"] (sp_law K)) : PySem.Challenge.rw_knotpurse_k84_lines_as_text.Holds := by
  w_on; o_law
  refine HandSHeadRun.head_any (r := Rw) (q := PySem.W.view Rw.prog [54]) (H := hkA) (ob := obA) (M := 14000) (loose := looseN) (d := HandSHeadRun.topDef Rw.prog 54) (kwd := []) obA_eq
    (by kernel_rfl) (fun s => by kernel_rfl) runHd (by kernel_rfl) (by kernel_rfl) (by kernel_rfl) (by rfl) (by first | assumption | decide +kernel) (by decide +kernel) ⟨rfl, rfl, rfl, rfl, rfl, by decide +kernel⟩ ?hw ?hc
  case hw => w_witness2
  case hc =>
    refine walkK (l := PySem.Challenge.rw_knotpurse_k84_lines_as_text) (n := 63) (k := 10) (x := "_law_script") rfl (by decide) (by kernel_rfl) ⟨rfl, by decide, by decide⟩ ?_
    intro w mg fa h Y G hmg0
    obtain ⟨K, KX, c⟩ := Y
    have hmg : mg ("law" : PySem.Str) = some (.ref fa) := by
      have e : (HandSHeadRun.topDef Rw.prog 54).name = ("law" : PySem.Str) := by kernel_rfl
      rw [← e]
      exact hmg0
    have T : ∀ base, Tx (PySem.Challenge.rw_knotpurse_k84_lines_as_text).prog w K mg base := fun base => tx_of KX G c
    have e := hmg.symm.trans (T default).g_law
    cases e
    obtain ⟨fd, F0⟩ := (T default).f_law
    have b := FunD.bindsA (ps := ["_law_script"]) F0 fun _ _ _ _ _ _ us hl => match us, hl with | [_], _ => rfl
    refine ⟨K, fd, sp_law K, KX, fun s v => b s [v] rfl, fun H a ns hl hb _ hS => ⟨a, ns, rfl, hS, hl, hb, fun _ => rfl⟩, fun base _ _ => ?_⟩
    obtain ⟨⟨fd2, F2, _, oc, od, osl, lk⟩, _⟩ := F w K mg base (T base)
    obtain ⟨_, _, _, _, _, _, _, _, _, _, _, lk2, _⟩ := F0.ex
    rw [lk2] at lk
    injection lk with e2
    injection e2 with _ _ e3 _
    injection e3 with e4
    rw [e4]
    exact F2
end Kn

set_option Elab.async false
set_option linter.all false
set_option maxRecDepth 100000
set_option maxHeartbeats 40000000
set_option pp.maxSteps 400
namespace Kn
open PySem PySem.Spec PyProof.Rows L2
local macro_rules | `(tactic| walk_at "e1") => `(tactic| first
  | with_reducible refine w_seq ?_
  | with_reducible refine w_next ?_
  | with_reducible refine w_brk ?_
  | with_reducible refine w_cont ?_
  | with_reducible refine w_drop ?_
  | with_reducible refine w_ret ?_
  | with_reducible refine w_ifs ?_
  | with_reducible refine w_asg ?_
  | with_reducible refine w_nm ?_
  | with_reducible refine w_c ?_
  | with_reducible refine w_op ?_
  | with_reducible refine w_un ?_
  | with_reducible refine w_chain ?_
  | with_reducible refine w_test ?_
  | with_reducible refine w_and ?_
  | with_reducible refine w_or ?_
  | with_reducible refine w_not ?_
  | with_reducible refine w_yes ?_
  | with_reducible refine w_andV ?_
  | with_reducible refine w_orV ?_
  | with_reducible refine w_notV ?_
  | with_reducible refine w_ifE ?_
  | with_reducible refine w_nil ?_
  | with_reducible refine w_cons ?_
  | with_reducible refine w_tup ?_
  | with_reducible refine w_lst ?_
  | with_reducible refine w_cb ?_
  | with_reducible refine w_call ?_
  | with_reducible refine w_make ?_
  | with_reducible refine w_meth ?_
  | with_reducible refine w_fld ?_
  | with_reducible refine w_sfld ?_
  | with_reducible refine w_raise ?_
  | with_reducible refine w_try ?_
  | with_reducible refine w_gsq ?_
  | with_reducible refine w_gsb ?_
  | with_reducible refine w_isT ?_
  | with_reducible refine w_bm ?_
  | with_reducible refine w_bm0 ?_
  | with_reducible refine w_m0 ?_
  | with_reducible refine w_sl ?_
  | with_reducible refine w_part ?_
  | with_reducible refine w_nop ?_
  | with_reducible refine w_rev ?_
  | with_reducible refine w_isq ?_
  | with_reducible refine w_r1 ?_
  | with_reducible refine w_r2 ?_
  | with_reducible refine w_r3 ?_
  | with_reducible refine w_thru ?_
  | with_reducible refine w_en ?_
  | with_reducible refine w_kgT ?_
  | with_reducible refine w_ends ?_
  | with_reducible refine w_ist ?_
  | with_reducible refine w_for ?_
  | with_reducible refine w_lc ?_
  | with_reducible refine w_blP ?_
  | with_reducible refine w_intP ?_
  | with_reducible refine w_strP ?_
  | with_reducible refine w_strE ?_
  | with_reducible refine w_addI ?_
  | with_reducible refine w_ii ?_
  | with_reducible refine w_neg ?_
  | with_reducible refine w_eqI ?_
  | with_reducible refine w_eqS ?_
  | with_reducible refine w_neI ?_
  | with_reducible refine w_neS ?_
  | with_reducible refine w_is ?_
  | with_reducible refine w_isN ?_
  | with_reducible refine w_slS ?_
  | with_reducible refine w_lenS ?_
  | with_reducible refine w_lenT ?_
  | with_reducible refine w_lenL ?_
  | with_reducible refine w_lenC ?_
  | with_reducible refine w_int1b ?_
  | with_reducible refine w_int1i ?_
  | with_reducible refine w_strip ?_
  | with_reducible refine w_lock ?_
  | with_reducible refine w_dget ?_
  | with_reducible refine w_din ?_
  | with_reducible refine w_dget2 ?_
  | with_reducible refine w_dpn ?_
  | with_reducible refine w_dpc ?_
  | with_reducible refine w_disp ?_
  | with_reducible refine w_ivals ?_
  | with_reducible refine w_par ?_
  | with_reducible refine w_dgv ?_
  | with_reducible refine w_revS ?_
  | with_reducible refine w_max2 ?_
  | with_reducible refine w_min2 ?_
  | with_reducible refine w_var rfl ?_
  | with_reducible refine w_gcn ?_
  | with_reducible refine w_gnl ?_
  | with_reducible refine iteT ?_
  | with_reducible refine iteF ?_
  | with_reducible refine ite_not ?_
  | with_reducible refine w_ixT atI_zero ?_
  | with_reducible refine w_ixL atI_zero ?_
  | with_reducible refine w_kg ?_
  | ((with_reducible refine w_ixT (d := ?dd) ?hi ?_); case hi => rfl)
  | ((with_reducible refine w_ixL (d := ?dd) ?hi ?_); case hi => rfl)
  | ((with_reducible refine w_isi_str ?hk ?_); case hk => rfl)
  | ((with_reducible refine w_isi_int ?hk ?_); case hk => rfl)
  | ((with_reducible refine w_isi_bool ?hk ?_); case hk => rfl)
  | ((with_reducible refine w_isi_tuple ?hk ?_); case hk => rfl)
  | ((with_reducible refine w_isi_list ?hk ?_); case hk => rfl)
  | ((with_reducible refine w_fldI (v := ?dd) ?hf ?_); case hf => rfl)
  | ((with_reducible refine w_lenok ?hl ?_); case hl => exact Nat.le_of_ble_eq_true rfl)
  | ((with_reducible refine w_tym ?hl ?_); case hl => exact rfl))
local macro_rules | `(tactic| walk_at "e") => `(tactic| repeat walk_at "e1")
local macro_rules | `(tactic| walk_at "d1") => `(tactic| first
  | walk_at "e1"
  | with_reducible refine w_gv_non ?_
  | with_reducible refine w_gv_bl ?_
  | with_reducible refine w_gv_int ?_
  | with_reducible refine w_gv_str ?_
  | with_reducible refine w_gv_tup ?_
  | with_reducible refine w_gv_lst ?_
  | with_reducible refine w_gv_ins ?_)
local macro_rules | `(tactic| walk_at "d") => `(tactic| repeat walk_at "d1")

section
variable {w : World} {P : Program} {mg : Str → Option Value} {K : PySem.W.Frag} {base : Heap}
@[reducible] def wholeD : DV → Bool
  | .int _ => true
  | _ => false
def withD (x : DV) (lo hi : Int) : Bool := match x with
  | .int i => decide (lo ≤ i) && decide (i ≤ hi)
  | _ => false
def nameD : DV → Bool
  | .str s => nameS s
  | _ => false
def sp_is_whole (_K : PySem.W.Frag) : Spd := fun ds st Q _ => ∃ x, ds = [x] ∧ knD x = true ∧ Q (.bl (wholeD x)) st
def sp_within (_K : PySem.W.Frag) : Spd := fun ds st Q _ => ∃ x lo hi, ds = [x, .int lo, .int hi] ∧ knD x = true ∧ Q (.bl (withD x lo hi)) st
def sp_is_name (_K : PySem.W.Frag) : Spd := fun ds st Q _ => ∃ x, ds = [x] ∧ knD x = true ∧ Q (.bl (nameD x)) st

theorem ok_is_whole (T : Tx P w K mg base) : DefOk P w K mg base 1 ("is_whole", none) ["thing"] (spOf K (sp_is_whole K)) := by
  refine mkOkD T.f_is_whole sc_is_whole (fun ds st Q E h => ?_) (fun _ _ _ _ _ _ us hl => match us, hl with | [_], _ => rfl) (fun cdv A outer s H E hr ds st Q Ed h => ?_)
  · obtain ⟨x, rfl, hk, k⟩ := h
    rfl
  · obtain ⟨x, rfl, hk, k⟩ := h
    refine ⟨_, (dss_one (ds_ret (d_and (d_callB (kIsiD rfl) rfl T.n_isinstance (by decide +kernel) (da_cons (d_var (pv 0)) (da_cons (d_c (kbT (n := "int") T.n_int (by decide +kernel)) fun _ => .ty _) da_nil))) (d_one (d_not (d_callB (kIsiD rfl) rfl T.n_isinstance (by decide +kernel) (da_cons (d_var (pv 0)) (da_cons (d_c (kbT (n := "bool") T.n_bool (by decide +kernel)) fun _ => .ty _) da_nil)))))))), .inl ?_⟩
    cases x <;> first | (cases hk; done) | (walk_at "d"; exact k)

theorem ok_within (T : Tx P w K mg base) : DefOk P w K mg base 2 ("within", none) ["thing", "least", "most"] (spOf K (sp_within K)) := by
  refine mkOkD T.f_within sc_within (fun ds st Q E h => ?_) (fun _ _ _ _ _ _ us hl => match us, hl with | [_, _, _], _ => rfl) (fun cdv A outer s H E hr ds st Q Ed h => ?_)
  · obtain ⟨x, lo, hi, rfl, hk, k⟩ := h
    rfl
  · obtain ⟨x, lo, hi, rfl, hk, k⟩ := h
    refine ⟨_, (dss_one (ds_ret (d_and (d_call (takes_of rfl rfl rfl rfl) (ok_is_whole (K := K) T) T.g_is_whole (hr.mono (by decide)) (da_cons (d_var (pv 0)) da_nil)) (d_one (d_chain kLeD kLeD (d_var (pv 1)) (d_var (pv 0)) (d_var (pv 2))))))), .inl ?_⟩
    walk_at "d"
    refine ⟨x, rfl, hk, ?_⟩
    walk_at "d"
    cases x with
    | int i =>
      walk_at "d"
      by_cases h : lo ≤ i
      · rw [decide_eq_true h]
        walk_at "d"
        simpa [withD, h] using k
      · rw [decide_eq_false h]
        walk_at "d"
        simpa [withD, h] using k
    | _ =>
      walk_at "d"
      exact k

theorem ok_is_name (T : Tx P w K mg base) : DefOk P w K mg base 1 ("is_name", none) ["thing"] (spOf K (sp_is_name K)) := by
  refine mkOkD T.f_is_name sc_is_name (fun ds st Q E h => ?_) (fun _ _ _ _ _ _ us hl => match us, hl with | [_], _ => rfl) (fun cdv A outer s H E hr ds st Q Ed h => ?_)
  · obtain ⟨x, rfl, hk, k⟩ := h
    rfl
  · obtain ⟨x, rfl, hk, k⟩ := h
    refine ⟨_, (dss_cons (ds_if (dw_1 (dw_or (dt_not (dt_val (d_callB (kIsiD rfl) rfl T.n_isinstance (by decide +kernel) (da_cons (d_var (pv 0)) (da_cons (d_c (kbT (n := "str") T.n_str (by decide +kernel)) fun _ => .ty _) da_nil))))) (dw_or (dt_cmp (kEqD rfl hr) (d_var (pv 0)) (d_str (by decide +kernel)) (nomark _)) (dw_or1 (dt_cmp kGtD (d_callB (kLenD rfl) rfl T.n_len (by decide +kernel) (da_cons (d_var (pv 0)) da_nil)) (d_c (kgI T.g_MOST_SIGNS) fun _ => .int _) (nomark _)))))) (dss_one (ds_ret d_bl)) dss_nil)
      (dss_one (ds_ret (d_cmp (kEqD rfl hr) (d_bm rfl PySem.F.plainAttrs_str PySem.F.slot_str_strip PySem.F.type_str_strip kStripD (d_var (pv 0)) (da_cons (d_c (kgS T.g_LETTERS) fun _ => .str _ (by decide +kernel)) da_nil)) (d_str (by decide +kernel)) (nomark _))))), .inl ?_⟩
    cases x with
    | str z =>
      walk_at "d"
      by_cases e : z = ""
      · rw [decide_eq_true e]
        walk_at "d"
        simpa [nameD, nameS, e] using k
      · rw [decide_eq_false e]
        walk_at "d"
        by_cases e2 : (8 : Int) < (z.length : Int)
        · rw [decide_eq_true e2]
          walk_at "d"
          simpa [nameD, nameS, e, e2] using k
        · rw [decide_eq_false e2]
          walk_at "d"
          have e3 : nameD (.str z) = decide (Txt.stripChars z LET = "") := by
            show (!decide (z = "") && (!decide ((8 : Int) < z.length) && decide (Txt.stripChars z LET = ""))) = _
            rw [decide_eq_false e, decide_eq_false e2]
            rfl
          rw [e3] at k
          exact k
    | _ =>
      first | (cases hk; done) | (walk_at "d"; exact k)
end
end Kn

set_option Elab.async false
set_option linter.all false
set_option maxRecDepth 100000
set_option maxHeartbeats 40000000
set_option pp.maxSteps 400
namespace Kn
open PySem PySem.Spec PyProof.Rows L2
local macro_rules | `(tactic| walk_at "e1") => `(tactic| first
  | with_reducible refine w_seq ?_
  | with_reducible refine w_next ?_
  | with_reducible refine w_brk ?_
  | with_reducible refine w_cont ?_
  | with_reducible refine w_drop ?_
  | with_reducible refine w_ret ?_
  | with_reducible refine w_ifs ?_
  | with_reducible refine w_asg ?_
  | with_reducible refine w_nm ?_
  | with_reducible refine w_c ?_
  | with_reducible refine w_op ?_
  | with_reducible refine w_un ?_
  | with_reducible refine w_chain ?_
  | with_reducible refine w_test ?_
  | with_reducible refine w_and ?_
  | with_reducible refine w_or ?_
  | with_reducible refine w_not ?_
  | with_reducible refine w_yes ?_
  | with_reducible refine w_andV ?_
  | with_reducible refine w_orV ?_
  | with_reducible refine w_notV ?_
  | with_reducible refine w_ifE ?_
  | with_reducible refine w_nil ?_
  | with_reducible refine w_cons ?_
  | with_reducible refine w_tup ?_
  | with_reducible refine w_lst ?_
  | with_reducible refine w_cb ?_
  | with_reducible refine w_call ?_
  | with_reducible refine w_make ?_
  | with_reducible refine w_meth ?_
  | with_reducible refine w_fld ?_
  | with_reducible refine w_sfld ?_
  | with_reducible refine w_raise ?_
  | with_reducible refine w_try ?_
  | with_reducible refine w_gsq ?_
  | with_reducible refine w_gsb ?_
  | with_reducible refine w_isT ?_
  | with_reducible refine w_bm ?_
  | with_reducible refine w_bm0 ?_
  | with_reducible refine w_m0 ?_
  | with_reducible refine w_sl ?_
  | with_reducible refine w_part ?_
  | with_reducible refine w_nop ?_
  | with_reducible refine w_rev ?_
  | with_reducible refine w_isq ?_
  | with_reducible refine w_r1 ?_
  | with_reducible refine w_r2 ?_
  | with_reducible refine w_r3 ?_
  | with_reducible refine w_thru ?_
  | with_reducible refine w_en ?_
  | with_reducible refine w_kgT ?_
  | with_reducible refine w_ends ?_
  | with_reducible refine w_ist ?_
  | with_reducible refine w_for ?_
  | with_reducible refine w_lc ?_
  | with_reducible refine w_blP ?_
  | with_reducible refine w_intP ?_
  | with_reducible refine w_strP ?_
  | with_reducible refine w_strE ?_
  | with_reducible refine w_addI ?_
  | with_reducible refine w_ii ?_
  | with_reducible refine w_neg ?_
  | with_reducible refine w_eqI ?_
  | with_reducible refine w_eqS ?_
  | with_reducible refine w_neI ?_
  | with_reducible refine w_neS ?_
  | with_reducible refine w_is ?_
  | with_reducible refine w_isN ?_
  | with_reducible refine w_slS ?_
  | with_reducible refine w_lenS ?_
  | with_reducible refine w_lenT ?_
  | with_reducible refine w_lenL ?_
  | with_reducible refine w_lenC ?_
  | with_reducible refine w_int1b ?_
  | with_reducible refine w_int1i ?_
  | with_reducible refine w_strip ?_
  | with_reducible refine w_lock ?_
  | with_reducible refine w_dget ?_
  | with_reducible refine w_din ?_
  | with_reducible refine w_dget2 ?_
  | with_reducible refine w_dpn ?_
  | with_reducible refine w_dpc ?_
  | with_reducible refine w_disp ?_
  | with_reducible refine w_ivals ?_
  | with_reducible refine w_par ?_
  | with_reducible refine w_dgv ?_
  | with_reducible refine w_revS ?_
  | with_reducible refine w_max2 ?_
  | with_reducible refine w_min2 ?_
  | with_reducible refine w_var rfl ?_
  | with_reducible refine w_gcn ?_
  | with_reducible refine w_gnl ?_
  | with_reducible refine iteT ?_
  | with_reducible refine iteF ?_
  | with_reducible refine ite_not ?_
  | with_reducible refine w_ixT atI_zero ?_
  | with_reducible refine w_ixL atI_zero ?_
  | with_reducible refine w_kg ?_
  | ((with_reducible refine w_ixT (d := ?dd) ?hi ?_); case hi => rfl)
  | ((with_reducible refine w_ixL (d := ?dd) ?hi ?_); case hi => rfl)
  | ((with_reducible refine w_isi_str ?hk ?_); case hk => rfl)
  | ((with_reducible refine w_isi_int ?hk ?_); case hk => rfl)
  | ((with_reducible refine w_isi_bool ?hk ?_); case hk => rfl)
  | ((with_reducible refine w_isi_tuple ?hk ?_); case hk => rfl)
  | ((with_reducible refine w_isi_list ?hk ?_); case hk => rfl)
  | ((with_reducible refine w_fldI (v := ?dd) ?hf ?_); case hf => rfl)
  | ((with_reducible refine w_lenok ?hl ?_); case hl => exact Nat.le_of_ble_eq_true rfl)
  | ((with_reducible refine w_tym ?hl ?_); case hl => exact rfl))
local macro_rules | `(tactic| walk_at "e") => `(tactic| repeat walk_at "e1")
local macro_rules | `(tactic| walk_at "d1") => `(tactic| first
  | walk_at "e1"
  | with_reducible refine w_gv_non ?_
  | with_reducible refine w_gv_bl ?_
  | with_reducible refine w_gv_int ?_
  | with_reducible refine w_gv_str ?_
  | with_reducible refine w_gv_tup ?_
  | with_reducible refine w_gv_lst ?_
  | with_reducible refine w_gv_ins ?_)
local macro_rules | `(tactic| walk_at "d") => `(tactic| repeat walk_at "d1")

section
variable {w : World} {P : Program} {mg : Str → Option Value} {K : PySem.W.Frag} {base : Heap}
def coinsD (c n : DV) : Bool := withD c 1 1000000000000 && sKB n && (deq n (.str "") || nameD n)
def sp_check_entries (K : PySem.W.Frag) : Spd := fun ds st Q E => ∃ b, ds = [.bl b] ∧ (b = true → Q .non st) ∧ (b = false → E ⟨He.ga K "NoEntry", [], []⟩ st)
def sp_check_coins (K : PySem.W.Frag) : Spd := fun ds st Q E => ∃ c n, ds = [c, n] ∧ knD c = true ∧ knD n = true ∧ (coinsD c n = true → Q .non st) ∧ (coinsD c n = false → E ⟨He.ga K "NoEntry", [], []⟩ st)
theorem nameD_str {x : DV} (h : nameD x = true) : ∃ s, x = .str s := by
  cases x with
  | str s => exact ⟨s, rfl⟩
  | _ => cases h

theorem ok_check_entries (T : Tx P w K mg base) : DefOk P w K mg base 1 ("check_entries", none) ["good"] (spOf K (sp_check_entries K)) := by
  refine mkOkD T.f_check_entries sc_check_entries (fun ds st Q E h => ?_) (fun _ _ _ _ _ _ us hl => match us, hl with | [_], _ => rfl) (fun cdv A outer s H E hr ds st Q Ed h => ?_)
  · obtain ⟨b, rfl, k1, k2⟩ := h
    rfl
  · obtain ⟨b, rfl, k1, k2⟩ := h
    refine ⟨_, (dss_one (ds_if (dt_not (dt_val (d_var (pv 0)))) (dss_one (ds_raise rfl (takes_of rfl rfl rfl rfl) (pmk_own PySem.F.excBase_ValueError T.x_NoEntry.1 T.g_NoEntry T.x_NoEntry.2.1 (raises_own T.x_NoEntry.2.2.1 T.x_NoEntry.2.2.2) (by exact rfl)))) dss_nil)), .inl ?_⟩
    walk_at "d"
    cases b with
    | true =>
      walk_at "d"
      exact k1 rfl
    | false =>
      walk_at "d"
      exact ⟨_, Sub.refl _, k2 rfl⟩

theorem ok_check_coins (T : Tx P w K mg base) : DefOk P w K mg base 3 ("check_coins", none) ["coins", "note"] (spOf K (sp_check_coins K)) := by
  refine mkOkD T.f_check_coins sc_check_coins (fun ds st Q E h => ?_) (fun _ _ _ _ _ _ us hl => match us, hl with | [_, _], _ => rfl) (fun cdv A outer s H E hr ds st Q Ed h => ?_)
  · obtain ⟨c, n, rfl, hc, hn, k1, k2⟩ := h
    rfl
  · obtain ⟨c, n, rfl, hc, hn, k1, k2⟩ := h
    refine ⟨_, (dss_cons (ds_expr (d_call (takes_of rfl rfl rfl rfl) (ok_check_entries (K := K) T) T.g_check_entries (hr.mono (by decide)) (da_cons (d_and (d_call (takes_of rfl rfl rfl rfl) (ok_within (K := K) T) T.g_within (hr.mono (by decide)) (da_cons (d_var (pv 0)) (da_cons d_int (da_cons (d_c (kgI T.g_MOST_COINS) fun _ => .int _) da_nil)))) (d_one (d_callB (kIsiD rfl) rfl T.n_isinstance (by decide +kernel) (da_cons (d_var (pv 1)) (da_cons (d_c (kbT (n := "str") T.n_str (by decide +kernel)) fun _ => .ty _) da_nil))))) da_nil)))
      (dss_one (ds_expr (d_call (takes_of rfl rfl rfl rfl) (ok_check_entries (K := K) T) T.g_check_entries (hr.mono (by decide)) (da_cons (d_or (d_cmp (kEqD rfl hr) (d_var (pv 1)) (d_str (by decide +kernel)) (nomark _)) (d_one (d_call (takes_of rfl rfl rfl rfl) (ok_is_name (K := K) T) T.g_is_name (hr.mono (by decide)) (da_cons (d_var (pv 1)) da_nil)))) da_nil))))), .inl ?_⟩
    walk_at "d"
    refine ⟨c, 1, 1000000000000, rfl, hc, ?_⟩
    walk_at "d"
    cases e : withD c 1 1000000000000 with
    | false =>
      walk_at "d"
      exact ⟨false, rfl, (fun z => nomatch z), fun _ => ⟨_, Sub.refl _, k2 (by simp [coinsD, e])⟩⟩
    | true =>
      walk_at "d"
      refine w_isi_str hn ?_
      refine ⟨sKB n, rfl, fun hb => ?_, fun hb => ⟨_, Sub.refl _, k2 (by simp [coinsD, hb])⟩⟩
      cases n with
      | str z =>
        walk_at "d"
        by_cases e2 : z = ""
        · rw [decide_eq_true e2]
          walk_at "d"
          refine ⟨true, rfl, fun _ => ⟨_, _, .refl, k1 ?_⟩, (fun z => nomatch z)⟩
          rw [coinsD, e, deq_str, decide_eq_true e2]; rfl
        · rw [decide_eq_false e2]
          walk_at "d"
          refine ⟨_, rfl, hn, ?_⟩
          walk_at "d"
          refine ⟨_, rfl, fun hb2 => ⟨_, _, .refl, k1 ?_⟩, fun hb2 => ⟨_, Sub.refl _, k2 ?_⟩⟩
          · rw [coinsD, e, deq_str, decide_eq_false e2, hb2]; rfl
          · rw [coinsD, e, deq_str, decide_eq_false e2, hb2]; rfl
      | _ => cases hb

def okGiveD (h c n : DV) : Bool := nameD h && coinsD c n
def sp_Give___init__ (K : PySem.W.Frag) : Spd := fun ds st Q E => ∃ p h c n, ds = [.ref p, h, c, n] ∧ st p = some (.ins (He.ga K "Give") [] []) ∧ knD h = true ∧ knD c = true ∧ knD n = true ∧
  (okGiveD h c n = true → Q .non (sset st p (.ins (He.ga K "Give") ["head", "coins", "note"] [h, c, n]))) ∧ (okGiveD h c n = false → E ⟨He.ga K "NoEntry", [], []⟩ st)
def sp_Give_told (K : PySem.W.Frag) : Spd := fun ds st Q _ => ∃ h c n, ds = [.ins (He.ga K "Give") ["head", "coins", "note"] [h, c, n]] ∧ Q (.tup [.str "give", h, c, n]) st

theorem ok_Give___init__ (T : Tx P w K mg base) : DefOk P w K mg base 4 ("Give", some "__init__") ["self", "head", "coins", "note"] (spOf K (sp_Give___init__ K)) := by
  refine mkOkD T.f_Give___init__ sc_Give___init__ (fun ds st Q E h => ?_) (fun _ _ _ _ _ _ us hl => match us, hl with | [_, _, _, _], _ => rfl) (fun cdv A outer s H E hr ds st Q Ed h => ?_)
  · obtain ⟨p, h, c, n, rfl, hp, yh, yc, yn, k1, k2⟩ := h
    rfl
  · obtain ⟨p, h, c, n, rfl, hp, yh, yc, yn, k1, k2⟩ := h
    refine ⟨_, (dss_cons (ds_expr (d_call (takes_of rfl rfl rfl rfl) (ok_check_entries (K := K) T) T.g_check_entries (hr.mono (by decide)) (da_cons (d_call (takes_of rfl rfl rfl rfl) (ok_is_name (K := K) T) T.g_is_name (hr.mono (by decide)) (da_cons (d_var (pv 1)) da_nil)) da_nil)))
      (dss_cons (ds_expr (d_call (takes_of rfl rfl rfl rfl) (ok_check_coins (K := K) T) T.g_check_coins (hr.mono (by decide)) (da_cons (d_var (pv 2)) (da_cons (d_var (pv 3)) da_nil))))
      (dss_cons (ds_fld rfl (d_var (pv 0)) (d_var (pv 1)) rfl)
      (dss_cons (ds_fld rfl (d_var (pv 0)) (d_var (pv 2)) rfl)
      (dss_one (ds_fld rfl (d_var (pv 0)) (d_var (pv 3)) rfl)))))), .inl ?_⟩
    walk_at "d"
    refine ⟨h, rfl, yh, ?_⟩
    walk_at "d"
    cases e : nameD h with
    | false =>
      exact ⟨false, rfl, (fun z => nomatch z), fun _ => ⟨_, Sub.refl _, k2 (by simp [okGiveD, e])⟩⟩
    | true =>
      refine ⟨true, rfl, fun _ => ?_, (fun z => nomatch z)⟩
      walk_at "d"
      refine ⟨c, n, rfl, yc, yn, fun hc2 => ?_, fun hc2 => ⟨_, Sub.refl _, k2 (by simp [okGiveD, e, hc2])⟩⟩
      walk_at "d"
      refine ⟨p, He.ga K "Give", [], [], rfl, hp, T.a_Give_head, by decide, ?_⟩
      skip
      walk_at "d"
      refine ⟨p, He.ga K "Give", ["head"], [h], rfl, sset_same, T.a_Give_coins, by decide, ?_⟩
      rw [sset_sset]
      walk_at "d"
      refine ⟨p, He.ga K "Give", ["head", "coins"], [h, c], rfl, sset_same, T.a_Give_note, by decide, ?_⟩
      rw [sset_sset]
      walk_at "d"
      exact k1 (by simp [okGiveD, e, hc2])

theorem ok_Give_told (T : Tx P w K mg base) : DefOk P w K mg base 1 ("Give", some "told") ["self"] (spOf K (sp_Give_told K)) := by
  refine mkOkD T.f_Give_told sc_Give_told (fun ds st Q E h => ?_) (fun _ _ _ _ _ _ us hl => match us, hl with | [_], _ => rfl) (fun cdv A outer s H E hr ds st Q Ed h => ?_)
  · obtain ⟨h, c, n, rfl, k⟩ := h
    rfl
  · obtain ⟨h, c, n, rfl, k⟩ := h
    refine ⟨_, (dss_one (ds_ret (d_tup (da_cons (d_str (by decide +kernel)) (da_cons (d_fld rfl (d_var (pv 0)) rfl) (da_cons (d_fld rfl (d_var (pv 0)) rfl) (da_cons (d_fld rfl (d_var (pv 0)) rfl) da_nil))))))), .inl ?_⟩
    walk_at "d"
    exact k

theorem mk_Give {h c n : DV} {st : Sto} {Q : KD} {ex : KX} (yh : knD h = true) (yc : knD c = true) (yn : knD n = true) (k1 : okGiveD h c n = true → Q (.ins (He.ga K "Give") ["head", "coins", "note"] [h, c, n]) st) (k2 : okGiveD h c n = false → ex ⟨He.ga K "NoEntry", [], []⟩ st) :
    ∀ m, st m = none → sp_Give___init__ K (.ref m :: [h, c, n]) (sset st m (.ins (He.ga K "Give") [] [])) (fun v s2 => v = .non ∧ NewI m s2 Q) (fun x s2 => ex x (sdel s2 m)) := by
  intro m hm
  refine ⟨m, h, c, n, rfl, sset_same, yh, yc, yn, fun h => ⟨rfl, .inr ⟨_, _, _, sset_same, ?_⟩⟩, fun h => ?_⟩
  · rw [sset_sset, sdel_set hm]
    exact k1 h
  · show ex _ (sdel (sset st m _) m)
    rw [sdel_set hm]
    exact k2 h

def okHoldD (h c u n : DV) : Bool := (nameD h && withD u 2 31) && coinsD c n
def sp_Hold___init__ (K : PySem.W.Frag) : Spd := fun ds st Q E => ∃ p h c u n, ds = [.ref p, h, c, u, n] ∧ st p = some (.ins (He.ga K "Hold") [] []) ∧ knD h = true ∧ knD c = true ∧ knD u = true ∧ knD n = true ∧
  (okHoldD h c u n = true → Q .non (sset st p (.ins (He.ga K "Hold") ["head", "coins", "until", "note"] [h, c, u, n]))) ∧ (okHoldD h c u n = false → E ⟨He.ga K "NoEntry", [], []⟩ st)
def sp_Hold_told (K : PySem.W.Frag) : Spd := fun ds st Q _ => ∃ h c u n, ds = [.ins (He.ga K "Hold") ["head", "coins", "until", "note"] [h, c, u, n]] ∧ Q (.tup [.str "hold", h, c, u, n]) st

theorem ok_Hold___init__ (T : Tx P w K mg base) : DefOk P w K mg base 4 ("Hold", some "__init__") ["self", "head", "coins", "until", "note"] (spOf K (sp_Hold___init__ K)) := by
  refine mkOkD T.f_Hold___init__ sc_Hold___init__ (fun ds st Q E h => ?_) (fun _ _ _ _ _ _ us hl => match us, hl with | [_, _, _, _, _], _ => rfl) (fun cdv A outer s H E hr ds st Q Ed h => ?_)
  · obtain ⟨p, h, c, u, n, rfl, hp, yh, yc, yu, yn, k1, k2⟩ := h
    rfl
  · obtain ⟨p, h, c, u, n, rfl, hp, yh, yc, yu, yn, k1, k2⟩ := h
    refine ⟨_, (dss_cons (ds_expr (d_call (takes_of rfl rfl rfl rfl) (ok_check_entries (K := K) T) T.g_check_entries (hr.mono (by decide)) (da_cons (d_and (d_call (takes_of rfl rfl rfl rfl) (ok_is_name (K := K) T) T.g_is_name (hr.mono (by decide)) (da_cons (d_var (pv 1)) da_nil)) (d_one (d_call (takes_of rfl rfl rfl rfl) (ok_within (K := K) T) T.g_within (hr.mono (by decide)) (da_cons (d_var (pv 3)) (da_cons d_int (da_cons (d_c (kgI T.g_LAST_UNTIL) fun _ => .int _) da_nil)))))) da_nil)))
      (dss_cons (ds_expr (d_call (takes_of rfl rfl rfl rfl) (ok_check_coins (K := K) T) T.g_check_coins (hr.mono (by decide)) (da_cons (d_var (pv 2)) (da_cons (d_var (pv 4)) da_nil))))
      (dss_cons (ds_fld rfl (d_var (pv 0)) (d_var (pv 1)) rfl)
      (dss_cons (ds_fld rfl (d_var (pv 0)) (d_var (pv 2)) rfl)
      (dss_cons (ds_fld rfl (d_var (pv 0)) (d_var (pv 3)) rfl)
      (dss_one (ds_fld rfl (d_var (pv 0)) (d_var (pv 4)) rfl))))))), .inl ?_⟩
    walk_at "d"
    refine ⟨h, rfl, yh, ?_⟩
    walk_at "d"
    cases e : nameD h with
    | false =>
      walk_at "d"
      exact ⟨false, rfl, (fun z => nomatch z), fun _ => ⟨_, Sub.refl _, k2 (by simp [okHoldD, e])⟩⟩
    | true =>
      walk_at "d"
      refine ⟨u, 2, 31, rfl, yu, ?_⟩
      walk_at "d"
      cases e2 : withD u 2 31 with
      | false => exact ⟨false, rfl, (fun z => nomatch z), fun _ => ⟨_, Sub.refl _, k2 (by simp [okHoldD, e, e2])⟩⟩
      | true =>
        refine ⟨true, rfl, fun _ => ?_, (fun z => nomatch z)⟩
        walk_at "d"
        refine ⟨c, n, rfl, yc, yn, fun hc2 => ?_, fun hc2 => ⟨_, Sub.refl _, k2 (by simp [okHoldD, e, e2, hc2])⟩⟩
        walk_at "d"
        refine ⟨p, He.ga K "Hold", [], [], rfl, hp, T.a_Hold_head, by decide, ?_⟩
        skip
        walk_at "d"
        refine ⟨p, He.ga K "Hold", ["head"], [h], rfl, sset_same, T.a_Hold_coins, by decide, ?_⟩
        rw [sset_sset]
        walk_at "d"
        refine ⟨p, He.ga K "Hold", ["head", "coins"], [h, c], rfl, sset_same, T.a_Hold_until, by decide, ?_⟩
        rw [sset_sset]
        walk_at "d"
        refine ⟨p, He.ga K "Hold", ["head", "coins", "until"], [h, c, u], rfl, sset_same, T.a_Hold_note, by decide, ?_⟩
        rw [sset_sset]
        walk_at "d"
        exact k1 (by simp [okHoldD, e, e2, hc2])

theorem ok_Hold_told (T : Tx P w K mg base) : DefOk P w K mg base 1 ("Hold", some "told") ["self"] (spOf K (sp_Hold_told K)) := by
  refine mkOkD T.f_Hold_told sc_Hold_told (fun ds st Q E h => ?_) (fun _ _ _ _ _ _ us hl => match us, hl with | [_], _ => rfl) (fun cdv A outer s H E hr ds st Q Ed h => ?_)
  · obtain ⟨h, c, u, n, rfl, k⟩ := h
    rfl
  · obtain ⟨h, c, u, n, rfl, k⟩ := h
    refine ⟨_, (dss_one (ds_ret (d_tup (da_cons (d_str (by decide +kernel)) (da_cons (d_fld rfl (d_var (pv 0)) rfl) (da_cons (d_fld rfl (d_var (pv 0)) rfl) (da_cons (d_fld rfl (d_var (pv 0)) rfl) (da_cons (d_fld rfl (d_var (pv 0)) rfl) da_nil)))))))), .inl ?_⟩
    walk_at "d"
    exact k

theorem mk_Hold {h c u n : DV} {st : Sto} {Q : KD} {ex : KX} (yh : knD h = true) (yc : knD c = true) (yu : knD u = true) (yn : knD n = true) (k1 : okHoldD h c u n = true → Q (.ins (He.ga K "Hold") ["head", "coins", "until", "note"] [h, c, u, n]) st) (k2 : okHoldD h c u n = false → ex ⟨He.ga K "NoEntry", [], []⟩ st) :
    ∀ m, st m = none → sp_Hold___init__ K (.ref m :: [h, c, u, n]) (sset st m (.ins (He.ga K "Hold") [] [])) (fun v s2 => v = .non ∧ NewI m s2 Q) (fun x s2 => ex x (sdel s2 m)) := by
  intro m hm
  refine ⟨m, h, c, u, n, rfl, sset_same, yh, yc, yu, yn, fun h => ⟨rfl, .inr ⟨_, _, _, sset_same, ?_⟩⟩, fun h => ?_⟩
  · rw [sset_sset, sdel_set hm]
    exact k1 h
  · show ex _ (sdel (sset st m _) m)
    rw [sdel_set hm]
    exact k2 h

def okMoveD (h o c n : DV) : Bool := (nameD h && (nameD o && !deq h o)) && coinsD c n
def sp_Move___init__ (K : PySem.W.Frag) : Spd := fun ds st Q E => ∃ p h o c n, ds = [.ref p, h, o, c, n] ∧ st p = some (.ins (He.ga K "Move") [] []) ∧ knD h = true ∧ knD o = true ∧ knD c = true ∧ knD n = true ∧
  (okMoveD h o c n = true → Q .non (sset st p (.ins (He.ga K "Move") ["head", "other", "coins", "note"] [h, o, c, n]))) ∧ (okMoveD h o c n = false → E ⟨He.ga K "NoEntry", [], []⟩ st)
def sp_Move_told (K : PySem.W.Frag) : Spd := fun ds st Q _ => ∃ h o c n, ds = [.ins (He.ga K "Move") ["head", "other", "coins", "note"] [h, o, c, n]] ∧ Q (.tup [.str "move", h, o, c, n]) st

theorem ok_Move___init__ (T : Tx P w K mg base) : DefOk P w K mg base 4 ("Move", some "__init__") ["self", "head", "other", "coins", "note"] (spOf K (sp_Move___init__ K)) := by
  refine mkOkD T.f_Move___init__ sc_Move___init__ (fun ds st Q E h => ?_) (fun _ _ _ _ _ _ us hl => match us, hl with | [_, _, _, _, _], _ => rfl) (fun cdv A outer s H E hr ds st Q Ed h => ?_)
  · obtain ⟨p, h, o, c, n, rfl, hp, yh, yo, yc, yn, k1, k2⟩ := h
    rfl
  · obtain ⟨p, h, o, c, n, rfl, hp, yh, yo, yc, yn, k1, k2⟩ := h
    refine ⟨_, (dss_cons (ds_expr (d_call (takes_of rfl rfl rfl rfl) (ok_check_entries (K := K) T) T.g_check_entries (hr.mono (by decide)) (da_cons (d_and (d_call (takes_of rfl rfl rfl rfl) (ok_is_name (K := K) T) T.g_is_name (hr.mono (by decide)) (da_cons (d_var (pv 1)) da_nil)) (d_and (d_call (takes_of rfl rfl rfl rfl) (ok_is_name (K := K) T) T.g_is_name (hr.mono (by decide)) (da_cons (d_var (pv 2)) da_nil)) (d_one (d_cmp (kNeD rfl hr) (d_var (pv 1)) (d_var (pv 2)) (nomark _))))) da_nil)))
      (dss_cons (ds_expr (d_call (takes_of rfl rfl rfl rfl) (ok_check_coins (K := K) T) T.g_check_coins (hr.mono (by decide)) (da_cons (d_var (pv 3)) (da_cons (d_var (pv 4)) da_nil))))
      (dss_cons (ds_fld rfl (d_var (pv 0)) (d_var (pv 1)) rfl)
      (dss_cons (ds_fld rfl (d_var (pv 0)) (d_var (pv 2)) rfl)
      (dss_cons (ds_fld rfl (d_var (pv 0)) (d_var (pv 3)) rfl)
      (dss_one (ds_fld rfl (d_var (pv 0)) (d_var (pv 4)) rfl))))))), .inl ?_⟩
    walk_at "d"
    refine ⟨h, rfl, yh, ?_⟩
    walk_at "d"
    cases e : nameD h with
    | false =>
      walk_at "d"
      exact ⟨false, rfl, (fun z => nomatch z), fun _ => ⟨_, Sub.refl _, k2 (by simp [okMoveD, e])⟩⟩
    | true =>
      walk_at "d"
      refine ⟨o, rfl, yo, ?_⟩
      walk_at "d"
      cases e2 : nameD o with
      | false =>
        walk_at "d"
        exact ⟨false, rfl, (fun z => nomatch z), fun _ => ⟨_, Sub.refl _, k2 (by simp [okMoveD, e, e2])⟩⟩
      | true =>
        walk_at "d"
        obtain ⟨a, rfl⟩ := nameD_str e
        obtain ⟨b, rfl⟩ := nameD_str e2
        walk_at "d"
        cases e3 : decide (a = b) with
        | true =>
          exact ⟨false, rfl, (fun z => nomatch z), fun _ => ⟨_, Sub.refl _, k2 (by simp [okMoveD, e, e2, deq_str, of_decide_eq_true e3])⟩⟩
        | false =>
          refine ⟨true, rfl, fun _ => ?_, (fun z => nomatch z)⟩
          walk_at "d"
          refine ⟨c, n, rfl, yc, yn, fun hc2 => ?_, fun hc2 => ⟨_, Sub.refl _, k2 (by rw [okMoveD, e, e2, deq_str, e3, hc2]; rfl)⟩⟩
          walk_at "d"
          refine ⟨p, He.ga K "Move", [], [], rfl, hp, T.a_Move_head, by decide, ?_⟩
          skip
          walk_at "d"
          refine ⟨p, He.ga K "Move", ["head"], [.str a], rfl, sset_same, T.a_Move_other, by decide, ?_⟩
          rw [sset_sset]
          walk_at "d"
          refine ⟨p, He.ga K "Move", ["head", "other"], [.str a, .str b], rfl, sset_same, T.a_Move_coins, by decide, ?_⟩
          rw [sset_sset]
          walk_at "d"
          refine ⟨p, He.ga K "Move", ["head", "other", "coins"], [.str a, .str b, c], rfl, sset_same, T.a_Move_note, by decide, ?_⟩
          rw [sset_sset]
          walk_at "d"
          exact k1 (by rw [okMoveD, e, e2, deq_str, e3, hc2]; rfl)

theorem ok_Move_told (T : Tx P w K mg base) : DefOk P w K mg base 1 ("Move", some "told") ["self"] (spOf K (sp_Move_told K)) := by
  refine mkOkD T.f_Move_told sc_Move_told (fun ds st Q E h => ?_) (fun _ _ _ _ _ _ us hl => match us, hl with | [_], _ => rfl) (fun cdv A outer s H E hr ds st Q Ed h => ?_)
  · obtain ⟨h, o, c, n, rfl, k⟩ := h
    rfl
  · obtain ⟨h, o, c, n, rfl, k⟩ := h
    refine ⟨_, (dss_one (ds_ret (d_tup (da_cons (d_str (by decide +kernel)) (da_cons (d_fld rfl (d_var (pv 0)) rfl) (da_cons (d_fld rfl (d_var (pv 0)) rfl) (da_cons (d_fld rfl (d_var (pv 0)) rfl) (da_cons (d_fld rfl (d_var (pv 0)) rfl) da_nil)))))))), .inl ?_⟩
    walk_at "d"
    exact k

theorem mk_Move {h o c n : DV} {st : Sto} {Q : KD} {ex : KX} (yh : knD h = true) (yo : knD o = true) (yc : knD c = true) (yn : knD n = true) (k1 : okMoveD h o c n = true → Q (.ins (He.ga K "Move") ["head", "other", "coins", "note"] [h, o, c, n]) st) (k2 : okMoveD h o c n = false → ex ⟨He.ga K "NoEntry", [], []⟩ st) :
    ∀ m, st m = none → sp_Move___init__ K (.ref m :: [h, o, c, n]) (sset st m (.ins (He.ga K "Move") [] [])) (fun v s2 => v = .non ∧ NewI m s2 Q) (fun x s2 => ex x (sdel s2 m)) := by
  intro m hm
  refine ⟨m, h, o, c, n, rfl, sset_same, yh, yo, yc, yn, fun h => ⟨rfl, .inr ⟨_, _, _, sset_same, ?_⟩⟩, fun h => ?_⟩
  · rw [sset_sset, sdel_set hm]
    exact k1 h
  · show ex _ (sdel (sset st m _) m)
    rw [sdel_set hm]
    exact k2 h

def okSpendD (h c n : DV) : Bool := nameD h && coinsD c n
def sp_Spend___init__ (K : PySem.W.Frag) : Spd := fun ds st Q E => ∃ p h c n, ds = [.ref p, h, c, n] ∧ st p = some (.ins (He.ga K "Spend") [] []) ∧ knD h = true ∧ knD c = true ∧ knD n = true ∧
  (okSpendD h c n = true → Q .non (sset st p (.ins (He.ga K "Spend") ["head", "coins", "note"] [h, c, n]))) ∧ (okSpendD h c n = false → E ⟨He.ga K "NoEntry", [], []⟩ st)
def sp_Spend_told (K : PySem.W.Frag) : Spd := fun ds st Q _ => ∃ h c n, ds = [.ins (He.ga K "Spend") ["head", "coins", "note"] [h, c, n]] ∧ Q (.tup [.str "spend", h, c, n]) st

theorem ok_Spend___init__ (T : Tx P w K mg base) : DefOk P w K mg base 4 ("Spend", some "__init__") ["self", "head", "coins", "note"] (spOf K (sp_Spend___init__ K)) := by
  refine mkOkD T.f_Spend___init__ sc_Spend___init__ (fun ds st Q E h => ?_) (fun _ _ _ _ _ _ us hl => match us, hl with | [_, _, _, _], _ => rfl) (fun cdv A outer s H E hr ds st Q Ed h => ?_)
  · obtain ⟨p, h, c, n, rfl, hp, yh, yc, yn, k1, k2⟩ := h
    rfl
  · obtain ⟨p, h, c, n, rfl, hp, yh, yc, yn, k1, k2⟩ := h
    refine ⟨_, (dss_cons (ds_expr (d_call (takes_of rfl rfl rfl rfl) (ok_check_entries (K := K) T) T.g_check_entries (hr.mono (by decide)) (da_cons (d_call (takes_of rfl rfl rfl rfl) (ok_is_name (K := K) T) T.g_is_name (hr.mono (by decide)) (da_cons (d_var (pv 1)) da_nil)) da_nil)))
      (dss_cons (ds_expr (d_call (takes_of rfl rfl rfl rfl) (ok_check_coins (K := K) T) T.g_check_coins (hr.mono (by decide)) (da_cons (d_var (pv 2)) (da_cons (d_var (pv 3)) da_nil))))
      (dss_cons (ds_fld rfl (d_var (pv 0)) (d_var (pv 1)) rfl)
      (dss_cons (ds_fld rfl (d_var (pv 0)) (d_var (pv 2)) rfl)
      (dss_one (ds_fld rfl (d_var (pv 0)) (d_var (pv 3)) rfl)))))), .inl ?_⟩
    walk_at "d"
    refine ⟨h, rfl, yh, ?_⟩
    walk_at "d"
    cases e : nameD h with
    | false =>
      exact ⟨false, rfl, (fun z => nomatch z), fun _ => ⟨_, Sub.refl _, k2 (by simp [okSpendD, e])⟩⟩
    | true =>
      refine ⟨true, rfl, fun _ => ?_, (fun z => nomatch z)⟩
      walk_at "d"
      refine ⟨c, n, rfl, yc, yn, fun hc2 => ?_, fun hc2 => ⟨_, Sub.refl _, k2 (by simp [okSpendD, e, hc2])⟩⟩
      walk_at "d"
      refine ⟨p, He.ga K "Spend", [], [], rfl, hp, T.a_Spend_head, by decide, ?_⟩
      skip
      walk_at "d"
      refine ⟨p, He.ga K "Spend", ["head"], [h], rfl, sset_same, T.a_Spend_coins, by decide, ?_⟩
      rw [sset_sset]
      walk_at "d"
      refine ⟨p, He.ga K "Spend", ["head", "coins"], [h, c], rfl, sset_same, T.a_Spend_note, by decide, ?_⟩
      rw [sset_sset]
      walk_at "d"
      exact k1 (by simp [okSpendD, e, hc2])

theorem ok_Spend_told (T : Tx P w K mg base) : DefOk P w K mg base 1 ("Spend", some "told") ["self"] (spOf K (sp_Spend_told K)) := by
  refine mkOkD T.f_Spend_told sc_Spend_told (fun ds st Q E h => ?_) (fun _ _ _ _ _ _ us hl => match us, hl with | [_], _ => rfl) (fun cdv A outer s H E hr ds st Q Ed h => ?_)
  · obtain ⟨h, c, n, rfl, k⟩ := h
    rfl
  · obtain ⟨h, c, n, rfl, k⟩ := h
    refine ⟨_, (dss_one (ds_ret (d_tup (da_cons (d_str (by decide +kernel)) (da_cons (d_fld rfl (d_var (pv 0)) rfl) (da_cons (d_fld rfl (d_var (pv 0)) rfl) (da_cons (d_fld rfl (d_var (pv 0)) rfl) da_nil))))))), .inl ?_⟩
    walk_at "d"
    exact k

theorem mk_Spend {h c n : DV} {st : Sto} {Q : KD} {ex : KX} (yh : knD h = true) (yc : knD c = true) (yn : knD n = true) (k1 : okSpendD h c n = true → Q (.ins (He.ga K "Spend") ["head", "coins", "note"] [h, c, n]) st) (k2 : okSpendD h c n = false → ex ⟨He.ga K "NoEntry", [], []⟩ st) :
    ∀ m, st m = none → sp_Spend___init__ K (.ref m :: [h, c, n]) (sset st m (.ins (He.ga K "Spend") [] [])) (fun v s2 => v = .non ∧ NewI m s2 Q) (fun x s2 => ex x (sdel s2 m)) := by
  intro m hm
  refine ⟨m, h, c, n, rfl, sset_same, yh, yc, yn, fun h => ⟨rfl, .inr ⟨_, _, _, sset_same, ?_⟩⟩, fun h => ?_⟩
  · rw [sset_sset, sdel_set hm]
    exact k1 h
  · show ex _ (sdel (sset st m _) m)
    rw [sdel_set hm]
    exact k2 h

def okPromiseD (r h c n : DV) : Bool := (nameD r && nameD h) && coinsD c n
def sp_Promise___init__ (K : PySem.W.Frag) : Spd := fun ds st Q E => ∃ p r h c n, ds = [.ref p, r, h, c, n] ∧ st p = some (.ins (He.ga K "Promise") [] []) ∧ knD r = true ∧ knD h = true ∧ knD c = true ∧ knD n = true ∧
  (okPromiseD r h c n = true → Q .non (sset st p (.ins (He.ga K "Promise") ["word", "head", "coins", "note"] [r, h, c, n]))) ∧ (okPromiseD r h c n = false → E ⟨He.ga K "NoEntry", [], []⟩ st)
def sp_Promise_told (K : PySem.W.Frag) : Spd := fun ds st Q _ => ∃ r h c n, ds = [.ins (He.ga K "Promise") ["word", "head", "coins", "note"] [r, h, c, n]] ∧ Q (.tup [.str "promise", r, h, c, n]) st

theorem ok_Promise___init__ (T : Tx P w K mg base) : DefOk P w K mg base 4 ("Promise", some "__init__") ["self", "word", "head", "coins", "note"] (spOf K (sp_Promise___init__ K)) := by
  refine mkOkD T.f_Promise___init__ sc_Promise___init__ (fun ds st Q E h => ?_) (fun _ _ _ _ _ _ us hl => match us, hl with | [_, _, _, _, _], _ => rfl) (fun cdv A outer s H E hr ds st Q Ed h => ?_)
  · obtain ⟨p, r, h, c, n, rfl, hp, yr, yh, yc, yn, k1, k2⟩ := h
    rfl
  · obtain ⟨p, r, h, c, n, rfl, hp, yr, yh, yc, yn, k1, k2⟩ := h
    refine ⟨_, (dss_cons (ds_expr (d_call (takes_of rfl rfl rfl rfl) (ok_check_entries (K := K) T) T.g_check_entries (hr.mono (by decide)) (da_cons (d_and (d_call (takes_of rfl rfl rfl rfl) (ok_is_name (K := K) T) T.g_is_name (hr.mono (by decide)) (da_cons (d_var (pv 1)) da_nil)) (d_one (d_call (takes_of rfl rfl rfl rfl) (ok_is_name (K := K) T) T.g_is_name (hr.mono (by decide)) (da_cons (d_var (pv 2)) da_nil)))) da_nil)))
      (dss_cons (ds_expr (d_call (takes_of rfl rfl rfl rfl) (ok_check_coins (K := K) T) T.g_check_coins (hr.mono (by decide)) (da_cons (d_var (pv 3)) (da_cons (d_var (pv 4)) da_nil))))
      (dss_cons (ds_fld rfl (d_var (pv 0)) (d_var (pv 1)) rfl)
      (dss_cons (ds_fld rfl (d_var (pv 0)) (d_var (pv 2)) rfl)
      (dss_cons (ds_fld rfl (d_var (pv 0)) (d_var (pv 3)) rfl)
      (dss_one (ds_fld rfl (d_var (pv 0)) (d_var (pv 4)) rfl))))))), .inl ?_⟩
    walk_at "d"
    refine ⟨r, rfl, yr, ?_⟩
    walk_at "d"
    cases e : nameD r with
    | false =>
      walk_at "d"
      exact ⟨false, rfl, (fun z => nomatch z), fun _ => ⟨_, Sub.refl _, k2 (by simp [okPromiseD, e])⟩⟩
    | true =>
      walk_at "d"
      refine ⟨h, rfl, yh, ?_⟩
      walk_at "d"
      cases e2 : nameD h with
      | false => exact ⟨false, rfl, (fun z => nomatch z), fun _ => ⟨_, Sub.refl _, k2 (by simp [okPromiseD, e, e2])⟩⟩
      | true =>
        refine ⟨true, rfl, fun _ => ?_, (fun z => nomatch z)⟩
        walk_at "d"
        refine ⟨c, n, rfl, yc, yn, fun hc2 => ?_, fun hc2 => ⟨_, Sub.refl _, k2 (by simp [okPromiseD, e, e2, hc2])⟩⟩
        walk_at "d"
        refine ⟨p, He.ga K "Promise", [], [], rfl, hp, T.a_Promise_word, by decide, ?_⟩
        skip
        walk_at "d"
        refine ⟨p, He.ga K "Promise", ["word"], [r], rfl, sset_same, T.a_Promise_head, by decide, ?_⟩
        rw [sset_sset]
        walk_at "d"
        refine ⟨p, He.ga K "Promise", ["word", "head"], [r, h], rfl, sset_same, T.a_Promise_coins, by decide, ?_⟩
        rw [sset_sset]
        walk_at "d"
        refine ⟨p, He.ga K "Promise", ["word", "head", "coins"], [r, h, c], rfl, sset_same, T.a_Promise_note, by decide, ?_⟩
        rw [sset_sset]
        walk_at "d"
        exact k1 (by simp [okPromiseD, e, e2, hc2])

theorem ok_Promise_told (T : Tx P w K mg base) : DefOk P w K mg base 1 ("Promise", some "told") ["self"] (spOf K (sp_Promise_told K)) := by
  refine mkOkD T.f_Promise_told sc_Promise_told (fun ds st Q E h => ?_) (fun _ _ _ _ _ _ us hl => match us, hl with | [_], _ => rfl) (fun cdv A outer s H E hr ds st Q Ed h => ?_)
  · obtain ⟨r, h, c, n, rfl, k⟩ := h
    rfl
  · obtain ⟨r, h, c, n, rfl, k⟩ := h
    refine ⟨_, (dss_one (ds_ret (d_tup (da_cons (d_str (by decide +kernel)) (da_cons (d_fld rfl (d_var (pv 0)) rfl) (da_cons (d_fld rfl (d_var (pv 0)) rfl) (da_cons (d_fld rfl (d_var (pv 0)) rfl) (da_cons (d_fld rfl (d_var (pv 0)) rfl) da_nil)))))))), .inl ?_⟩
    walk_at "d"
    exact k

theorem mk_Promise {r h c n : DV} {st : Sto} {Q : KD} {ex : KX} (yr : knD r = true) (yh : knD h = true) (yc : knD c = true) (yn : knD n = true) (k1 : okPromiseD r h c n = true → Q (.ins (He.ga K "Promise") ["word", "head", "coins", "note"] [r, h, c, n]) st) (k2 : okPromiseD r h c n = false → ex ⟨He.ga K "NoEntry", [], []⟩ st) :
    ∀ m, st m = none → sp_Promise___init__ K (.ref m :: [r, h, c, n]) (sset st m (.ins (He.ga K "Promise") [] [])) (fun v s2 => v = .non ∧ NewI m s2 Q) (fun x s2 => ex x (sdel s2 m)) := by
  intro m hm
  refine ⟨m, r, h, c, n, rfl, sset_same, yr, yh, yc, yn, fun h => ⟨rfl, .inr ⟨_, _, _, sset_same, ?_⟩⟩, fun h => ?_⟩
  · rw [sset_sset, sdel_set hm]
    exact k1 h
  · show ex _ (sdel (sset st m _) m)
    rw [sdel_set hm]
    exact k2 h

def okLessenD (r c n : DV) : Bool := nameD r && coinsD c n
def sp_Lessen___init__ (K : PySem.W.Frag) : Spd := fun ds st Q E => ∃ p r c n, ds = [.ref p, r, c, n] ∧ st p = some (.ins (He.ga K "Lessen") [] []) ∧ knD r = true ∧ knD c = true ∧ knD n = true ∧
  (okLessenD r c n = true → Q .non (sset st p (.ins (He.ga K "Lessen") ["word", "coins", "note"] [r, c, n]))) ∧ (okLessenD r c n = false → E ⟨He.ga K "NoEntry", [], []⟩ st)
def sp_Lessen_told (K : PySem.W.Frag) : Spd := fun ds st Q _ => ∃ r c n, ds = [.ins (He.ga K "Lessen") ["word", "coins", "note"] [r, c, n]] ∧ Q (.tup [.str "lessen", r, c, n]) st

theorem ok_Lessen___init__ (T : Tx P w K mg base) : DefOk P w K mg base 4 ("Lessen", some "__init__") ["self", "word", "coins", "note"] (spOf K (sp_Lessen___init__ K)) := by
  refine mkOkD T.f_Lessen___init__ sc_Lessen___init__ (fun ds st Q E h => ?_) (fun _ _ _ _ _ _ us hl => match us, hl with | [_, _, _, _], _ => rfl) (fun cdv A outer s H E hr ds st Q Ed h => ?_)
  · obtain ⟨p, r, c, n, rfl, hp, yr, yc, yn, k1, k2⟩ := h
    rfl
  · obtain ⟨p, r, c, n, rfl, hp, yr, yc, yn, k1, k2⟩ := h
    refine ⟨_, (dss_cons (ds_expr (d_call (takes_of rfl rfl rfl rfl) (ok_check_entries (K := K) T) T.g_check_entries (hr.mono (by decide)) (da_cons (d_call (takes_of rfl rfl rfl rfl) (ok_is_name (K := K) T) T.g_is_name (hr.mono (by decide)) (da_cons (d_var (pv 1)) da_nil)) da_nil)))
      (dss_cons (ds_expr (d_call (takes_of rfl rfl rfl rfl) (ok_check_coins (K := K) T) T.g_check_coins (hr.mono (by decide)) (da_cons (d_var (pv 2)) (da_cons (d_var (pv 3)) da_nil))))
      (dss_cons (ds_fld rfl (d_var (pv 0)) (d_var (pv 1)) rfl)
      (dss_cons (ds_fld rfl (d_var (pv 0)) (d_var (pv 2)) rfl)
      (dss_one (ds_fld rfl (d_var (pv 0)) (d_var (pv 3)) rfl)))))), .inl ?_⟩
    walk_at "d"
    refine ⟨r, rfl, yr, ?_⟩
    walk_at "d"
    cases e : nameD r with
    | false =>
      exact ⟨false, rfl, (fun z => nomatch z), fun _ => ⟨_, Sub.refl _, k2 (by simp [okLessenD, e])⟩⟩
    | true =>
      refine ⟨true, rfl, fun _ => ?_, (fun z => nomatch z)⟩
      walk_at "d"
      refine ⟨c, n, rfl, yc, yn, fun hc2 => ?_, fun hc2 => ⟨_, Sub.refl _, k2 (by simp [okLessenD, e, hc2])⟩⟩
      walk_at "d"
      refine ⟨p, He.ga K "Lessen", [], [], rfl, hp, T.a_Lessen_word, by decide, ?_⟩
      skip
      walk_at "d"
      refine ⟨p, He.ga K "Lessen", ["word"], [r], rfl, sset_same, T.a_Lessen_coins, by decide, ?_⟩
      rw [sset_sset]
      walk_at "d"
      refine ⟨p, He.ga K "Lessen", ["word", "coins"], [r, c], rfl, sset_same, T.a_Lessen_note, by decide, ?_⟩
      rw [sset_sset]
      walk_at "d"
      exact k1 (by simp [okLessenD, e, hc2])

theorem ok_Lessen_told (T : Tx P w K mg base) : DefOk P w K mg base 1 ("Lessen", some "told") ["self"] (spOf K (sp_Lessen_told K)) := by
  refine mkOkD T.f_Lessen_told sc_Lessen_told (fun ds st Q E h => ?_) (fun _ _ _ _ _ _ us hl => match us, hl with | [_], _ => rfl) (fun cdv A outer s H E hr ds st Q Ed h => ?_)
  · obtain ⟨r, c, n, rfl, k⟩ := h
    rfl
  · obtain ⟨r, c, n, rfl, k⟩ := h
    refine ⟨_, (dss_one (ds_ret (d_tup (da_cons (d_str (by decide +kernel)) (da_cons (d_fld rfl (d_var (pv 0)) rfl) (da_cons (d_fld rfl (d_var (pv 0)) rfl) (da_cons (d_fld rfl (d_var (pv 0)) rfl) da_nil))))))), .inl ?_⟩
    walk_at "d"
    exact k

theorem mk_Lessen {r c n : DV} {st : Sto} {Q : KD} {ex : KX} (yr : knD r = true) (yc : knD c = true) (yn : knD n = true) (k1 : okLessenD r c n = true → Q (.ins (He.ga K "Lessen") ["word", "coins", "note"] [r, c, n]) st) (k2 : okLessenD r c n = false → ex ⟨He.ga K "NoEntry", [], []⟩ st) :
    ∀ m, st m = none → sp_Lessen___init__ K (.ref m :: [r, c, n]) (sset st m (.ins (He.ga K "Lessen") [] [])) (fun v s2 => v = .non ∧ NewI m s2 Q) (fun x s2 => ex x (sdel s2 m)) := by
  intro m hm
  refine ⟨m, r, c, n, rfl, sset_same, yr, yc, yn, fun h => ⟨rfl, .inr ⟨_, _, _, sset_same, ?_⟩⟩, fun h => ?_⟩
  · rw [sset_sset, sdel_set hm]
    exact k1 h
  · show ex _ (sdel (sset st m _) m)
    rw [sdel_set hm]
    exact k2 h

def okOutD (r c n : DV) : Bool := nameD r && coinsD c n
def sp_Out___init__ (K : PySem.W.Frag) : Spd := fun ds st Q E => ∃ p r c n, ds = [.ref p, r, c, n] ∧ st p = some (.ins (He.ga K "Out") [] []) ∧ knD r = true ∧ knD c = true ∧ knD n = true ∧
  (okOutD r c n = true → Q .non (sset st p (.ins (He.ga K "Out") ["word", "coins", "note"] [r, c, n]))) ∧ (okOutD r c n = false → E ⟨He.ga K "NoEntry", [], []⟩ st)
def sp_Out_told (K : PySem.W.Frag) : Spd := fun ds st Q _ => ∃ r c n, ds = [.ins (He.ga K "Out") ["word", "coins", "note"] [r, c, n]] ∧ Q (.tup [.str "out", r, c, n]) st

theorem ok_Out___init__ (T : Tx P w K mg base) : DefOk P w K mg base 4 ("Out", some "__init__") ["self", "word", "coins", "note"] (spOf K (sp_Out___init__ K)) := by
  refine mkOkD T.f_Out___init__ sc_Out___init__ (fun ds st Q E h => ?_) (fun _ _ _ _ _ _ us hl => match us, hl with | [_, _, _, _], _ => rfl) (fun cdv A outer s H E hr ds st Q Ed h => ?_)
  · obtain ⟨p, r, c, n, rfl, hp, yr, yc, yn, k1, k2⟩ := h
    rfl
  · obtain ⟨p, r, c, n, rfl, hp, yr, yc, yn, k1, k2⟩ := h
    refine ⟨_, (dss_cons (ds_expr (d_call (takes_of rfl rfl rfl rfl) (ok_check_entries (K := K) T) T.g_check_entries (hr.mono (by decide)) (da_cons (d_call (takes_of rfl rfl rfl rfl) (ok_is_name (K := K) T) T.g_is_name (hr.mono (by decide)) (da_cons (d_var (pv 1)) da_nil)) da_nil)))
      (dss_cons (ds_expr (d_call (takes_of rfl rfl rfl rfl) (ok_check_coins (K := K) T) T.g_check_coins (hr.mono (by decide)) (da_cons (d_var (pv 2)) (da_cons (d_var (pv 3)) da_nil))))
      (dss_cons (ds_fld rfl (d_var (pv 0)) (d_var (pv 1)) rfl)
      (dss_cons (ds_fld rfl (d_var (pv 0)) (d_var (pv 2)) rfl)
      (dss_one (ds_fld rfl (d_var (pv 0)) (d_var (pv 3)) rfl)))))), .inl ?_⟩
    walk_at "d"
    refine ⟨r, rfl, yr, ?_⟩
    walk_at "d"
    cases e : nameD r with
    | false =>
      exact ⟨false, rfl, (fun z => nomatch z), fun _ => ⟨_, Sub.refl _, k2 (by simp [okOutD, e])⟩⟩
    | true =>
      refine ⟨true, rfl, fun _ => ?_, (fun z => nomatch z)⟩
      walk_at "d"
      refine ⟨c, n, rfl, yc, yn, fun hc2 => ?_, fun hc2 => ⟨_, Sub.refl _, k2 (by simp [okOutD, e, hc2])⟩⟩
      walk_at "d"
      refine ⟨p, He.ga K "Out", [], [], rfl, hp, T.a_Out_word, by decide, ?_⟩
      skip
      walk_at "d"
      refine ⟨p, He.ga K "Out", ["word"], [r], rfl, sset_same, T.a_Out_coins, by decide, ?_⟩
      rw [sset_sset]
      walk_at "d"
      refine ⟨p, He.ga K "Out", ["word", "coins"], [r, c], rfl, sset_same, T.a_Out_note, by decide, ?_⟩
      rw [sset_sset]
      walk_at "d"
      exact k1 (by simp [okOutD, e, hc2])

theorem ok_Out_told (T : Tx P w K mg base) : DefOk P w K mg base 1 ("Out", some "told") ["self"] (spOf K (sp_Out_told K)) := by
  refine mkOkD T.f_Out_told sc_Out_told (fun ds st Q E h => ?_) (fun _ _ _ _ _ _ us hl => match us, hl with | [_], _ => rfl) (fun cdv A outer s H E hr ds st Q Ed h => ?_)
  · obtain ⟨r, c, n, rfl, k⟩ := h
    rfl
  · obtain ⟨r, c, n, rfl, k⟩ := h
    refine ⟨_, (dss_one (ds_ret (d_tup (da_cons (d_str (by decide +kernel)) (da_cons (d_fld rfl (d_var (pv 0)) rfl) (da_cons (d_fld rfl (d_var (pv 0)) rfl) (da_cons (d_fld rfl (d_var (pv 0)) rfl) da_nil))))))), .inl ?_⟩
    walk_at "d"
    exact k

theorem mk_Out {r c n : DV} {st : Sto} {Q : KD} {ex : KX} (yr : knD r = true) (yc : knD c = true) (yn : knD n = true) (k1 : okOutD r c n = true → Q (.ins (He.ga K "Out") ["word", "coins", "note"] [r, c, n]) st) (k2 : okOutD r c n = false → ex ⟨He.ga K "NoEntry", [], []⟩ st) :
    ∀ m, st m = none → sp_Out___init__ K (.ref m :: [r, c, n]) (sset st m (.ins (He.ga K "Out") [] [])) (fun v s2 => v = .non ∧ NewI m s2 Q) (fun x s2 => ex x (sdel s2 m)) := by
  intro m hm
  refine ⟨m, r, c, n, rfl, sset_same, yr, yc, yn, fun h => ⟨rfl, .inr ⟨_, _, _, sset_same, ?_⟩⟩, fun h => ?_⟩
  · rw [sset_sset, sdel_set hm]
    exact k1 h
  · show ex _ (sdel (sset st m _) m)
    rw [sdel_set hm]
    exact k2 h

def szOf (w : Str) : Int := if w = "give" then 4 else if w = "hold" then 5 else if w = "move" then 5 else if w = "spend" then 4 else if w = "promise" then 5 else if w = "lessen" then 4 else if w = "out" then 4 else 0
abbrev SZ : List (Str × V) := [("give", .int 4), ("hold", .int 5), ("move", .int 5), ("spend", .int 4), ("promise", .int 5), ("lessen", .int 4), ("out", .int 4)]
theorem szOf_is (w : Str) (Q : DV → Prop) (q : Q (.int (szOf w))) : tabQ SZ w (.int 0) Q := by
  unfold szOf at q
  unfold tabQ
  simp only [SZ, List.lookup_cons, List.lookup_nil]
  by_cases h0 : w = "give"
  · subst h0
    exact q
  rw [if_neg h0] at q
  rw [show (w == ("give" : Str)) = false from by simpa using h0]
  dsimp only
  by_cases h1 : w = "hold"
  · subst h1
    exact q
  rw [if_neg h1] at q
  rw [show (w == ("hold" : Str)) = false from by simpa using h1]
  dsimp only
  by_cases h2 : w = "move"
  · subst h2
    exact q
  rw [if_neg h2] at q
  rw [show (w == ("move" : Str)) = false from by simpa using h2]
  dsimp only
  by_cases h3 : w = "spend"
  · subst h3
    exact q
  rw [if_neg h3] at q
  rw [show (w == ("spend" : Str)) = false from by simpa using h3]
  dsimp only
  by_cases h4 : w = "promise"
  · subst h4
    exact q
  rw [if_neg h4] at q
  rw [show (w == ("promise" : Str)) = false from by simpa using h4]
  dsimp only
  by_cases h5 : w = "lessen"
  · subst h5
    exact q
  rw [if_neg h5] at q
  rw [show (w == ("lessen" : Str)) = false from by simpa using h5]
  dsimp only
  by_cases h6 : w = "out"
  · subst h6
    exact q
  rw [if_neg h6] at q
  rw [show (w == ("out" : Str)) = false from by simpa using h6]
  dsimp only
  exact q

/-- what a tuple tells: the class, its fields -/
def entOf (K : PySem.W.Frag) : List DV → Option DV
  | .str w :: args =>
    if w = "give" then (match args with | [h, c, n] => if okGiveD h c n = true then some (.ins (He.ga K "Give") ["head", "coins", "note"] [h, c, n]) else none | _ => none)
    else if w = "hold" then (match args with | [h, c, u, n] => if okHoldD h c u n = true then some (.ins (He.ga K "Hold") ["head", "coins", "until", "note"] [h, c, u, n]) else none | _ => none)
    else if w = "move" then (match args with | [h, o, c, n] => if okMoveD h o c n = true then some (.ins (He.ga K "Move") ["head", "other", "coins", "note"] [h, o, c, n]) else none | _ => none)
    else if w = "spend" then (match args with | [h, c, n] => if okSpendD h c n = true then some (.ins (He.ga K "Spend") ["head", "coins", "note"] [h, c, n]) else none | _ => none)
    else if w = "promise" then (match args with | [r, h, c, n] => if okPromiseD r h c n = true then some (.ins (He.ga K "Promise") ["word", "head", "coins", "note"] [r, h, c, n]) else none | _ => none)
    else if w = "lessen" then (match args with | [r, c, n] => if okLessenD r c n = true then some (.ins (He.ga K "Lessen") ["word", "coins", "note"] [r, c, n]) else none | _ => none)
    else if w = "out" then (match args with | [r, c, n] => if okOutD r c n = true then some (.ins (He.ga K "Out") ["word", "coins", "note"] [r, c, n]) else none | _ => none)
    else none
  | _ => none

def entD (K : PySem.W.Frag) : DV → Option DV
  | .tup ds => entOf K ds
  | _ => none
theorem entD_tup {ds : List DV} : entD K (.tup ds) = entOf K ds := rfl
def kn1 : DV → Bool
  | .tup ds => ds.all knD
  | d => knD d
def sp_read_entry (K : PySem.W.Frag) : Spd := fun ds st Q E => ∃ x, ds = [x] ∧ kn1 x = true ∧ (∀ e, entD K x = some e → Q e st) ∧ (entD K x = none → E ⟨He.ga K "NoEntry", [], []⟩ st)
theorem len3 {α : Type} {l : List α} (h : l.length = 3) : ∃ a b c, l = [a, b, c] := by
  match l, h with
  | [a, b, c], _ => exact ⟨a, b, c, rfl⟩
theorem len4 {α : Type} {l : List α} (h : l.length = 4) : ∃ a b c d, l = [a, b, c, d] := by
  match l, h with
  | [a, b, c, d], _ => exact ⟨a, b, c, d, rfl⟩

theorem entOf_len {w : Str} {args : List DV} (h : ¬ ((args.length : Int) + 1 = szOf w)) : entOf K (.str w :: args) = none := by
  unfold szOf at h
  unfold entOf
  dsimp only
  by_cases h0 : w = "give"
  · rw [if_pos h0] at h
    rw [if_pos h0]
    split
    · exact (h rfl).elim
    · rfl
  rw [if_neg h0] at h
  rw [if_neg h0]
  by_cases h1 : w = "hold"
  · rw [if_pos h1] at h
    rw [if_pos h1]
    split
    · exact (h rfl).elim
    · rfl
  rw [if_neg h1] at h
  rw [if_neg h1]
  by_cases h2 : w = "move"
  · rw [if_pos h2] at h
    rw [if_pos h2]
    split
    · exact (h rfl).elim
    · rfl
  rw [if_neg h2] at h
  rw [if_neg h2]
  by_cases h3 : w = "spend"
  · rw [if_pos h3] at h
    rw [if_pos h3]
    split
    · exact (h rfl).elim
    · rfl
  rw [if_neg h3] at h
  rw [if_neg h3]
  by_cases h4 : w = "promise"
  · rw [if_pos h4] at h
    rw [if_pos h4]
    split
    · exact (h rfl).elim
    · rfl
  rw [if_neg h4] at h
  rw [if_neg h4]
  by_cases h5 : w = "lessen"
  · rw [if_pos h5] at h
    rw [if_pos h5]
    split
    · exact (h rfl).elim
    · rfl
  rw [if_neg h5] at h
  rw [if_neg h5]
  by_cases h6 : w = "out"
  · rw [if_pos h6] at h
    rw [if_pos h6]
    split
    · exact (h rfl).elim
    · rfl
  rw [if_neg h6] at h
  rw [if_neg h6]

theorem ok_read_entry (T : Tx P w K mg base) : DefOk P w K mg base 6 ("read_entry", none) ["told"] (spOf K (sp_read_entry K)) := by
  refine mkOkD T.f_read_entry sc_read_entry (fun ds st Q E h => ?_) (fun _ _ _ _ _ _ us hl => match us, hl with | [_], _ => rfl) (fun cdv A outer s H E hr ds st Q Ed h => ?_)
  · obtain ⟨x, rfl, hk, k1, k2⟩ := h
    rfl
  · obtain ⟨x, rfl, hk, k1, k2⟩ := h
    refine ⟨_, (dss_cons (ds_expr (d_call (takes_of rfl rfl rfl rfl) (ok_check_entries (K := K) T) T.g_check_entries (hr.mono (by decide)) (da_cons (d_and (d_callB (kIsiD rfl) rfl T.n_isinstance (by decide +kernel) (da_cons (d_var (pv 0)) (da_cons (d_c (kbT (n := "tuple") T.n_tuple (by decide +kernel)) fun _ => .ty _) da_nil))) (d_and (d_cmp kGtD (d_callB (kLenD rfl) rfl T.n_len (by decide +kernel) (da_cons (d_var (pv 0)) da_nil)) d_int (nomark _)) (d_one (d_callB (kIsiD rfl) rfl T.n_isinstance (by decide +kernel) (da_cons (d_ix (kIxD rfl) (d_var (pv 0)) d_int (fun _ _ => rfl)) (da_cons (d_c (kbT (n := "str") T.n_str (by decide +kernel)) fun _ => .ty _) da_nil)))))) da_nil)))
      (dss_cons (ds_expr (d_call (takes_of rfl rfl rfl rfl) (ok_check_entries (K := K) T) T.g_check_entries (hr.mono (by decide)) (da_cons (d_cmp (kEqD rfl hr) (d_callB (kLenD rfl) rfl T.n_len (by decide +kernel) (da_cons (d_var (pv 0)) da_nil)) (d_kget rfl T.d_SIZES (kgR T.g_SIZES) (d_ix (kIxD rfl) (d_var (pv 0)) d_int (fun _ _ => rfl)) d_int) (nomark _)) da_nil)))
      (dss_cons (ds_if (dt_cmp (kEqD rfl hr) (d_ix (kIxD rfl) (d_var (pv 0)) d_int (fun _ _ => rfl)) (d_str (by decide +kernel)) (nomark _)) (dss_one (ds_ret (d_make (ik := "") (takes_of rfl rfl rfl rfl) rfl T.mk_Give T.c_Give T.i_Give (ok_Give___init__ (K := K) T) T.g_Give (hr.mono (by decide)) (da_cons (d_ix (kIxD rfl) (d_var (pv 0)) d_int (fun _ _ => rfl)) (da_cons (d_ix (kIxD rfl) (d_var (pv 0)) d_int (fun _ _ => rfl)) (da_cons (d_ix (kIxD rfl) (d_var (pv 0)) d_int (fun _ _ => rfl)) da_nil)))))) dss_nil)
      (dss_cons (ds_if (dt_cmp (kEqD rfl hr) (d_ix (kIxD rfl) (d_var (pv 0)) d_int (fun _ _ => rfl)) (d_str (by decide +kernel)) (nomark _)) (dss_one (ds_ret (d_make (ik := "") (takes_of rfl rfl rfl rfl) rfl T.mk_Hold T.c_Hold T.i_Hold (ok_Hold___init__ (K := K) T) T.g_Hold (hr.mono (by decide)) (da_cons (d_ix (kIxD rfl) (d_var (pv 0)) d_int (fun _ _ => rfl)) (da_cons (d_ix (kIxD rfl) (d_var (pv 0)) d_int (fun _ _ => rfl)) (da_cons (d_ix (kIxD rfl) (d_var (pv 0)) d_int (fun _ _ => rfl)) (da_cons (d_ix (kIxD rfl) (d_var (pv 0)) d_int (fun _ _ => rfl)) da_nil))))))) dss_nil)
      (dss_cons (ds_if (dt_cmp (kEqD rfl hr) (d_ix (kIxD rfl) (d_var (pv 0)) d_int (fun _ _ => rfl)) (d_str (by decide +kernel)) (nomark _)) (dss_one (ds_ret (d_make (ik := "") (takes_of rfl rfl rfl rfl) rfl T.mk_Move T.c_Move T.i_Move (ok_Move___init__ (K := K) T) T.g_Move (hr.mono (by decide)) (da_cons (d_ix (kIxD rfl) (d_var (pv 0)) d_int (fun _ _ => rfl)) (da_cons (d_ix (kIxD rfl) (d_var (pv 0)) d_int (fun _ _ => rfl)) (da_cons (d_ix (kIxD rfl) (d_var (pv 0)) d_int (fun _ _ => rfl)) (da_cons (d_ix (kIxD rfl) (d_var (pv 0)) d_int (fun _ _ => rfl)) da_nil))))))) dss_nil)
      (dss_cons (ds_if (dt_cmp (kEqD rfl hr) (d_ix (kIxD rfl) (d_var (pv 0)) d_int (fun _ _ => rfl)) (d_str (by decide +kernel)) (nomark _)) (dss_one (ds_ret (d_make (ik := "") (takes_of rfl rfl rfl rfl) rfl T.mk_Spend T.c_Spend T.i_Spend (ok_Spend___init__ (K := K) T) T.g_Spend (hr.mono (by decide)) (da_cons (d_ix (kIxD rfl) (d_var (pv 0)) d_int (fun _ _ => rfl)) (da_cons (d_ix (kIxD rfl) (d_var (pv 0)) d_int (fun _ _ => rfl)) (da_cons (d_ix (kIxD rfl) (d_var (pv 0)) d_int (fun _ _ => rfl)) da_nil)))))) dss_nil)
      (dss_cons (ds_if (dt_cmp (kEqD rfl hr) (d_ix (kIxD rfl) (d_var (pv 0)) d_int (fun _ _ => rfl)) (d_str (by decide +kernel)) (nomark _)) (dss_one (ds_ret (d_make (ik := "") (takes_of rfl rfl rfl rfl) rfl T.mk_Promise T.c_Promise T.i_Promise (ok_Promise___init__ (K := K) T) T.g_Promise (hr.mono (by decide)) (da_cons (d_ix (kIxD rfl) (d_var (pv 0)) d_int (fun _ _ => rfl)) (da_cons (d_ix (kIxD rfl) (d_var (pv 0)) d_int (fun _ _ => rfl)) (da_cons (d_ix (kIxD rfl) (d_var (pv 0)) d_int (fun _ _ => rfl)) (da_cons (d_ix (kIxD rfl) (d_var (pv 0)) d_int (fun _ _ => rfl)) da_nil))))))) dss_nil)
      (dss_cons (ds_if (dt_cmp (kEqD rfl hr) (d_ix (kIxD rfl) (d_var (pv 0)) d_int (fun _ _ => rfl)) (d_str (by decide +kernel)) (nomark _)) (dss_one (ds_ret (d_make (ik := "") (takes_of rfl rfl rfl rfl) rfl T.mk_Lessen T.c_Lessen T.i_Lessen (ok_Lessen___init__ (K := K) T) T.g_Lessen (hr.mono (by decide)) (da_cons (d_ix (kIxD rfl) (d_var (pv 0)) d_int (fun _ _ => rfl)) (da_cons (d_ix (kIxD rfl) (d_var (pv 0)) d_int (fun _ _ => rfl)) (da_cons (d_ix (kIxD rfl) (d_var (pv 0)) d_int (fun _ _ => rfl)) da_nil)))))) dss_nil)
      (dss_one (ds_ret (d_make (ik := "") (takes_of rfl rfl rfl rfl) rfl T.mk_Out T.c_Out T.i_Out (ok_Out___init__ (K := K) T) T.g_Out (hr.mono (by decide)) (da_cons (d_ix (kIxD rfl) (d_var (pv 0)) d_int (fun _ _ => rfl)) (da_cons (d_ix (kIxD rfl) (d_var (pv 0)) d_int (fun _ _ => rfl)) (da_cons (d_ix (kIxD rfl) (d_var (pv 0)) d_int (fun _ _ => rfl)) da_nil)))))))))))))), .inl ?_⟩
    cases x with
    | tup xs =>
      have hk : xs.all knD = true := hk
      walk_at "d"
      match xs with
      | [] =>
        rw [show decide ((0 : Int) < (([] : List DV).length : Int)) = false from by decide]
        walk_at "d"
        exact ⟨false, rfl, (fun z => nomatch z), fun _ => ⟨_, Sub.refl _, k2 rfl⟩⟩
      | w0 :: args =>
        rw [show decide ((0 : Int) < ((w0 :: args).length : Int)) = true from decide_eq_true (by rw [List.length_cons]; omega)]
        obtain ⟨hk0, hka⟩ := He.ba hk
        have hka := List.all_eq_true.mp hka
        walk_at "d"
        refine w_isi_str hk0 ?_
        walk_at "d"
        cases w0 with
        | str w =>
          refine ⟨true, rfl, fun _ => ?_, (fun z => nomatch z)⟩
          walk_at "d"
          refine szOf_is w _ ?_
          walk_at "d"
          by_cases hz : (((DV.str w :: args).length : Nat) : Int) = szOf w
          case neg =>
            rw [decide_eq_false hz]
            exact ⟨false, rfl, (fun z => nomatch z), fun _ => ⟨_, Sub.refl _, k2 (entOf_len (by simpa using hz))⟩⟩
          rw [decide_eq_true hz]
          refine ⟨true, rfl, fun _ => ?_, (fun z => nomatch z)⟩
          have hz2 : (args.length : Int) + 1 = szOf w := by simpa using hz
          walk_at "d"
          by_cases h0 : w = "give"
          case pos =>
            rw [decide_eq_true h0]
            subst h0
            have hn : args.length = 3 := by
              have : szOf "give" = 4 := by decide +kernel
              omega
            obtain ⟨h, c, n, rfl⟩ := len3 hn
            have ee : entOf K [.str "give", h, c, n] = if okGiveD h c n = true then some (.ins (He.ga K "Give") ["head", "coins", "note"] [h, c, n]) else none := by first | rfl | simp [entOf]
            walk_at "d"
            exact mk_Give (hka _ (by simp)) (hka _ (by simp)) (hka _ (by simp)) (fun hb => ⟨_, _, .refl, k1 _ (by rw [entD_tup, ee, if_pos hb])⟩) (fun hb => ⟨_, Sub.refl _, k2 (by rw [entD_tup, ee, hb]; rfl)⟩)
          rw [decide_eq_false h0]
          walk_at "d"
          by_cases h1 : w = "hold"
          case pos =>
            rw [decide_eq_true h1]
            subst h1
            have hn : args.length = 4 := by
              have : szOf "hold" = 5 := by decide +kernel
              omega
            obtain ⟨h, c, u, n, rfl⟩ := len4 hn
            have ee : entOf K [.str "hold", h, c, u, n] = if okHoldD h c u n = true then some (.ins (He.ga K "Hold") ["head", "coins", "until", "note"] [h, c, u, n]) else none := by first | rfl | simp [entOf]
            walk_at "d"
            exact mk_Hold (hka _ (by simp)) (hka _ (by simp)) (hka _ (by simp)) (hka _ (by simp)) (fun hb => ⟨_, _, .refl, k1 _ (by rw [entD_tup, ee, if_pos hb])⟩) (fun hb => ⟨_, Sub.refl _, k2 (by rw [entD_tup, ee, hb]; rfl)⟩)
          rw [decide_eq_false h1]
          walk_at "d"
          by_cases h2 : w = "move"
          case pos =>
            rw [decide_eq_true h2]
            subst h2
            have hn : args.length = 4 := by
              have : szOf "move" = 5 := by decide +kernel
              omega
            obtain ⟨h, o, c, n, rfl⟩ := len4 hn
            have ee : entOf K [.str "move", h, o, c, n] = if okMoveD h o c n = true then some (.ins (He.ga K "Move") ["head", "other", "coins", "note"] [h, o, c, n]) else none := by first | rfl | simp [entOf]
            walk_at "d"
            exact mk_Move (hka _ (by simp)) (hka _ (by simp)) (hka _ (by simp)) (hka _ (by simp)) (fun hb => ⟨_, _, .refl, k1 _ (by rw [entD_tup, ee, if_pos hb])⟩) (fun hb => ⟨_, Sub.refl _, k2 (by rw [entD_tup, ee, hb]; rfl)⟩)
          rw [decide_eq_false h2]
          walk_at "d"
          by_cases h3 : w = "spend"
          case pos =>
            rw [decide_eq_true h3]
            subst h3
            have hn : args.length = 3 := by
              have : szOf "spend" = 4 := by decide +kernel
              omega
            obtain ⟨h, c, n, rfl⟩ := len3 hn
            have ee : entOf K [.str "spend", h, c, n] = if okSpendD h c n = true then some (.ins (He.ga K "Spend") ["head", "coins", "note"] [h, c, n]) else none := by first | rfl | simp [entOf]
            walk_at "d"
            exact mk_Spend (hka _ (by simp)) (hka _ (by simp)) (hka _ (by simp)) (fun hb => ⟨_, _, .refl, k1 _ (by rw [entD_tup, ee, if_pos hb])⟩) (fun hb => ⟨_, Sub.refl _, k2 (by rw [entD_tup, ee, hb]; rfl)⟩)
          rw [decide_eq_false h3]
          walk_at "d"
          by_cases h4 : w = "promise"
          case pos =>
            rw [decide_eq_true h4]
            subst h4
            have hn : args.length = 4 := by
              have : szOf "promise" = 5 := by decide +kernel
              omega
            obtain ⟨r, h, c, n, rfl⟩ := len4 hn
            have ee : entOf K [.str "promise", r, h, c, n] = if okPromiseD r h c n = true then some (.ins (He.ga K "Promise") ["word", "head", "coins", "note"] [r, h, c, n]) else none := by first | rfl | simp [entOf]
            walk_at "d"
            exact mk_Promise (hka _ (by simp)) (hka _ (by simp)) (hka _ (by simp)) (hka _ (by simp)) (fun hb => ⟨_, _, .refl, k1 _ (by rw [entD_tup, ee, if_pos hb])⟩) (fun hb => ⟨_, Sub.refl _, k2 (by rw [entD_tup, ee, hb]; rfl)⟩)
          rw [decide_eq_false h4]
          walk_at "d"
          by_cases h5 : w = "lessen"
          case pos =>
            rw [decide_eq_true h5]
            subst h5
            have hn : args.length = 3 := by
              have : szOf "lessen" = 4 := by decide +kernel
              omega
            obtain ⟨r, c, n, rfl⟩ := len3 hn
            have ee : entOf K [.str "lessen", r, c, n] = if okLessenD r c n = true then some (.ins (He.ga K "Lessen") ["word", "coins", "note"] [r, c, n]) else none := by first | rfl | simp [entOf]
            walk_at "d"
            exact mk_Lessen (hka _ (by simp)) (hka _ (by simp)) (hka _ (by simp)) (fun hb => ⟨_, _, .refl, k1 _ (by rw [entD_tup, ee, if_pos hb])⟩) (fun hb => ⟨_, Sub.refl _, k2 (by rw [entD_tup, ee, hb]; rfl)⟩)
          rw [decide_eq_false h5]
          walk_at "d"
          have h6 : w = "out" := by
            by_cases h6 : w = "out"
            · exact h6
            · unfold szOf at hz2
              rw [if_neg h0, if_neg h1, if_neg h2, if_neg h3, if_neg h4, if_neg h5, if_neg h6] at hz2
              omega
          subst h6
          have hn : args.length = 3 := by
            have : szOf "out" = 4 := by decide +kernel
            omega
          obtain ⟨r, c, n, rfl⟩ := len3 hn
          have ee : entOf K [.str "out", r, c, n] = if okOutD r c n = true then some (.ins (He.ga K "Out") ["word", "coins", "note"] [r, c, n]) else none := by first | rfl | simp [entOf]
          walk_at "d"
          exact mk_Out (hka _ (by simp)) (hka _ (by simp)) (hka _ (by simp)) (fun hb => ⟨_, _, .refl, k1 _ (by rw [entD_tup, ee, if_pos hb])⟩) (fun hb => ⟨_, Sub.refl _, k2 (by rw [entD_tup, ee, hb]; rfl)⟩)
        | _ => exact ⟨false, rfl, (fun z => nomatch z), fun _ => ⟨_, Sub.refl _, k2 rfl⟩⟩
    | _ =>
      first | (cases hk; done) | (walk_at "d"; exact ⟨false, rfl, (fun z => nomatch z), fun _ => ⟨_, Sub.refl _, k2 rfl⟩⟩)
end
end Kn

set_option Elab.async false
set_option linter.all false
set_option maxRecDepth 100000
set_option maxHeartbeats 40000000
set_option pp.maxSteps 400
namespace Kn
open PySem PySem.Spec PyProof.Rows L2
local macro_rules | `(tactic| walk_at "e1") => `(tactic| first
  | with_reducible refine w_seq ?_
  | with_reducible refine w_next ?_
  | with_reducible refine w_brk ?_
  | with_reducible refine w_cont ?_
  | with_reducible refine w_drop ?_
  | with_reducible refine w_ret ?_
  | with_reducible refine w_ifs ?_
  | with_reducible refine w_asg ?_
  | with_reducible refine w_nm ?_
  | with_reducible refine w_c ?_
  | with_reducible refine w_op ?_
  | with_reducible refine w_un ?_
  | with_reducible refine w_chain ?_
  | with_reducible refine w_test ?_
  | with_reducible refine w_and ?_
  | with_reducible refine w_or ?_
  | with_reducible refine w_not ?_
  | with_reducible refine w_yes ?_
  | with_reducible refine w_andV ?_
  | with_reducible refine w_orV ?_
  | with_reducible refine w_notV ?_
  | with_reducible refine w_ifE ?_
  | with_reducible refine w_nil ?_
  | with_reducible refine w_cons ?_
  | with_reducible refine w_tup ?_
  | with_reducible refine w_lst ?_
  | with_reducible refine w_cb ?_
  | with_reducible refine w_call ?_
  | with_reducible refine w_make ?_
  | with_reducible refine w_meth ?_
  | with_reducible refine w_fld ?_
  | with_reducible refine w_sfld ?_
  | with_reducible refine w_raise ?_
  | with_reducible refine w_try ?_
  | with_reducible refine w_gsq ?_
  | with_reducible refine w_gsb ?_
  | with_reducible refine w_isT ?_
  | with_reducible refine w_bm ?_
  | with_reducible refine w_bm0 ?_
  | with_reducible refine w_m0 ?_
  | with_reducible refine w_sl ?_
  | with_reducible refine w_part ?_
  | with_reducible refine w_nop ?_
  | with_reducible refine w_rev ?_
  | with_reducible refine w_isq ?_
  | with_reducible refine w_r1 ?_
  | with_reducible refine w_r2 ?_
  | with_reducible refine w_r3 ?_
  | with_reducible refine w_thru ?_
  | with_reducible refine w_en ?_
  | with_reducible refine w_kgT ?_
  | with_reducible refine w_ends ?_
  | with_reducible refine w_ist ?_
  | with_reducible refine w_for ?_
  | with_reducible refine w_lc ?_
  | with_reducible refine w_blP ?_
  | with_reducible refine w_intP ?_
  | with_reducible refine w_strP ?_
  | with_reducible refine w_strE ?_
  | with_reducible refine w_addI ?_
  | with_reducible refine w_ii ?_
  | with_reducible refine w_neg ?_
  | with_reducible refine w_eqI ?_
  | with_reducible refine w_eqS ?_
  | with_reducible refine w_neI ?_
  | with_reducible refine w_neS ?_
  | with_reducible refine w_is ?_
  | with_reducible refine w_isN ?_
  | with_reducible refine w_slS ?_
  | with_reducible refine w_lenS ?_
  | with_reducible refine w_lenT ?_
  | with_reducible refine w_lenL ?_
  | with_reducible refine w_lenC ?_
  | with_reducible refine w_int1b ?_
  | with_reducible refine w_int1i ?_
  | with_reducible refine w_strip ?_
  | with_reducible refine w_lock ?_
  | with_reducible refine w_dget ?_
  | with_reducible refine w_din ?_
  | with_reducible refine w_dget2 ?_
  | with_reducible refine w_dpn ?_
  | with_reducible refine w_dpc ?_
  | with_reducible refine w_disp ?_
  | with_reducible refine w_ivals ?_
  | with_reducible refine w_par ?_
  | with_reducible refine w_dgv ?_
  | with_reducible refine w_revS ?_
  | with_reducible refine w_max2 ?_
  | with_reducible refine w_min2 ?_
  | with_reducible refine w_var rfl ?_
  | with_reducible refine w_gcn ?_
  | with_reducible refine w_gnl ?_
  | with_reducible refine iteT ?_
  | with_reducible refine iteF ?_
  | with_reducible refine ite_not ?_
  | with_reducible refine w_ixT atI_zero ?_
  | with_reducible refine w_ixL atI_zero ?_
  | with_reducible refine w_kg ?_
  | ((with_reducible refine w_ixT (d := ?dd) ?hi ?_); case hi => rfl)
  | ((with_reducible refine w_ixL (d := ?dd) ?hi ?_); case hi => rfl)
  | ((with_reducible refine w_isi_str ?hk ?_); case hk => rfl)
  | ((with_reducible refine w_isi_int ?hk ?_); case hk => rfl)
  | ((with_reducible refine w_isi_bool ?hk ?_); case hk => rfl)
  | ((with_reducible refine w_isi_tuple ?hk ?_); case hk => rfl)
  | ((with_reducible refine w_isi_list ?hk ?_); case hk => rfl)
  | ((with_reducible refine w_fldI (v := ?dd) ?hf ?_); case hf => rfl)
  | ((with_reducible refine w_lenok ?hl ?_); case hl => exact Nat.le_of_ble_eq_true rfl)
  | ((with_reducible refine w_tym ?hl ?_); case hl => exact rfl))
local macro_rules | `(tactic| walk_at "e") => `(tactic| repeat walk_at "e1")
local macro_rules | `(tactic| walk_at "d1") => `(tactic| first
  | walk_at "e1"
  | with_reducible refine w_gv_non ?_
  | with_reducible refine w_gv_bl ?_
  | with_reducible refine w_gv_int ?_
  | with_reducible refine w_gv_str ?_
  | with_reducible refine w_gv_tup ?_
  | with_reducible refine w_gv_lst ?_
  | with_reducible refine w_gv_ins ?_)
local macro_rules | `(tactic| walk_at "d") => `(tactic| repeat walk_at "d1")

section
variable {w : World} {P : Program} {mg : Str → Option Value} {K : PySem.W.Frag} {base : Heap}
def sp_Lwell (_K : PySem.W.Frag) : Spd := fun ds st Q _ => ∃ z : Int, ds = [.int z] ∧ ∀ n, st n = none → Q (.ref n) (sset st n .well)
def sp_Ldraw (_K : PySem.W.Frag) : Spd := fun ds st Q _ => ∃ (w : Nat) (n : Int), ds = [.ref w, .int n] ∧ st w = some .well ∧ 0 < n ∧ n < 2 ^ 100 ∧ ∀ r, 0 ≤ r → r < n → Q (.int r) st
theorem div_ok {n : Int} (h0 : 0 < n) (h : n < 2 ^ 100) : CDivW 0 n := wide_div (b := 100) h0 (by omega) (by decide) (by decide)
theorem m31 (x : Int) : -(2 ^ 64) < x.fmod 2147483647 ∧ x.fmod 2147483647 < 2 ^ 64 := by
  have := fmod_lt (a := x) (n := 2147483647) (by decide)
  omega
theorem sset_well {st : Sto} {w : Nat} {o : OV} (h : st w = some .well) : sset (sset st w o) w .well = st := by
  funext m
  unfold sset
  by_cases e : m = w
  · rw [if_pos e, e, h]
  · rw [if_neg e, if_neg e]

theorem ok_Lwell (T : Tx P w K mg base) : DefOk P w K mg base 1 ("_law_well", none) ["_law_cell"] (spOf K (sp_Lwell K)) := by
  refine mkOkD T.f_Lwell sc_Lwell (fun ds st Q E h => ?_) (fun _ _ _ _ _ _ us hl => match us, hl with | [_], _ => rfl) (fun cdv A outer s H E hr ds st Q Ed h => ?_)
  · obtain ⟨z, rfl, k⟩ := h
    rfl
  · obtain ⟨z, rfl, k⟩ := h
    refine ⟨_, (dss_one (ds_ret (d_lst (da_cons (d_op kMulD (d_var (pv 0)) (d_callTy kInt1D rfl T.n_int (by decide +kernel) (da_cons (d_cmp kGeD (d_var (pv 0)) (d_op kPowD d_int d_int) (nomark _)) da_nil))) (da_cons (d_op kModD (d_var (pv 0)) d_int) (da_cons d_int da_nil)))))), .inl ?_⟩
    walk_at "d"
    refine w_ic ⟨by decide, by decide, by decide⟩ ?_
    walk_at "d"
    refine w_mulI (.inr (by split <;> decide)) ?_
    walk_at "d"
    refine w_ic (by decide) ?_
    walk_at "d"
    refine w_lstS fun n hn => ?_
    refine w_tie sset_same ?_
    rw [sset_sset]
    exact ⟨_, _, .refl, k n hn⟩

theorem ok_Ldraw (T : Tx P w K mg base) : DefOk P w K mg base 1 ("_law_draw", none) ["_law_well_here", "_law_many"] (spOf K (sp_Ldraw K)) := by
  refine mkOkD T.f_Ldraw sc_Ldraw (fun ds st Q E h => ?_) (fun _ _ _ _ _ _ us hl => match us, hl with | [_, _], _ => rfl) (fun cdv A outer s H E hr ds st Q Ed h => ?_)
  · obtain ⟨w0, n, rfl, hw, hn, hb, k⟩ := h
    rfl
  · obtain ⟨w0, n, rfl, hw, hn, hb, k⟩ := h
    refine ⟨_, (dss_cons (ds_if (dt_cmp kGtD (d_ix (kIxD rfl) (d_var (pv 0)) d_int (fun _ _ => rfl)) d_int (nomark _)) (dss_cons (ds_set (i := 2) sc_Ldraw.nd rfl (Or.inl rfl) (d_op kModD (d_ix (kIxD rfl) (d_var (pv 0)) d_int (fun _ _ => rfl)) (d_var (pv 1))))
      (dss_cons (ds_asg (d_op kDivD (d_ix (kIxD rfl) (d_var (pv 0)) d_int (fun _ _ => rfl)) (d_var (pv 1))) (dg_sub (d_var (pv 0)) d_int (kSetD hr)))
      (dss_one (ds_ret (d_var (pv 2)))))) dss_nil)
      (dss_cons (ds_asg (d_op (kAddD rfl) (d_ix (kIxD rfl) (d_var (pv 0)) d_int (fun _ _ => rfl)) d_int) (dg_sub (d_var (pv 0)) d_int (kSetD hr)))
      (dss_cons (ds_set (i := 3) sc_Ldraw.nd rfl (Or.inl rfl) (d_op kModD (d_op kMulD (d_op (kAddD rfl) (d_op (kAddD rfl) (d_ix (kIxD rfl) (d_var (pv 0)) d_int (fun _ _ => rfl)) (d_op kMulD d_int (d_ix (kIxD rfl) (d_var (pv 0)) d_int (fun _ _ => rfl)))) d_int) d_int) d_int))
      (dss_cons (ds_set (i := 3) sc_Ldraw.nd rfl (Or.inl rfl) (d_op kModD (d_op kMulD (d_var (pv 3)) (d_op (kAddD rfl) (d_op kDivD (d_var (pv 3)) d_int) d_int)) d_int))
      (dss_one (ds_ret (d_op kModD (d_op kModD (d_op kMulD (d_var (pv 3)) (d_op (kAddD rfl) (d_op kDivD (d_var (pv 3)) d_int) d_int)) d_int) (d_var (pv 1))))))))), .inr ⟨w0, hw, fun i0 i1 i2 => ?_⟩⟩
    have hd := div_ok hn hb
    walk_at "d"
    refine w_ixR sset_same (atI_nat (j := 0) rfl) ?_
    walk_at "d"
    by_cases h : 0 < i0
    · rw [decide_eq_true h]
      walk_at "d"
      refine w_ixR sset_same (atI_nat (j := 0) rfl) ?_
      walk_at "d"
      refine w_ic (by omega) ?_
      walk_at "d"
      refine w_ixR sset_same (atI_nat (j := 0) rfl) ?_
      walk_at "d"
      refine w_ic hd ?_
      walk_at "d"
      refine w_set sset_same (m := 0) rfl ?_
      rw [sset_sset]
      walk_at "e"
      refine w_tie sset_same ?_
      rw [sset_well hw]
      exact ⟨_, _, .refl, k _ (fmod_lt hn).1 (fmod_lt hn).2⟩
    · rw [decide_eq_false h]
      walk_at "d"
      refine w_ixR sset_same (atI_nat (j := 2) rfl) ?_
      walk_at "d"
      refine w_set sset_same (m := 2) rfl ?_
      rw [sset_sset]
      walk_at "d"
      refine w_ixR sset_same (atI_nat (j := 1) rfl) ?_
      walk_at "d"
      refine w_ixR sset_same (atI_nat (j := 2) rfl) ?_
      walk_at "d"
      refine w_mulI (.inl (by decide)) ?_
      walk_at "d"
      refine w_mulI (.inr (by decide)) ?_
      walk_at "d"
      refine w_ic (by decide) ?_
      walk_at "d"
      refine w_ic ⟨by decide, by decide⟩ ?_
      walk_at "d"
      refine w_mulI (.inl (m31 _)) ?_
      walk_at "d"
      refine w_ic (by decide) ?_
      walk_at "d"
      refine w_ic ⟨by decide, by decide⟩ ?_
      walk_at "d"
      refine w_mulI (.inl (m31 _)) ?_
      walk_at "d"
      refine w_ic (by decide) ?_
      walk_at "e"
      refine w_ic (by omega) ?_
      refine w_tie sset_same ?_
      rw [sset_well hw]
      exact ⟨_, _, .refl, k _ (fmod_lt hn).1 (fmod_lt hn).2⟩

theorem use_draw {w : Nat} {n : Int} {st : Sto} {Q : KD} {E : KX} (hw : st w = some .well) (hn : 0 < n) (hb : n < 2 ^ 100) (k : ∀ r, 0 ≤ r → r < n → Q (.int r) st) : sp_Ldraw K [.ref w, .int n] st Q E := ⟨w, n, rfl, hw, hn, hb, k⟩
def sp_Lname (_K : PySem.W.Frag) : Spd := fun ds st Q _ => ∃ (w : Nat), ds = [.ref w] ∧ st w = some .well ∧ ∀ s, Nm s → Q (.str s) st
def nmA : List Str := ["in", "year", "head", "limit", "rule", "back", "right", "give", "hold", "move", "spend", "promise"]
def nmZ : List Str := ["lessen", "out", "none", "carried"]
theorem nmAZ : ∀ s ∈ nmA ++ nmZ, Nm s := by
  have h : (nmA ++ nmZ).all nmB = true := by decide +kernel
  exact fun s hs => nm_of (List.all_eq_true.mp h s hs)
theorem sgn (i : Nat) (h : i < 26) : atI (cl LETk) (i : Int) = some (97 + i) := by
  have h2 : ∀ k : _root_.Fin 26, (cl LETk)[k.val]? = some (97 + k.val) := by decide +kernel
  exact atI_nat (h2 ⟨i, h⟩)
theorem one_len (cs : List Nat) : ((cs.map one).map (·.length)).sum = cs.length := by
  induction cs with
  | nil => rfl
  | cons a r ih =>
    rw [List.map_cons, List.map_cons, List.sum_cons, ih, List.length_cons]
    show 1 + r.length = _
    omega
theorem Nm.sok {s : Str} (h : Nm s) : SOk s := ⟨h.ok, by have := h.len; omega⟩

theorem ok_Lname (T : Tx P w K mg base) : DefOk P w K mg base 2 ("_law_name", none) ["_law_well_here"] (spOf K (sp_Lname K)) := by
  refine mkOkD T.f_Lname sc_Lname (fun ds st Q E h => ?_) (fun _ _ _ _ _ _ us hl => match us, hl with | [_], _ => rfl) (fun cdv A outer s H E hr ds st Q Ed h => ?_)
  · obtain ⟨w0, rfl, hw, k⟩ := h
    rfl
  · obtain ⟨w0, rfl, hw, k⟩ := h
    refine ⟨_, (dss_cons (ds_if (dt_cmp (kEqD rfl hr) (d_call (takes_of rfl rfl rfl rfl) (ok_Ldraw (K := K) T) T.g__law_draw (hr.mono (by decide)) (da_cons (d_var (pv 0)) (da_cons d_int da_nil))) d_int (nomark _)) (dss_cons (ds_set (i := 1) sc_Lname.nd rfl (Or.inl rfl) (d_lst (da_cons (d_str (by decide +kernel)) (da_cons (d_str (by decide +kernel)) (da_cons (d_str (by decide +kernel)) (da_cons (d_str (by decide +kernel)) (da_cons (d_str (by decide +kernel)) (da_cons (d_str (by decide +kernel)) (da_cons (d_str (by decide +kernel)) (da_cons (d_str (by decide +kernel)) (da_cons (d_str (by decide +kernel)) (da_cons (d_str (by decide +kernel)) (da_cons (d_str (by decide +kernel)) (da_cons (d_str (by decide +kernel)) da_nil))))))))))))))
      (dss_one (ds_ret (d_ix (kIxD rfl) (d_op (kAddD rfl) (d_var (pv 1)) (d_lst (da_cons (d_str (by decide +kernel)) (da_cons (d_str (by decide +kernel)) (da_cons (d_str (by decide +kernel)) (da_cons (d_str (by decide +kernel)) da_nil)))))) (d_call (takes_of rfl rfl rfl rfl) (ok_Ldraw (K := K) T) T.g__law_draw (hr.mono (by decide)) (da_cons (d_var (pv 0)) (da_cons d_int da_nil))) (fun _ _ => rfl))))) dss_nil)
      (dss_cons (ds_set (i := 2) sc_Lname.nd rfl (Or.inr rfl) (d_str (by decide +kernel)))
      (dss_one (ds_ret (d_bm rfl PySem.F.plainAttrs_str PySem.F.slot_str_join PySem.F.type_str_join (kJoinD rfl) (d_str (by decide +kernel)) (da_cons (d_lc (own := [("_law_k", 3)]) rfl sc_Lname.nd (di_rng1 rfl T.n_range (da_cons (d_op (kAddD rfl) d_int (d_call (takes_of rfl rfl rfl rfl) (ok_Ldraw (K := K) T) T.g__law_draw (hr.mono (by decide)) (da_cons (d_var (pv 0)) (da_cons d_int da_nil)))) da_nil)) (blkOk_by (N := nm_Lname) (sc := defScope s_Lname) (by decide +kernel)) (by decide) (fun _ _ _ _ _ => (dg_name (pg_name (i := 3) sc_Lname.nd rfl (Or.inl rfl)))) (fun _ _ _ _ _ => dts_nil) (fun _ _ _ _ _ => (d_ix (kIxD rfl) (d_var (pv 2)) (d_call takes0 (ok_Ldraw (K := K) T) T.g__law_draw (hr.mono (by decide)) (da_cons (d_var (pv 0)) (da_cons d_int da_nil))) (fun _ _ => rfl)))) da_nil)))))), .inl ?_⟩
    walk_at "d"
    refine use_draw hw (by decide) (by decide) fun r hr0 hr1 => ?_
    walk_at "d"
    by_cases h : r = 0
    · rw [decide_eq_true h]
      walk_at "d"
      refine w_lstF ?_
      walk_at "d"
      refine w_lstF ?_
      refine w_addL (a := nmA.map DV.str) (b := nmZ.map DV.str) rfl rfl (by decide +kernel) (w_lstF ?_)
      walk_at "d"
      refine use_draw hw (by decide) (by decide) fun r2 hr2 hr3 => ?_
      obtain ⟨v, h1, h2, _⟩ := atI_lt (xs := nmA.map DV.str ++ nmZ.map DV.str) hr2 (by show r2 < 16; exact hr3)
      rw [← List.map_append] at h2
      obtain ⟨z, hz, rfl⟩ := List.mem_map.mp h2
      refine w_ixL h1 ?_
      exact ⟨_, _, .refl, k _ (nmAZ z hz)⟩
    · rw [decide_eq_false h]
      walk_at "d"
      refine use_draw hw (by decide) (by decide) fun r2 hr2 hr3 => ?_
      walk_at "d"
      refine ⟨_, rfl, ⟨by omega, by omega⟩, by rw [rgD_len]; omega, fun i acc s => s = st ∧ ∃ cs : List Nat, acc = (cs.map one).map DV.str ∧ cs.length = i ∧ ∀ c ∈ cs, 97 ≤ c ∧ c ≤ 122, ⟨rfl, [], rfl, rfl, fun c hc => nomatch hc⟩, fun _ _ _ _ _ => trivial, ?_, ?_⟩
      · rintro i x acc s hx ⟨rfl, cs, rfl, hn, hc⟩
        walk_at "d"
        refine use_draw (n := 26) hw (by decide) (by decide) fun r3 hr4 hr5 => ?_
        have hs := sgn r3.toNat (by omega)
        rw [Int.toNat_of_nonneg hr4] at hs
        refine w_ixS (s := LETk) hs ?_
        refine ⟨rfl, cs ++ [97 + r3.toNat], by simp, by rw [List.length_append, hn]; rfl, ?_⟩
        intro c h2
        rcases List.mem_append.mp h2 with h2 | h2
        · exact hc c h2
        · rw [List.mem_singleton.mp h2]
          omega
      · rintro acc s ⟨rfl, cs, rfl, hn, hc⟩
        rw [rgD_len] at hn
        have hcl : cl (Str.join "" (cs.map one)) = cs := join_empty
        refine w_lstF ?_
        walk_at "d"
        refine w_join (ss := cs.map one) rfl ?_ ?_
        · rw [one_len, List.length_map]
          show cs.length + cs.length * 0 ≤ 100000
          omega
        · refine ⟨_, _, .refl, k _ ⟨?_, ?_, ?_⟩⟩
          · rw [hcl]
            intro e
            rw [e] at hn
            have : (0 : Nat) = (1 + r2).toNat := hn
            omega
          · rw [hcl, hn]; omega
          · rw [hcl]; exact hc

def sp_Lnames (_K : PySem.W.Frag) : Spd := fun ds st Q _ => ∃ (w : Nat) (m : Nat), ds = [.ref w, .int m] ∧ st w = some .well ∧ m ≤ 20 ∧ ∀ ns : List Str, ns.length = m → (∀ s ∈ ns, Nm s) → ns.Nodup → Q (.lst (ns.map DV.str)) st
theorem use_name {w : Nat} {st : Sto} {Q : KD} {E : KX} (hw : st w = some .well) (k : ∀ s, Nm s → Q (.str s) st) : sp_Lname K [.ref w] st Q E := ⟨w, rfl, hw, k⟩
theorem deq_nil {ds : List DV} : deq (.lst ds) (.lst []) = ds.isEmpty := by
  cases ds <;> rfl
theorem sgD_let : sgD LETk = ((List.range 26).map fun j => one (97 + j)).map DV.str := by
  have e : LETk.cps.toList = (List.range 26).map fun j => 97 + j := by decide +kernel
  unfold sgD
  rw [e, List.map_map, List.map_map]
  rfl
def firstNew (ns : List Str) (nm : Str) : List Str := (nm :: cands (cutS nm none (some 7))).filter fun s => !decide (s ∈ ns)
theorem firstNew_ok {ns : List Str} {nm : Str} (h : Nm nm) (hl : ns.length ≤ 20) : ∃ s r, firstNew ns nm = s :: r ∧ Nm s ∧ s ∉ ns := by
  have hne : firstNew ns nm ≠ [] := by
    intro e
    obtain ⟨x, hx, hn⟩ := some_not_in (cands_nodup (cutS nm none (some 7))) (ys := ns) (by
      show ns.length < ((List.range 26).map _).length
      rw [List.length_map, List.length_range]; omega)
    have : x ∈ firstNew ns nm := List.mem_filter.mpr ⟨List.mem_cons_of_mem _ hx, by simpa using hn⟩
    rw [e] at this
    cases this
  match hq : firstNew ns nm, hne with
  | s :: r, _ =>
    have hm : s ∈ firstNew ns nm := by rw [hq]; exact List.mem_cons_self ..
    obtain ⟨h1, h2⟩ := List.mem_filter.mp hm
    refine ⟨s, r, rfl, ?_, by simpa using h2⟩
    rcases List.mem_cons.mp h1 with rfl | h1
    · exact h
    · obtain ⟨j, hj, rfl⟩ := List.mem_map.mp h1
      have := List.mem_range.mp hj
      exact nm_cut h (by omega) (by omega)

theorem ok_Lnames (T : Tx P w K mg base) : DefOk P w K mg base 3 ("_law_names", none) ["_law_well_here", "_law_many"] (spOf K (sp_Lnames K)) := by
  refine mkOkD T.f_Lnames sc_Lnames (fun ds st Q E h => ?_) (fun _ _ _ _ _ _ us hl => match us, hl with | [_, _], _ => rfl) (fun cdv A outer s H E hr ds st Q Ed h => ?_)
  · obtain ⟨w0, m, rfl, hw, hm, k⟩ := h
    rfl
  · obtain ⟨w0, m, rfl, hw, hm, k⟩ := h
    refine ⟨_, (dss_cons (ds_set (i := 2) sc_Lnames.nd rfl (Or.inr rfl) (d_lst da_nil))
      (dss_cons (ds_for (passes_of rfl) rfl (di_rng1 rfl T.n_range (da_cons (d_var (pv 1)) da_nil)) (dg_name (pg_name (i := 3) sc_Lnames.nd rfl (Or.inl rfl))) (dss_cons (ds_set (i := 4) sc_Lnames.nd rfl (Or.inr rfl) (d_call (takes_of rfl rfl rfl rfl) (ok_Lname (K := K) T) T.g__law_name (hr.mono (by decide)) (da_cons (d_var (pv 0)) da_nil)))
      (dss_cons (ds_if (dw_1 (dw_and (dt_cmp (kNeD rfl hr) (d_var (pv 2)) (d_lst da_nil) (nomark _)) (dw_and1 (dt_cmp (kEqD rfl hr) (d_call (takes_of rfl rfl rfl rfl) (ok_Ldraw (K := K) T) T.g__law_draw (hr.mono (by decide)) (da_cons (d_var (pv 0)) (da_cons d_int da_nil))) d_int (nomark _))))) (dss_one (ds_set (i := 4) sc_Lnames.nd rfl (Or.inr rfl) (d_ix (kIxD rfl) (d_var (pv 2)) (d_call (takes_of rfl rfl rfl rfl) (ok_Ldraw (K := K) T) T.g__law_draw (hr.mono (by decide)) (da_cons (d_var (pv 0)) (da_cons (d_callB (kLenD rfl) rfl T.n_len (by decide +kernel) (da_cons (d_var (pv 2)) da_nil)) da_nil))) (fun _ _ => rfl)))) dss_nil)
      (dss_cons (ds_set (i := 5) sc_Lnames.nd rfl (Or.inl rfl) (d_op (kAddD rfl) (d_lst (da_cons (d_var (pv 4)) da_nil)) (d_lc (own := [("_law_sign", 6)]) rfl sc_Lnames.nd (di_str (d_str (by decide +kernel))) (blkOk_by (N := nm_Lnames) (sc := defScope s_Lnames) (by decide +kernel)) (by decide) (fun _ _ _ _ _ => (dg_name (pg_name (i := 6) sc_Lnames.nd rfl (Or.inl rfl)))) (fun _ _ _ _ _ => dts_nil) (fun _ _ _ _ _ => (d_op (kAddD rfl) (d_slice (kSlD rfl) (d_var (pv 4)) do_none (do_some d_int)) (d_var (pv 6)))))))
      (dss_one (ds_expr (d_bm rfl PySem.F.plainAttrs_list PySem.F.slot_list_append PySem.F.type_list_append kAppD (d_var (pv 2)) (da_cons (d_ix (kIxD rfl) (d_lc (own := [("_law_one", 7)]) rfl sc_Lnames.nd (di_seq rfl (d_var (pv 5))) (blkOk_by (N := nm_Lnames) (sc := defScope s_Lnames) (by decide +kernel)) (by decide) (fun _ _ _ _ _ => (dg_name (pg_name (i := 7) sc_Lnames.nd rfl (Or.inl rfl)))) (fun _ _ _ _ _ => (dts_one (dt_cmp (kNiD rfl hr) (d_var (pv 7)) (d_var (pv 2)) (by rfl)))) (fun _ _ _ _ _ => (d_var (pv 7)))) d_int (fun _ _ => rfl)) da_nil))))))))
      (dss_one (ds_ret (d_var (pv 2)))))), .inl ?_⟩
    walk_at "d"
    refine w_lstS fun f hf => ?_
    have nwf : w0 ≠ f := sne_of hw hf
    walk_at "d"
    refine ⟨_, rfl, ⟨by omega, by omega⟩, fun i sl s => (∃ v3 v4 v5 v6 v7, sl = [some (.ref w0), some (.int m), some (.ref f), v3, v4, v5, v6, v7]) ∧ ∃ ns : List Str, s = sset st f (.lst (ns.map DV.str)) ∧ ns.length = i ∧ (∀ s ∈ ns, Nm s) ∧ ns.Nodup, ⟨⟨_, _, _, _, _, rfl⟩, [], rfl, rfl, fun _ z => (nomatch z), .nil⟩, fun _ _ _ _ _ => trivial, ?_, ?_⟩
    · rintro i x sl s hx ⟨⟨v3, v4, v5, v6, v7, rfl⟩, ns, rfl, hl, hnm, hnd⟩
      have hi : i < m := by
        have := (List.getElem?_eq_some_iff.mp hx).1
        rw [rgD_len] at this
        omega
      have hw2 : sset st f (.lst (ns.map DV.str)) w0 = some .well := by rw [sset_ne nwf]; exact hw
      walk_at "d"
      refine use_name hw2 fun nm hnm1 => ?_
      walk_at "d1"
      with_reducible refine w_cut (fun sl s => s = sset st f (.lst (ns.map DV.str)) ∧ ∃ nm, Nm nm ∧ sl = [some (.ref w0), some (.int m), some (.ref f), some x, some (.str nm), v5, v6, v7]) ?_ fun U hU => ?_
      · rintro sl s ⟨rfl, nm, hnm1, rfl⟩
        walk_at "d"
        refine w_lstF ?_
        walk_at "d"
        rw [show sgD (Str.ofString "abcdefghijklmnopqrstuvwxyz") = _ from sgD_let]
        refine w_lcmap (fun d => match d with | .str c => .str (cutS nm none (some 7) ++ c) | d => d) trivial (fun y hy QQ hq => ?_) (by decide +kernel) (w_lstF ?_)
        · obtain ⟨c, hc, rfl⟩ := List.mem_map.mp hy
          walk_at "d"
          refine w_addS ?_ hq
          obtain ⟨j, _, rfl⟩ := List.mem_map.mp hc
          have h7 := congrArg List.length (cl_cut7 nm)
          rw [← cl_len, List.length_take] at h7
          show (cutS nm none (some 7)).length + 1 ≤ 100000
          omega
        have e1 : [DV.str nm] ++ ((((List.range 26).map fun j => one (97 + j)).map DV.str).map fun d => match d with | .str c => .str (cutS nm none (some 7) ++ c) | d => d) = (nm :: cands (cutS nm none (some 7))).map DV.str := by
          unfold cands
          rw [List.map_map, List.map_map, List.map_cons, List.map_map]
          rfl
        refine w_addL (a := [DV.str nm]) rfl rfl (by rw [List.length_map, List.length_map, List.length_map, List.length_range]; show 1 + 26 ≤ 100000; decide) (w_lstF ?_)
        rw [e1]
        walk_at "d"
        refine ⟨tyM_l sset_same, ?_⟩
        walk_at "d"
        refine ⟨_, rfl, ?_⟩
        refine w_lcfil (fun d => match d with | .str s => !decide (s ∈ ns) | _ => false) (fun d => d) rfl (fun y hy QQ hq => ?_) ?_ (w_lstF ?_)
        · obtain ⟨c, hc, rfl⟩ := List.mem_map.mp hy
          walk_at "d"
          refine w_niStr (vw_r sset_same) ?_
          walk_at "d"
          cases h : decide (c ∈ ns) with
          | true =>
            simp only [h] at hq
            walk_at "d"
            exact hq
          | false =>
            simp only [h] at hq
            walk_at "d"
            exact hq
        · rw [List.length_map, List.length_cons]
          show ((List.range 26).map _).length + 1 ≤ 100000
          rw [List.length_map, List.length_range]
          decide
        have e2 : ((((nm :: cands (cutS nm none (some 7))).map DV.str).filter fun d => match d with | .str s => !decide (s ∈ ns) | _ => false).map fun d => d) = (firstNew ns nm).map DV.str := by
          rw [List.map_id', List.filter_map]
          rfl
        rw [e2]
        obtain ⟨s, r, e3, hs, hsn⟩ := firstNew_ok (ns := ns) hnm1 (by omega)
        rw [e3, show (s :: r).map DV.str = DV.str s :: r.map DV.str from rfl]
        walk_at "d"
        refine w_app (es := ns.map DV.str) sset_same (by rw [List.length_map]; omega) ?_
        rw [sset_sset]
        walk_at "d"
        refine ⟨⟨_, _, _, _, _, rfl⟩, ns ++ [s], by rw [List.map_append]; rfl, by rw [List.length_append, hl]; rfl, ?_, ?_⟩
        · intro z hz
          rcases List.mem_append.mp hz with hz | hz
          · exact hnm z hz
          · rw [List.mem_singleton.mp hz]; exact hs
        · refine List.nodup_append.mpr ⟨hnd, by simp, ?_⟩
          intro a ha b hb
          rw [List.mem_singleton.mp hb]
          exact fun e => hsn (e ▸ ha)
      · walk_at "d"
        refine w_lstF ?_
        refine w_ne (by rw [vw_r sset_same]; exact all_str) rfl ?_
        rw [vw_r sset_same, show vw (sset st f (.lst (ns.map DV.str))) (.lst []) = .lst [] from rfl, deq_nil]
        walk_at "d"
        match ns, hl, hnm with
        | [], hl, hnm =>
          walk_at "d"
          exact hU _ _ ⟨rfl, nm, hnm1, rfl⟩
        | a :: r, hl, hnm =>
          rw [show ((a :: r).map DV.str).isEmpty = false from rfl]
          walk_at "d"
          refine use_draw hw2 (by decide) (by decide) fun d hd0 hd1 => ?_
          walk_at "d"
          cases h : decide (d = 0) with
          | false =>
            walk_at "d"
            exact hU _ _ ⟨rfl, nm, hnm1, rfl⟩
          | true =>
            walk_at "d"
            refine w_lenR sset_same ?_
            walk_at "d"
            refine use_draw hw2 (by rw [List.length_map, List.length_cons]; omega) (by rw [List.length_map]; omega) fun d2 hd2 hd3 => ?_
            obtain ⟨v, h1, h2, _⟩ := atI_lt (xs := (a :: r).map DV.str) hd2 hd3
            obtain ⟨z, hz, rfl⟩ := List.mem_map.mp h2
            refine w_ixR sset_same h1 ?_
            walk_at "d"
            exact hU _ _ ⟨rfl, z, hnm z hz, rfl⟩
    · rintro sl s ⟨⟨v3, v4, v5, v6, v7, rfl⟩, ns, rfl, hl, hnm, hnd⟩
      rw [rgD_len] at hl
      walk_at "e"
      refine w_frz sset_same ?_
      rw [sdel_set hf]
      exact ⟨_, _, .refl, k ns (by simpa using hl) hnm hnd⟩
end
end Kn

set_option Elab.async false
set_option linter.all false
set_option maxRecDepth 100000
set_option maxHeartbeats 40000000
set_option pp.maxSteps 400
namespace Kn
open PySem PySem.Spec PyProof.Rows L2
local macro_rules | `(tactic| walk_at "e1") => `(tactic| first
  | with_reducible refine w_seq ?_
  | with_reducible refine w_next ?_
  | with_reducible refine w_brk ?_
  | with_reducible refine w_cont ?_
  | with_reducible refine w_drop ?_
  | with_reducible refine w_ret ?_
  | with_reducible refine w_ifs ?_
  | with_reducible refine w_asg ?_
  | with_reducible refine w_nm ?_
  | with_reducible refine w_c ?_
  | with_reducible refine w_op ?_
  | with_reducible refine w_un ?_
  | with_reducible refine w_chain ?_
  | with_reducible refine w_test ?_
  | with_reducible refine w_and ?_
  | with_reducible refine w_or ?_
  | with_reducible refine w_not ?_
  | with_reducible refine w_yes ?_
  | with_reducible refine w_andV ?_
  | with_reducible refine w_orV ?_
  | with_reducible refine w_notV ?_
  | with_reducible refine w_ifE ?_
  | with_reducible refine w_nil ?_
  | with_reducible refine w_cons ?_
  | with_reducible refine w_tup ?_
  | with_reducible refine w_lst ?_
  | with_reducible refine w_cb ?_
  | with_reducible refine w_call ?_
  | with_reducible refine w_make ?_
  | with_reducible refine w_meth ?_
  | with_reducible refine w_fld ?_
  | with_reducible refine w_sfld ?_
  | with_reducible refine w_raise ?_
  | with_reducible refine w_try ?_
  | with_reducible refine w_gsq ?_
  | with_reducible refine w_gsb ?_
  | with_reducible refine w_isT ?_
  | with_reducible refine w_bm ?_
  | with_reducible refine w_bm0 ?_
  | with_reducible refine w_m0 ?_
  | with_reducible refine w_sl ?_
  | with_reducible refine w_part ?_
  | with_reducible refine w_nop ?_
  | with_reducible refine w_rev ?_
  | with_reducible refine w_isq ?_
  | with_reducible refine w_r1 ?_
  | with_reducible refine w_r2 ?_
  | with_reducible refine w_r3 ?_
  | with_reducible refine w_thru ?_
  | with_reducible refine w_en ?_
  | with_reducible refine w_kgT ?_
  | with_reducible refine w_ends ?_
  | with_reducible refine w_ist ?_
  | with_reducible refine w_for ?_
  | with_reducible refine w_lc ?_
  | with_reducible refine w_blP ?_
  | with_reducible refine w_intP ?_
  | with_reducible refine w_strP ?_
  | with_reducible refine w_strE ?_
  | with_reducible refine w_addI ?_
  | with_reducible refine w_ii ?_
  | with_reducible refine w_neg ?_
  | with_reducible refine w_eqI ?_
  | with_reducible refine w_eqS ?_
  | with_reducible refine w_neI ?_
  | with_reducible refine w_neS ?_
  | with_reducible refine w_is ?_
  | with_reducible refine w_isN ?_
  | with_reducible refine w_slS ?_
  | with_reducible refine w_lenS ?_
  | with_reducible refine w_lenT ?_
  | with_reducible refine w_lenL ?_
  | with_reducible refine w_lenC ?_
  | with_reducible refine w_int1b ?_
  | with_reducible refine w_int1i ?_
  | with_reducible refine w_strip ?_
  | with_reducible refine w_lock ?_
  | with_reducible refine w_dget ?_
  | with_reducible refine w_din ?_
  | with_reducible refine w_dget2 ?_
  | with_reducible refine w_dpn ?_
  | with_reducible refine w_dpc ?_
  | with_reducible refine w_disp ?_
  | with_reducible refine w_ivals ?_
  | with_reducible refine w_par ?_
  | with_reducible refine w_dgv ?_
  | with_reducible refine w_revS ?_
  | with_reducible refine w_max2 ?_
  | with_reducible refine w_min2 ?_
  | with_reducible refine w_var rfl ?_
  | with_reducible refine w_gcn ?_
  | with_reducible refine w_gnl ?_
  | with_reducible refine iteT ?_
  | with_reducible refine iteF ?_
  | with_reducible refine ite_not ?_
  | with_reducible refine w_ixT atI_zero ?_
  | with_reducible refine w_ixL atI_zero ?_
  | with_reducible refine w_kg ?_
  | ((with_reducible refine w_ixT (d := ?dd) ?hi ?_); case hi => rfl)
  | ((with_reducible refine w_ixL (d := ?dd) ?hi ?_); case hi => rfl)
  | ((with_reducible refine w_isi_str ?hk ?_); case hk => rfl)
  | ((with_reducible refine w_isi_int ?hk ?_); case hk => rfl)
  | ((with_reducible refine w_isi_bool ?hk ?_); case hk => rfl)
  | ((with_reducible refine w_isi_tuple ?hk ?_); case hk => rfl)
  | ((with_reducible refine w_isi_list ?hk ?_); case hk => rfl)
  | ((with_reducible refine w_fldI (v := ?dd) ?hf ?_); case hf => rfl)
  | ((with_reducible refine w_lenok ?hl ?_); case hl => exact Nat.le_of_ble_eq_true rfl)
  | ((with_reducible refine w_tym ?hl ?_); case hl => exact rfl))
local macro_rules | `(tactic| walk_at "e") => `(tactic| repeat walk_at "e1")
local macro_rules | `(tactic| walk_at "d1") => `(tactic| first
  | walk_at "e1"
  | with_reducible refine w_gv_non ?_
  | with_reducible refine w_gv_bl ?_
  | with_reducible refine w_gv_int ?_
  | with_reducible refine w_gv_str ?_
  | with_reducible refine w_gv_tup ?_
  | with_reducible refine w_gv_lst ?_
  | with_reducible refine w_gv_ins ?_)
local macro_rules | `(tactic| walk_at "d") => `(tactic| repeat walk_at "d1")

section
variable {w : World} {P : Program} {mg : Str → Option Value} {K : PySem.W.Frag} {base : Heap}
/-- a good tuple -/
inductive GT : List DV → Prop where
  | Give (h : Str) (c : Int) (n : Str) (hh : Nm h) (hc : (1 ≤ c ∧ c ≤ 1000000000000)) (hn : (n = "" ∨ Nm n))  : GT [.str "give", .str h, .int c, .str n]
  | Hold (h : Str) (c : Int) (u : Int) (n : Str) (hh : Nm h) (hc : (1 ≤ c ∧ c ≤ 1000000000000)) (hu : (2 ≤ u ∧ u ≤ 31)) (hn : (n = "" ∨ Nm n))  : GT [.str "hold", .str h, .int c, .int u, .str n]
  | Move (h : Str) (o : Str) (c : Int) (n : Str) (hh : Nm h) (ho : Nm o) (hc : (1 ≤ c ∧ c ≤ 1000000000000)) (hn : (n = "" ∨ Nm n)) (ne : h ≠ o) : GT [.str "move", .str h, .str o, .int c, .str n]
  | Spend (h : Str) (c : Int) (n : Str) (hh : Nm h) (hc : (1 ≤ c ∧ c ≤ 1000000000000)) (hn : (n = "" ∨ Nm n))  : GT [.str "spend", .str h, .int c, .str n]
  | Promise (r : Str) (h : Str) (c : Int) (n : Str) (hr : Nm r) (hh : Nm h) (hc : (1 ≤ c ∧ c ≤ 1000000000000)) (hn : (n = "" ∨ Nm n))  : GT [.str "promise", .str r, .str h, .int c, .str n]
  | Lessen (r : Str) (c : Int) (n : Str) (hr : Nm r) (hc : (1 ≤ c ∧ c ≤ 1000000000000)) (hn : (n = "" ∨ Nm n))  : GT [.str "lessen", .str r, .int c, .str n]
  | Out (r : Str) (c : Int) (n : Str) (hr : Nm r) (hc : (1 ≤ c ∧ c ≤ 1000000000000)) (hn : (n = "" ∨ Nm n))  : GT [.str "out", .str r, .int c, .str n]
def sp_Lcoins (_K : PySem.W.Frag) : Spd := fun ds st Q _ => ∃ (w : Nat), ds = [.ref w] ∧ st w = some .well ∧ ∀ c : Int, 1 ≤ c → c ≤ 1000000000000 → Q (.int c) st
def sp_Ltold (_K : PySem.W.Frag) : Spd := fun ds st Q _ => ∃ (w : Nat), ds = [.ref w] ∧ st w = some .well ∧ ∀ t, GT t → Q (.tup t) st

theorem ok_Lcoins (T : Tx P w K mg base) : DefOk P w K mg base 2 ("_law_coins", none) ["_law_well_here"] (spOf K (sp_Lcoins K)) := by
  refine mkOkD T.f_Lcoins sc_Lcoins (fun ds st Q E h => ?_) (fun _ _ _ _ _ _ us hl => match us, hl with | [_], _ => rfl) (fun cdv A outer s H E hr ds st Q Ed h => ?_)
  · obtain ⟨w0, rfl, hw, k⟩ := h
    rfl
  · obtain ⟨w0, rfl, hw, k⟩ := h
    refine ⟨_, (dss_one (ds_ret (d_ix (kIxD rfl) (d_lst (da_cons d_int (da_cons (d_op kPowD d_int d_int) (da_cons (d_op (kAddD rfl) d_int (d_call (takes_of rfl rfl rfl rfl) (ok_Ldraw (K := K) T) T.g__law_draw (hr.mono (by decide)) (da_cons (d_var (pv 0)) (da_cons (d_op kPowD d_int d_int) da_nil)))) (da_cons (d_op (kAddD rfl) d_int (d_call (takes_of rfl rfl rfl rfl) (ok_Ldraw (K := K) T) T.g__law_draw (hr.mono (by decide)) (da_cons (d_var (pv 0)) (da_cons d_int da_nil)))) da_nil))))) (d_call (takes_of rfl rfl rfl rfl) (ok_Ldraw (K := K) T) T.g__law_draw (hr.mono (by decide)) (da_cons (d_var (pv 0)) (da_cons d_int da_nil))) (fun _ _ => rfl)))), .inl ?_⟩
    walk_at "d"
    refine w_ic ⟨by decide, by decide, by decide⟩ ?_
    walk_at "d"
    refine w_ic ⟨by decide, by decide, by decide⟩ ?_
    walk_at "d"
    refine use_draw hw (by decide) (by decide) fun r1 h1 h2 => ?_
    walk_at "d"
    refine use_draw hw (by decide) (by decide) fun r2 h3 h4 => ?_
    walk_at "d"
    refine w_lstF ?_
    walk_at "d"
    refine use_draw hw (by decide) (by decide) fun r3 h5 h6 => ?_
    have h2 : r1 < 1000000000000 := h2
    obtain ⟨v, e1, e2, _⟩ := atI_lt (xs := [DV.int 1, .int (10 ^ 12), .int (1 + r1), .int (1 + r2)]) h5 h6
    refine w_ixL e1 ?_
    simp only [List.mem_cons, List.not_mem_nil, or_false] at e2
    rcases e2 with rfl | rfl | rfl | rfl <;> exact ⟨_, _, .refl, k _ (by omega) (by omega)⟩

theorem use_coins {w : Nat} {st : Sto} {Q : KD} {E : KX} (hw : st w = some .well) (k : ∀ c : Int, 1 ≤ c → c ≤ 1000000000000 → Q (.int c) st) : sp_Lcoins K [.ref w] st Q E := ⟨w, rfl, hw, k⟩
theorem use_names2 {w : Nat} {st : Sto} {Q : KD} {E : KX} (hw : st w = some .well) (k : ∀ a b : Str, Nm a → Nm b → a ≠ b → Q (.lst [.str a, .str b]) st) : sp_Lnames K [.ref w, .int 2] st Q E := by
  refine ⟨w, 2, rfl, hw, by decide, fun ns hl hn hd => ?_⟩
  match ns, hl with
  | [a, b], _ =>
    refine k a b (hn a (by simp)) (hn b (by simp)) fun e => ?_
    subst e
    simp at hd
def KW : List Str := ["give", "hold", "move", "spend", "promise", "lessen", "out"]
theorem KW_sok : ∀ s ∈ KW, SOk s := by
  have h : (KW.all fun s => decide (SOk s)) = true := by decide +kernel
  exact fun s hs => of_decide_eq_true (List.all_eq_true.mp h s hs)

theorem ok_Ltold (T : Tx P w K mg base) : DefOk P w K mg base 4 ("_law_told", none) ["_law_well_here"] (spOf K (sp_Ltold K)) := by
  refine mkOkD T.f_Ltold sc_Ltold (fun ds st Q E h => ?_) (fun _ _ _ _ _ _ us hl => match us, hl with | [_], _ => rfl) (fun cdv A outer s H E hr ds st Q Ed h => ?_)
  · obtain ⟨w0, rfl, hw, k⟩ := h
    rfl
  · obtain ⟨w0, rfl, hw, k⟩ := h
    refine ⟨_, (dss_cons (ds_set (i := 1) sc_Ltold.nd rfl (Or.inl rfl) (d_ix (kIxD rfl) (d_lst (da_cons (d_str (by decide +kernel)) (da_cons (d_str (by decide +kernel)) (da_cons (d_str (by decide +kernel)) (da_cons (d_str (by decide +kernel)) (da_cons (d_str (by decide +kernel)) (da_cons (d_str (by decide +kernel)) (da_cons (d_str (by decide +kernel)) da_nil)))))))) (d_call (takes_of rfl rfl rfl rfl) (ok_Ldraw (K := K) T) T.g__law_draw (hr.mono (by decide)) (da_cons (d_var (pv 0)) (da_cons d_int da_nil))) (fun _ _ => rfl)))
      (dss_cons (ds_asg (d_call (takes_of rfl rfl rfl rfl) (ok_Lnames (K := K) T) T.g__law_names (hr.mono (by decide)) (da_cons (d_var (pv 0)) (da_cons d_int da_nil))) (dg_seq (n := 2) rfl rfl (dgs_cons (dg_name (pg_name (i := 2) sc_Ltold.nd rfl (Or.inl rfl))) (dgs_cons (dg_name (pg_name (i := 3) sc_Ltold.nd rfl (Or.inl rfl))) dgs_nil))))
      (dss_cons (ds_set (i := 4) sc_Ltold.nd rfl (Or.inl rfl) (d_call (takes_of rfl rfl rfl rfl) (ok_Lcoins (K := K) T) T.g__law_coins (hr.mono (by decide)) (da_cons (d_var (pv 0)) da_nil)))
      (dss_cons (ds_set (i := 5) sc_Ltold.nd rfl (Or.inl rfl) (d_ix (kIxD rfl) (d_lst (da_cons (d_str (by decide +kernel)) (da_cons (d_call (takes_of rfl rfl rfl rfl) (ok_Lname (K := K) T) T.g__law_name (hr.mono (by decide)) (da_cons (d_var (pv 0)) da_nil)) (da_cons (d_var (pv 2)) (da_cons (d_var (pv 3)) da_nil))))) (d_call (takes_of rfl rfl rfl rfl) (ok_Ldraw (K := K) T) T.g__law_draw (hr.mono (by decide)) (da_cons (d_var (pv 0)) (da_cons d_int da_nil))) (fun _ _ => rfl)))
      (dss_cons (ds_if (dt_cmp (kEqD rfl hr) (d_var (pv 1)) (d_str (by decide +kernel)) (nomark _)) (dss_one (ds_ret (d_tup (da_cons (d_var (pv 1)) (da_cons (d_var (pv 2)) (da_cons (d_var (pv 4)) (da_cons (d_ix (kIxD rfl) (d_lst (da_cons d_int (da_cons d_int (da_cons (d_op (kAddD rfl) d_int (d_call (takes_of rfl rfl rfl rfl) (ok_Ldraw (K := K) T) T.g__law_draw (hr.mono (by decide)) (da_cons (d_var (pv 0)) (da_cons d_int da_nil)))) da_nil)))) (d_call (takes_of rfl rfl rfl rfl) (ok_Ldraw (K := K) T) T.g__law_draw (hr.mono (by decide)) (da_cons (d_var (pv 0)) (da_cons d_int da_nil))) (fun _ _ => rfl)) (da_cons (d_var (pv 5)) da_nil)))))))) dss_nil)
      (dss_cons (ds_if (dt_cmp (kEqD rfl hr) (d_var (pv 1)) (d_str (by decide +kernel)) (nomark _)) (dss_one (ds_ret (d_tup (da_cons (d_var (pv 1)) (da_cons (d_var (pv 2)) (da_cons (d_var (pv 3)) (da_cons (d_var (pv 4)) (da_cons (d_var (pv 5)) da_nil)))))))) dss_nil)
      (dss_cons (ds_if (dt_cmp (kEqD rfl hr) (d_var (pv 1)) (d_str (by decide +kernel)) (nomark _)) (dss_one (ds_ret (d_tup (da_cons (d_var (pv 1)) (da_cons (d_ix (kIxD rfl) (d_lst (da_cons (d_var (pv 3)) (da_cons (d_var (pv 2)) da_nil))) (d_call (takes_of rfl rfl rfl rfl) (ok_Ldraw (K := K) T) T.g__law_draw (hr.mono (by decide)) (da_cons (d_var (pv 0)) (da_cons d_int da_nil))) (fun _ _ => rfl)) (da_cons (d_var (pv 2)) (da_cons (d_var (pv 4)) (da_cons (d_var (pv 5)) da_nil)))))))) dss_nil)
      (dss_one (ds_ret (d_tup (da_cons (d_var (pv 1)) (da_cons (d_var (pv 2)) (da_cons (d_var (pv 4)) (da_cons (d_var (pv 5)) da_nil)))))))))))))), .inl ?_⟩
    walk_at "d"
    refine w_lstF ?_
    walk_at "d"
    refine use_draw hw (by decide) (by decide) fun r0 h00 h01 => ?_
    obtain ⟨v, e1, e2, _⟩ := atI_lt (xs := KW.map DV.str) h00 h01
    obtain ⟨kd, hkd, rfl⟩ := List.mem_map.mp e2
    refine w_ixL e1 ?_
    walk_at "d"
    refine use_names2 hw fun one other n1 n2 ne => ?_
    walk_at "d"
    refine ⟨_, rfl, rfl, ?_⟩
    walk_at "d"
    refine use_coins hw fun c c1 c2 => ?_
    walk_at "d"
    refine use_name hw fun nm hnm => ?_
    walk_at "d"
    refine w_lstF ?_
    walk_at "d"
    refine use_draw hw (by decide) (by decide) fun r1 h10 h11 => ?_
    obtain ⟨v, e3, e4, _⟩ := atI_lt (xs := [DV.str "", .str nm, .str one, .str other]) h10 h11
    have hnt : ∃ n : Str, v = .str n ∧ (n = "" ∨ Nm n) := by
      simp only [List.mem_cons, List.not_mem_nil, or_false] at e4
      rcases e4 with rfl | rfl | rfl | rfl
      · exact ⟨_, rfl, .inl rfl⟩
      · exact ⟨_, rfl, .inr hnm⟩
      · exact ⟨_, rfl, .inr n1⟩
      · exact ⟨_, rfl, .inr n2⟩
    obtain ⟨n, rfl, hn⟩ := hnt
    refine w_ixL e3 ?_
    simp only [KW, List.mem_cons, List.not_mem_nil, or_false] at hkd
    rcases hkd with rfl | rfl | rfl | rfl | rfl | rfl | rfl
    · walk_at "d"
      rw [show decide (("give" : Str) = "hold") = false from by decide +kernel]
      walk_at "d"
      rw [show decide (("give" : Str) = "move") = false from by decide +kernel]
      walk_at "d"
      rw [show decide (("give" : Str) = "promise") = false from by decide +kernel]
      walk_at "d"
      exact k _ (.Give one c n n1 ⟨c1, c2⟩ hn)
    · walk_at "d"
      rw [show decide (("hold" : Str) = "hold") = true from by decide +kernel]
      walk_at "d"
      refine use_draw hw (by decide) (by decide) fun r2 h20 h21 => ?_
      walk_at "d"
      refine w_lstF ?_
      walk_at "d"
      refine use_draw hw (by decide) (by decide) fun r3 h30 h31 => ?_
      obtain ⟨v, e5, e6, _⟩ := atI_lt (xs := [DV.int 2, .int 31, .int (2 + r2)]) h30 h31
      have hu : ∃ u : Int, v = .int u ∧ 2 ≤ u ∧ u ≤ 31 := by
        have h21 : r2 < 30 := h21
        simp only [List.mem_cons, List.not_mem_nil, or_false] at e6
        rcases e6 with rfl | rfl | rfl <;> exact ⟨_, rfl, by omega, by omega⟩
      obtain ⟨u, rfl, hu⟩ := hu
      refine w_ixL e5 ?_
      walk_at "d"
      exact k _ (.Hold one c u n n1 ⟨c1, c2⟩ hu hn)
    · walk_at "d"
      rw [show decide (("move" : Str) = "hold") = false from by decide +kernel]
      walk_at "d"
      rw [show decide (("move" : Str) = "move") = true from by decide +kernel]
      walk_at "d"
      exact k _ (.Move one other c n n1 n2 ⟨c1, c2⟩ hn ne)
    · walk_at "d"
      rw [show decide (("spend" : Str) = "hold") = false from by decide +kernel]
      walk_at "d"
      rw [show decide (("spend" : Str) = "move") = false from by decide +kernel]
      walk_at "d"
      rw [show decide (("spend" : Str) = "promise") = false from by decide +kernel]
      walk_at "d"
      exact k _ (.Spend one c n n1 ⟨c1, c2⟩ hn)
    · walk_at "d"
      rw [show decide (("promise" : Str) = "hold") = false from by decide +kernel]
      walk_at "d"
      rw [show decide (("promise" : Str) = "move") = false from by decide +kernel]
      walk_at "d"
      rw [show decide (("promise" : Str) = "promise") = true from by decide +kernel]
      walk_at "d"
      refine w_lstF ?_
      walk_at "d"
      refine use_draw hw (by decide) (by decide) fun r2 h20 h21 => ?_
      obtain ⟨v, e5, e6, _⟩ := atI_lt (xs := [DV.str other, .str one]) h20 h21
      have hu : ∃ u : Str, v = .str u ∧ Nm u := by
        simp only [List.mem_cons, List.not_mem_nil, or_false] at e6
        rcases e6 with rfl | rfl
        · exact ⟨_, rfl, n2⟩
        · exact ⟨_, rfl, n1⟩
      obtain ⟨u, rfl, hu⟩ := hu
      refine w_ixL e5 ?_
      walk_at "d"
      exact k _ (.Promise u one c n hu n1 ⟨c1, c2⟩ hn)
    · walk_at "d"
      rw [show decide (("lessen" : Str) = "hold") = false from by decide +kernel]
      walk_at "d"
      rw [show decide (("lessen" : Str) = "move") = false from by decide +kernel]
      walk_at "d"
      rw [show decide (("lessen" : Str) = "promise") = false from by decide +kernel]
      walk_at "d"
      exact k _ (.Lessen one c n n1 ⟨c1, c2⟩ hn)
    · walk_at "d"
      rw [show decide (("out" : Str) = "hold") = false from by decide +kernel]
      walk_at "d"
      rw [show decide (("out" : Str) = "move") = false from by decide +kernel]
      walk_at "d"
      rw [show decide (("out" : Str) = "promise") = false from by decide +kernel]
      walk_at "d"
      exact k _ (.Out one c n n1 ⟨c1, c2⟩ hn)

def sp_Lmade (K : PySem.W.Frag) : Spd := fun ds st Q E => ∃ (w : Str) (args : List DV), ds = [.tup (.str w :: args)] ∧ (args.length : Int) + 1 = szOf w ∧ (∀ a ∈ args, knD a = true) ∧ (∀ e, entOf K (.str w :: args) = some e → Q e st) ∧ (entOf K (.str w :: args) = none → E ⟨He.ga K "NoEntry", [], []⟩ st)

def ws_told (K : PySem.W.Frag) (C : Addr) (sp : Spd) : Prop := (C = He.ga K "Give" ∧ sp = sp_Give_told K) ∨ (C = He.ga K "Hold" ∧ sp = sp_Hold_told K) ∨ (C = He.ga K "Move" ∧ sp = sp_Move_told K) ∨ (C = He.ga K "Spend" ∧ sp = sp_Spend_told K) ∨ (C = He.ga K "Promise" ∧ sp = sp_Promise_told K) ∨ (C = He.ga K "Lessen" ∧ sp = sp_Lessen_told K) ∨ (C = He.ga K "Out" ∧ sp = sp_Out_told K)
theorem ways_told (T : Tx P w K mg base) : ∀ C sp, ws_told K C sp → Way P w K mg base 1 "told" C (spOf K sp) := by
  intro C sp h
  rcases h with ⟨rfl, rfl⟩ | ⟨rfl, rfl⟩ | ⟨rfl, rfl⟩ | ⟨rfl, rfl⟩ | ⟨rfl, rfl⟩ | ⟨rfl, rfl⟩ | ⟨rfl, rfl⟩
  · obtain ⟨⟨fd, F, b, _⟩, _⟩ := ok_Give_told (K := K) T
    exact ⟨T.c_Give, _, fd, _, T.m_Give_told, F, b⟩
  · obtain ⟨⟨fd, F, b, _⟩, _⟩ := ok_Hold_told (K := K) T
    exact ⟨T.c_Hold, _, fd, _, T.m_Hold_told, F, b⟩
  · obtain ⟨⟨fd, F, b, _⟩, _⟩ := ok_Move_told (K := K) T
    exact ⟨T.c_Move, _, fd, _, T.m_Move_told, F, b⟩
  · obtain ⟨⟨fd, F, b, _⟩, _⟩ := ok_Spend_told (K := K) T
    exact ⟨T.c_Spend, _, fd, _, T.m_Spend_told, F, b⟩
  · obtain ⟨⟨fd, F, b, _⟩, _⟩ := ok_Promise_told (K := K) T
    exact ⟨T.c_Promise, _, fd, _, T.m_Promise_told, F, b⟩
  · obtain ⟨⟨fd, F, b, _⟩, _⟩ := ok_Lessen_told (K := K) T
    exact ⟨T.c_Lessen, _, fd, _, T.m_Lessen_told, F, b⟩
  · obtain ⟨⟨fd, F, b, _⟩, _⟩ := ok_Out_told (K := K) T
    exact ⟨T.c_Out, _, fd, _, T.m_Out_told, F, b⟩

inductive GE (K : PySem.W.Frag) : List DV → DV → Prop where
  | Give (h : Str) (c : Int) (n : Str) (hh : Nm h) (hc : (1 ≤ c ∧ c ≤ 1000000000000)) (hn : (n = "" ∨ Nm n))  : GE K [.str "give", .str h, .int c, .str n] (.ins (He.ga K "Give") ["head", "coins", "note"] [.str h, .int c, .str n])
  | Hold (h : Str) (c : Int) (u : Int) (n : Str) (hh : Nm h) (hc : (1 ≤ c ∧ c ≤ 1000000000000)) (hu : (2 ≤ u ∧ u ≤ 31)) (hn : (n = "" ∨ Nm n))  : GE K [.str "hold", .str h, .int c, .int u, .str n] (.ins (He.ga K "Hold") ["head", "coins", "until", "note"] [.str h, .int c, .int u, .str n])
  | Move (h : Str) (o : Str) (c : Int) (n : Str) (hh : Nm h) (ho : Nm o) (hc : (1 ≤ c ∧ c ≤ 1000000000000)) (hn : (n = "" ∨ Nm n)) (ne : h ≠ o) : GE K [.str "move", .str h, .str o, .int c, .str n] (.ins (He.ga K "Move") ["head", "other", "coins", "note"] [.str h, .str o, .int c, .str n])
  | Spend (h : Str) (c : Int) (n : Str) (hh : Nm h) (hc : (1 ≤ c ∧ c ≤ 1000000000000)) (hn : (n = "" ∨ Nm n))  : GE K [.str "spend", .str h, .int c, .str n] (.ins (He.ga K "Spend") ["head", "coins", "note"] [.str h, .int c, .str n])
  | Promise (r : Str) (h : Str) (c : Int) (n : Str) (hr : Nm r) (hh : Nm h) (hc : (1 ≤ c ∧ c ≤ 1000000000000)) (hn : (n = "" ∨ Nm n))  : GE K [.str "promise", .str r, .str h, .int c, .str n] (.ins (He.ga K "Promise") ["word", "head", "coins", "note"] [.str r, .str h, .int c, .str n])
  | Lessen (r : Str) (c : Int) (n : Str) (hr : Nm r) (hc : (1 ≤ c ∧ c ≤ 1000000000000)) (hn : (n = "" ∨ Nm n))  : GE K [.str "lessen", .str r, .int c, .str n] (.ins (He.ga K "Lessen") ["word", "coins", "note"] [.str r, .int c, .str n])
  | Out (r : Str) (c : Int) (n : Str) (hr : Nm r) (hc : (1 ≤ c ∧ c ≤ 1000000000000)) (hn : (n = "" ∨ Nm n))  : GE K [.str "out", .str r, .int c, .str n] (.ins (He.ga K "Out") ["word", "coins", "note"] [.str r, .int c, .str n])
theorem nameD_nm {s : Str} (h : Nm s) : nameD (.str s) = true := by
  have e1 : ¬ s = "" := ne_empty h.ne
  have e2 : ¬ (8 : Int) < s.length := by
    have := h.len
    omega
  show (!decide (s = "") && (!decide ((8 : Int) < s.length) && decide (Txt.stripChars s LET = ""))) = true
  rw [decide_eq_false e1, decide_eq_false e2, decide_eq_true (show Txt.stripChars s LET = "" from h.strip)]
  rfl
theorem withD_ok {c lo hi : Int} (h : lo ≤ c ∧ c ≤ hi) : withD (.int c) lo hi = true := by
  show (decide (lo ≤ c) && decide (c ≤ hi)) = true
  rw [decide_eq_true h.1, decide_eq_true h.2]
  rfl
theorem coinsD_ok {c : Int} {n : Str} (hc : 1 ≤ c ∧ c ≤ 1000000000000) (hn : n = "" ∨ Nm n) : coinsD (.int c) (.str n) = true := by
  show (withD (.int c) 1 1000000000000 && sKB (.str n) && (deq (.str n) (.str "") || nameD (.str n))) = true
  rw [withD_ok hc, deq_str]
  rcases hn with rfl | hn
  · simp
  · rw [nameD_nm hn]
    simp
theorem gt_ge {xs : List DV} (h : GT xs) : ∃ e, GE K xs e ∧ entOf K xs = some e := by
  cases h with
  | Give h c n hh hc hn  =>
    refine ⟨_, .Give h c n hh hc hn , ?_⟩
    have hok : okGiveD (.str h) (.int c) (.str n) = true := by
      unfold okGiveD
      rw [nameD_nm hh, coinsD_ok hc hn]
      rfl
    have ee : entOf K [.str "give", .str h, .int c, .str n] = if okGiveD (.str h) (.int c) (.str n) = true then some (.ins (He.ga K "Give") ["head", "coins", "note"] [.str h, .int c, .str n]) else none := by first | rfl | simp [entOf]
    rw [ee, if_pos hok]
  | Hold h c u n hh hc hu hn  =>
    refine ⟨_, .Hold h c u n hh hc hu hn , ?_⟩
    have hok : okHoldD (.str h) (.int c) (.int u) (.str n) = true := by
      unfold okHoldD
      rw [nameD_nm hh, withD_ok hu, coinsD_ok hc hn]
      rfl
    have ee : entOf K [.str "hold", .str h, .int c, .int u, .str n] = if okHoldD (.str h) (.int c) (.int u) (.str n) = true then some (.ins (He.ga K "Hold") ["head", "coins", "until", "note"] [.str h, .int c, .int u, .str n]) else none := by first | rfl | simp [entOf]
    rw [ee, if_pos hok]
  | Move h o c n hh ho hc hn ne =>
    refine ⟨_, .Move h o c n hh ho hc hn ne, ?_⟩
    have hok : okMoveD (.str h) (.str o) (.int c) (.str n) = true := by
      unfold okMoveD
      rw [nameD_nm hh, nameD_nm ho, deq_str, decide_eq_false ne, coinsD_ok hc hn]
      rfl
    have ee : entOf K [.str "move", .str h, .str o, .int c, .str n] = if okMoveD (.str h) (.str o) (.int c) (.str n) = true then some (.ins (He.ga K "Move") ["head", "other", "coins", "note"] [.str h, .str o, .int c, .str n]) else none := by first | rfl | simp [entOf]
    rw [ee, if_pos hok]
  | Spend h c n hh hc hn  =>
    refine ⟨_, .Spend h c n hh hc hn , ?_⟩
    have hok : okSpendD (.str h) (.int c) (.str n) = true := by
      unfold okSpendD
      rw [nameD_nm hh, coinsD_ok hc hn]
      rfl
    have ee : entOf K [.str "spend", .str h, .int c, .str n] = if okSpendD (.str h) (.int c) (.str n) = true then some (.ins (He.ga K "Spend") ["head", "coins", "note"] [.str h, .int c, .str n]) else none := by first | rfl | simp [entOf]
    rw [ee, if_pos hok]
  | Promise r h c n hr hh hc hn  =>
    refine ⟨_, .Promise r h c n hr hh hc hn , ?_⟩
    have hok : okPromiseD (.str r) (.str h) (.int c) (.str n) = true := by
      unfold okPromiseD
      rw [nameD_nm hr, nameD_nm hh, coinsD_ok hc hn]
      rfl
    have ee : entOf K [.str "promise", .str r, .str h, .int c, .str n] = if okPromiseD (.str r) (.str h) (.int c) (.str n) = true then some (.ins (He.ga K "Promise") ["word", "head", "coins", "note"] [.str r, .str h, .int c, .str n]) else none := by first | rfl | simp [entOf]
    rw [ee, if_pos hok]
  | Lessen r c n hr hc hn  =>
    refine ⟨_, .Lessen r c n hr hc hn , ?_⟩
    have hok : okLessenD (.str r) (.int c) (.str n) = true := by
      unfold okLessenD
      rw [nameD_nm hr, coinsD_ok hc hn]
      rfl
    have ee : entOf K [.str "lessen", .str r, .int c, .str n] = if okLessenD (.str r) (.int c) (.str n) = true then some (.ins (He.ga K "Lessen") ["word", "coins", "note"] [.str r, .int c, .str n]) else none := by first | rfl | simp [entOf]
    rw [ee, if_pos hok]
  | Out r c n hr hc hn  =>
    refine ⟨_, .Out r c n hr hc hn , ?_⟩
    have hok : okOutD (.str r) (.int c) (.str n) = true := by
      unfold okOutD
      rw [nameD_nm hr, coinsD_ok hc hn]
      rfl
    have ee : entOf K [.str "out", .str r, .int c, .str n] = if okOutD (.str r) (.int c) (.str n) = true then some (.ins (He.ga K "Out") ["word", "coins", "note"] [.str r, .int c, .str n]) else none := by first | rfl | simp [entOf]
    rw [ee, if_pos hok]
theorem ge_ok {xs : List DV} {e : DV} (h : GE K xs e) : okD 60 (.tup xs) = true := by
  cases h <;> rfl
def sp_Lkinds (K : PySem.W.Frag) : Spd := fun ds st Q _ => ∃ xs e, ds = [e] ∧ GE K xs e ∧ ∀ w, xs[0]? = some (.str w) → Q (.lst (KW.map fun k => .bl (decide (k = w)))) st
def sp_Lfields (K : PySem.W.Frag) : Spd := fun ds st Q _ => ∃ xs e w, ds = [e, .str w] ∧ GE K xs e ∧ xs[0]? = some (.str w) ∧ Q (.tup xs) st
def sp_Lis (K : PySem.W.Frag) : Spd := fun ds st Q _ => ∃ xs e, ds = [e, .tup xs] ∧ GE K xs e ∧ Q (.bl true) st
end
end Kn

set_option Elab.async false
set_option linter.all false
set_option maxRecDepth 100000
set_option maxHeartbeats 40000000
set_option pp.maxSteps 400
namespace Kn
open PySem PySem.Spec PyProof.Rows L2
local macro_rules | `(tactic| walk_at "e1") => `(tactic| first
  | with_reducible refine w_seq ?_
  | with_reducible refine w_next ?_
  | with_reducible refine w_brk ?_
  | with_reducible refine w_cont ?_
  | with_reducible refine w_drop ?_
  | with_reducible refine w_ret ?_
  | with_reducible refine w_ifs ?_
  | with_reducible refine w_asg ?_
  | with_reducible refine w_nm ?_
  | with_reducible refine w_c ?_
  | with_reducible refine w_op ?_
  | with_reducible refine w_un ?_
  | with_reducible refine w_chain ?_
  | with_reducible refine w_test ?_
  | with_reducible refine w_and ?_
  | with_reducible refine w_or ?_
  | with_reducible refine w_not ?_
  | with_reducible refine w_yes ?_
  | with_reducible refine w_andV ?_
  | with_reducible refine w_orV ?_
  | with_reducible refine w_notV ?_
  | with_reducible refine w_ifE ?_
  | with_reducible refine w_nil ?_
  | with_reducible refine w_cons ?_
  | with_reducible refine w_tup ?_
  | with_reducible refine w_lst ?_
  | with_reducible refine w_cb ?_
  | with_reducible refine w_call ?_
  | with_reducible refine w_make ?_
  | with_reducible refine w_meth ?_
  | with_reducible refine w_fld ?_
  | with_reducible refine w_sfld ?_
  | with_reducible refine w_raise ?_
  | with_reducible refine w_try ?_
  | with_reducible refine w_gsq ?_
  | with_reducible refine w_gsb ?_
  | with_reducible refine w_isT ?_
  | with_reducible refine w_bm ?_
  | with_reducible refine w_bm0 ?_
  | with_reducible refine w_m0 ?_
  | with_reducible refine w_sl ?_
  | with_reducible refine w_part ?_
  | with_reducible refine w_nop ?_
  | with_reducible refine w_rev ?_
  | with_reducible refine w_isq ?_
  | with_reducible refine w_r1 ?_
  | with_reducible refine w_r2 ?_
  | with_reducible refine w_r3 ?_
  | with_reducible refine w_thru ?_
  | with_reducible refine w_en ?_
  | with_reducible refine w_kgT ?_
  | with_reducible refine w_ends ?_
  | with_reducible refine w_ist ?_
  | with_reducible refine w_for ?_
  | with_reducible refine w_lc ?_
  | with_reducible refine w_blP ?_
  | with_reducible refine w_intP ?_
  | with_reducible refine w_strP ?_
  | with_reducible refine w_strE ?_
  | with_reducible refine w_addI ?_
  | with_reducible refine w_ii ?_
  | with_reducible refine w_neg ?_
  | with_reducible refine w_eqI ?_
  | with_reducible refine w_eqS ?_
  | with_reducible refine w_neI ?_
  | with_reducible refine w_neS ?_
  | with_reducible refine w_is ?_
  | with_reducible refine w_isN ?_
  | with_reducible refine w_slS ?_
  | with_reducible refine w_lenS ?_
  | with_reducible refine w_lenT ?_
  | with_reducible refine w_lenL ?_
  | with_reducible refine w_lenC ?_
  | with_reducible refine w_int1b ?_
  | with_reducible refine w_int1i ?_
  | with_reducible refine w_strip ?_
  | with_reducible refine w_lock ?_
  | with_reducible refine w_dget ?_
  | with_reducible refine w_din ?_
  | with_reducible refine w_dget2 ?_
  | with_reducible refine w_dpn ?_
  | with_reducible refine w_dpc ?_
  | with_reducible refine w_disp ?_
  | with_reducible refine w_ivals ?_
  | with_reducible refine w_par ?_
  | with_reducible refine w_dgv ?_
  | with_reducible refine w_revS ?_
  | with_reducible refine w_max2 ?_
  | with_reducible refine w_min2 ?_
  | with_reducible refine w_var rfl ?_
  | with_reducible refine w_gcn ?_
  | with_reducible refine w_gnl ?_
  | with_reducible refine iteT ?_
  | with_reducible refine iteF ?_
  | with_reducible refine ite_not ?_
  | with_reducible refine w_ixT atI_zero ?_
  | with_reducible refine w_ixL atI_zero ?_
  | with_reducible refine w_kg ?_
  | ((with_reducible refine w_ixT (d := ?dd) ?hi ?_); case hi => rfl)
  | ((with_reducible refine w_ixL (d := ?dd) ?hi ?_); case hi => rfl)
  | ((with_reducible refine w_isi_str ?hk ?_); case hk => rfl)
  | ((with_reducible refine w_isi_int ?hk ?_); case hk => rfl)
  | ((with_reducible refine w_isi_bool ?hk ?_); case hk => rfl)
  | ((with_reducible refine w_isi_tuple ?hk ?_); case hk => rfl)
  | ((with_reducible refine w_isi_list ?hk ?_); case hk => rfl)
  | ((with_reducible refine w_fldI (v := ?dd) ?hf ?_); case hf => rfl)
  | ((with_reducible refine w_lenok ?hl ?_); case hl => exact Nat.le_of_ble_eq_true rfl)
  | ((with_reducible refine w_tym ?hl ?_); case hl => exact rfl))
local macro_rules | `(tactic| walk_at "e") => `(tactic| repeat walk_at "e1")
local macro_rules | `(tactic| walk_at "d1") => `(tactic| first
  | walk_at "e1"
  | with_reducible refine w_gv_non ?_
  | with_reducible refine w_gv_bl ?_
  | with_reducible refine w_gv_int ?_
  | with_reducible refine w_gv_str ?_
  | with_reducible refine w_gv_tup ?_
  | with_reducible refine w_gv_lst ?_
  | with_reducible refine w_gv_ins ?_)
local macro_rules | `(tactic| walk_at "d") => `(tactic| repeat walk_at "d1")

section
variable {w : World} {P : Program} {mg : Str → Option Value} {K : PySem.W.Frag} {base : Heap}
def sp_check_texts (K : PySem.W.Frag) : Spd := fun ds st Q E => ∃ b, ds = [.bl b] ∧ (b = true → Q .non st) ∧ (b = false → E ⟨He.ga K "NoText", [], []⟩ st)
theorem use_ckT {K : PySem.W.Frag} {b : Bool} {st : Sto} {Q : KD} {E : KX} (h : b = true) (q : Q .non st) : sp_check_texts K [.bl b] st Q E := ⟨b, rfl, fun _ => q, fun e => by rw [h] at e; cases e⟩
theorem use_ckTN {K : PySem.W.Frag} {b : Bool} {st : Sto} {Q : KD} {E : KX} (h : b = false) (q : E ⟨He.ga K "NoText", [], []⟩ st) : sp_check_texts K [.bl b] st Q E := ⟨b, rfl, fun e => (by rw [h] at e; cases e), fun _ => q⟩
def sp_number_in (_K : PySem.W.Frag) : Spd := fun ds st Q _ => ∃ w, ds = [.str w] ∧ Q (match numIn w with | some n => .int n | none => .non) st
def sp_number_of (K : PySem.W.Frag) : Spd := fun ds st Q E => ∃ w, ds = [.str w] ∧ (∀ n, numIn w = some n → Q (.int n) st) ∧ (numIn w = none → E ⟨He.ga K "NoText", [], []⟩ st)
def sp_rows_of (K : PySem.W.Frag) : Spd := fun ds st Q E => ∃ x, ds = [x] ∧ knD x = true ∧ (∀ t rs, x = .str t → rowsOf t = some rs → NewL (rs.map DV.str) st Q) ∧ ((∀ t, x = .str t → rowsOf t = none) → E ⟨He.ga K "NoText", [], []⟩ st)
theorem fig_int {w : Str} (h1 : ¬ w = "") (h2 : w.length ≤ 16) (h3 : Txt.stripChars w FIGk = "") : ∃ n, PySem.intText? w = some n := by
  have hd : NumText.AllDigits w.cps.toList := fun c hc => (FIG_iff c).mp (strip_convB h3 c hc)
  have := intText_digits (x := w) hd (fun e => h1 (TL.ext_tl e)) (by omega)
  exact ⟨_, this⟩
theorem cut_neg1 {ds : List DV} : cutD ds none (some (-1)) = ds.take (ds.length - 1) := by
  unfold cutD
  rw [show HT.sIx ds.length 0 none = 0 from rfl, List.drop_zero]
  congr 1
  show HT.sIx ds.length ds.length (some (-1)) - 0 = _
  unfold HT.sIx
  simp
  omega

theorem ok_check_texts (T : Tx P w K mg base) : DefOk P w K mg base 1 ("check_texts", none) ["good"] (spOf K (sp_check_texts K)) := by
  refine mkOkD T.f_check_texts sc_check_texts (fun ds st Q E h => ?_) (fun _ _ _ _ _ _ us hl => match us, hl with | [_], _ => rfl) (fun cdv A outer s H E hr ds st Q Ed h => ?_)
  · obtain ⟨b, rfl, k1, k2⟩ := h
    rfl
  · obtain ⟨b, rfl, k1, k2⟩ := h
    refine ⟨_, (dss_one (ds_if (dt_not (dt_val (d_var (pv 0)))) (dss_one (ds_raise rfl (takes_of rfl rfl rfl rfl) (pmk_own PySem.F.excBase_ValueError T.x_NoText.1 T.g_NoText T.x_NoText.2.1 (raises_own T.x_NoText.2.2.1 T.x_NoText.2.2.2) (by exact rfl)))) dss_nil)), .inl ?_⟩
    walk_at "d"
    cases b with
    | true =>
      walk_at "d"
      exact k1 rfl
    | false =>
      walk_at "d"
      exact ⟨_, Sub.refl _, k2 rfl⟩

theorem ok_number_in (T : Tx P w K mg base) : DefOk P w K mg base 1 ("number_in", none) ["word"] (spOf K (sp_number_in K)) := by
  refine mkOkD T.f_number_in sc_number_in (fun ds st Q E h => ?_) (fun _ _ _ _ _ _ us hl => match us, hl with | [_], _ => rfl) (fun cdv A outer s H E hr ds st Q Ed h => ?_)
  · obtain ⟨w, rfl, k⟩ := h
    rfl
  · obtain ⟨w, rfl, k⟩ := h
    refine ⟨_, (dss_cons (ds_if (dw_1 (dw_or (dt_cmp (kEqD rfl hr) (d_var (pv 0)) (d_str (by decide +kernel)) (nomark _)) (dw_or (dt_cmp kGtD (d_callB (kLenD rfl) rfl T.n_len (by decide +kernel) (da_cons (d_var (pv 0)) da_nil)) (d_c (kgI T.g_MOST_FIGURES) fun _ => .int _) (nomark _)) (dw_or1 (dt_cmp (kNeD rfl hr) (d_bm rfl PySem.F.plainAttrs_str PySem.F.slot_str_strip PySem.F.type_str_strip kStripD (d_var (pv 0)) (da_cons (d_c (kgS T.g_FIGURES) fun _ => .str _ (by decide +kernel)) da_nil)) (d_str (by decide +kernel)) (nomark _)))))) (dss_one (ds_ret d_non)) dss_nil)
      (dss_cons (ds_if (dw_1 (dw_and (dt_cmp (kEqD rfl hr) (d_ix (kIxD rfl) (d_var (pv 0)) d_int (fun _ _ => rfl)) (d_str (by decide +kernel)) (nomark _)) (dw_and1 (dt_cmp (kNeD rfl hr) (d_var (pv 0)) (d_str (by decide +kernel)) (nomark _))))) (dss_one (ds_ret d_non)) dss_nil)
      (dss_one (ds_ret (d_callTy kIntSD rfl T.n_int (by decide +kernel) (da_cons (d_var (pv 0)) da_nil)))))), .inl ?_⟩
    walk_at "d"
    by_cases h1 : w = ""
    · have e : numIn w = none := if_pos (.inl h1)
      rw [e] at k
      rw [decide_eq_true h1]
      walk_at "d"
      exact k
    rw [decide_eq_false h1]
    walk_at "d"
    by_cases h2 : (16 : Int) < w.length
    · have e : numIn w = none := if_pos (.inr (.inl (by omega)))
      rw [e] at k
      rw [decide_eq_true h2]
      walk_at "d"
      exact k
    rw [decide_eq_false h2]
    walk_at "d"
    by_cases h3 : Txt.stripChars w FIGk = ""
    case neg =>
      have e : numIn w = none := if_pos (.inr (.inr h3))
      rw [e] at k
      rw [show decide (Txt.stripChars w "0123456789" = ("" : Str)) = false from decide_eq_false h3]
      walk_at "d"
      exact k
    rw [show decide (Txt.stripChars w "0123456789" = ("" : Str)) = true from decide_eq_true h3]
    walk_at "d"
    have hn : ¬ (w = "" ∨ 16 < w.length ∨ ¬ Txt.stripChars w FIGk = "") := fun h => h.elim h1 fun h => h.elim (fun h => h2 (by omega)) fun h => h h3
    obtain ⟨n, hi⟩ := fig_int h1 (by omega) h3
    obtain ⟨c, r, hc⟩ : ∃ c r, cl w = c :: r := by
      cases e : cl w with
      | nil => exact (h1 (TL.ext_tl e)).elim
      | cons c r => exact ⟨c, r, rfl⟩
    refine w_ixS (c := c) (by show atI (cl w) 0 = some c; rw [hc]; exact atI_zero) ?_
    walk_at "d"
    rw [show decide ((⟨#[c]⟩ : Str) = "0") = decide (c = 48) from decide_eq_decide.mpr ⟨fun e => by have := congrArg cl e; injection this, fun e => by rw [e]; decide +kernel⟩]
    by_cases h4 : c = 48
    · rw [decide_eq_true h4]
      walk_at "d"
      by_cases h5 : w = "0"
      · have e : numIn w = PySem.intText? w := by
          unfold numIn
          rw [if_neg hn, if_neg fun h => h.2 h5]
        rw [e, hi] at k
        rw [decide_eq_true h5]
        walk_at "d"
        exact w_intS hi (by omega) ⟨_, _, .refl, k⟩
      · have e : numIn w = none := by
          unfold numIn
          rw [if_neg hn, if_pos ⟨by rw [hc, h4]; rfl, h5⟩]
        rw [e] at k
        rw [decide_eq_false h5]
        walk_at "d"
        exact k
    · have e : numIn w = PySem.intText? w := by
        unfold numIn
        rw [if_neg hn, if_neg fun h => h4 (by have := h.1; rw [hc] at this; injection this)]
      rw [e, hi] at k
      rw [decide_eq_false h4]
      walk_at "d"
      exact w_intS hi (by omega) ⟨_, _, .refl, k⟩

theorem ok_number_of (T : Tx P w K mg base) : DefOk P w K mg base 2 ("number_of", none) ["word"] (spOf K (sp_number_of K)) := by
  refine mkOkD T.f_number_of sc_number_of (fun ds st Q E h => ?_) (fun _ _ _ _ _ _ us hl => match us, hl with | [_], _ => rfl) (fun cdv A outer s H E hr ds st Q Ed h => ?_)
  · obtain ⟨w, rfl, k1, k2⟩ := h
    rfl
  · obtain ⟨w, rfl, k1, k2⟩ := h
    refine ⟨_, (dss_cons (ds_set (i := 1) sc_number_of.nd rfl (Or.inl rfl) (d_call (takes_of rfl rfl rfl rfl) (ok_number_in (K := K) T) T.g_number_in (hr.mono (by decide)) (da_cons (d_var (pv 0)) da_nil)))
      (dss_cons (ds_expr (d_call (takes_of rfl rfl rfl rfl) (ok_check_texts (K := K) T) T.g_check_texts (hr.mono (by decide)) (da_cons (d_cmp kIsNotD (d_var (pv 1)) d_non (nomark _)) da_nil)))
      (dss_one (ds_ret (d_var (pv 1)))))), .inl ?_⟩
    walk_at "d"
    refine ⟨w, rfl, ?_⟩
    cases h : numIn w with
    | some n =>
      walk_at "d"
      refine use_ckT rfl ?_
      walk_at "d"
      exact k1 n h
    | none =>
      walk_at "d"
      exact use_ckTN rfl ⟨_, Sub.refl _, k2 h⟩

theorem ok_rows_of (T : Tx P w K mg base) : DefOk P w K mg base 2 ("rows_of", none) ["text"] (spOf K (sp_rows_of K)) := by
  refine mkOkD T.f_rows_of sc_rows_of (fun ds st Q E h => ?_) (fun _ _ _ _ _ _ us hl => match us, hl with | [_], _ => rfl) (fun cdv A outer s H E hr ds st Q Ed h => ?_)
  · obtain ⟨x, rfl, kx, k1, k2⟩ := h
    rfl
  · obtain ⟨x, rfl, kx, k1, k2⟩ := h
    refine ⟨_, (dss_cons (ds_expr (d_call (takes_of rfl rfl rfl rfl) (ok_check_texts (K := K) T) T.g_check_texts (hr.mono (by decide)) (da_cons (d_callB (kIsiD rfl) rfl T.n_isinstance (by decide +kernel) (da_cons (d_var (pv 0)) (da_cons (d_c (kbT (n := "str") T.n_str (by decide +kernel)) fun _ => .ty _) da_nil))) da_nil)))
      (dss_cons (ds_if (dt_cmp (kEqD rfl hr) (d_var (pv 0)) (d_str (by decide +kernel)) (nomark _)) (dss_one (ds_ret (d_lst da_nil))) dss_nil)
      (dss_cons (ds_expr (d_call (takes_of rfl rfl rfl rfl) (ok_check_texts (K := K) T) T.g_check_texts (hr.mono (by decide)) (da_cons (d_bm rfl PySem.F.plainAttrs_str PySem.F.slot_str_endswith PySem.F.type_str_endswith kEndsD (d_var (pv 0)) (da_cons (d_str (by decide +kernel)) da_nil)) da_nil)))
      (dss_one (ds_ret (d_slice (kSlD rfl) (d_bm rfl PySem.F.plainAttrs_str PySem.F.slot_str_split PySem.F.type_str_split kSplitD (d_var (pv 0)) (da_cons (d_str (by decide +kernel)) da_nil)) do_none (do_some (d_un kNegD d_int)))))))), .inl ?_⟩
    walk_at "d"
    refine w_isi_str kx ?_
    cases x with
    | str t =>
      walk_at "d"
      refine use_ckT rfl ?_
      walk_at "d"
      by_cases h1 : t = ""
      · have k1 := k1 t [] rfl (if_pos h1)
        rw [decide_eq_true h1]
        walk_at "d"
        rcases k1 with k1 | k1
        · exact .inl ⟨_, _, .refl, k1⟩
        · exact .inr fun n hn => ⟨_, _, .refl, k1 n hn⟩
      · rw [decide_eq_false h1]
        walk_at "d"
        cases h2 : Txt.endswith t "\n" with
        | false =>
          refine use_ckTN rfl ⟨_, Sub.refl _, k2 fun t' e => ?_⟩
          injection e with e
          subst e
          unfold rowsOf
          rw [if_neg h1, if_neg (by rw [h2]; decide)]
        | true =>
          refine use_ckT rfl ?_
          walk_at "d"
          refine w_split (by decide +kernel) (w_lstF ?_)
          walk_at "d"
          have k1 := k1 t _ rfl (by unfold rowsOf; rw [if_neg h1, if_pos h2])
          rw [List.map_take] at k1
          refine w_slL rfl ?_
          rw [cut_neg1, List.length_map]
          rcases k1 with k1 | k1
          · exact .inl ⟨_, _, .refl, k1⟩
          · exact .inr fun n hn => ⟨_, _, .refl, k1 n hn⟩
    | _ =>
      first
      | (cases kx; done)
      | (walk_at "d"
         exact use_ckTN rfl ⟨_, Sub.refl _, k2 fun t e => nomatch e⟩)
end
end Kn

set_option Elab.async false
set_option linter.all false
set_option maxRecDepth 100000
set_option maxHeartbeats 40000000
set_option pp.maxSteps 400
namespace Kn
open PySem PySem.Spec PyProof.Rows L2
local macro_rules | `(tactic| walk_at "e1") => `(tactic| first
  | with_reducible refine w_seq ?_
  | with_reducible refine w_next ?_
  | with_reducible refine w_brk ?_
  | with_reducible refine w_cont ?_
  | with_reducible refine w_drop ?_
  | with_reducible refine w_ret ?_
  | with_reducible refine w_ifs ?_
  | with_reducible refine w_asg ?_
  | with_reducible refine w_nm ?_
  | with_reducible refine w_c ?_
  | with_reducible refine w_op ?_
  | with_reducible refine w_un ?_
  | with_reducible refine w_chain ?_
  | with_reducible refine w_test ?_
  | with_reducible refine w_and ?_
  | with_reducible refine w_or ?_
  | with_reducible refine w_not ?_
  | with_reducible refine w_yes ?_
  | with_reducible refine w_andV ?_
  | with_reducible refine w_orV ?_
  | with_reducible refine w_notV ?_
  | with_reducible refine w_ifE ?_
  | with_reducible refine w_nil ?_
  | with_reducible refine w_cons ?_
  | with_reducible refine w_tup ?_
  | with_reducible refine w_lst ?_
  | with_reducible refine w_cb ?_
  | with_reducible refine w_call ?_
  | with_reducible refine w_make ?_
  | with_reducible refine w_meth ?_
  | with_reducible refine w_fld ?_
  | with_reducible refine w_sfld ?_
  | with_reducible refine w_raise ?_
  | with_reducible refine w_try ?_
  | with_reducible refine w_gsq ?_
  | with_reducible refine w_gsb ?_
  | with_reducible refine w_isT ?_
  | with_reducible refine w_bm ?_
  | with_reducible refine w_bm0 ?_
  | with_reducible refine w_m0 ?_
  | with_reducible refine w_sl ?_
  | with_reducible refine w_part ?_
  | with_reducible refine w_nop ?_
  | with_reducible refine w_rev ?_
  | with_reducible refine w_isq ?_
  | with_reducible refine w_r1 ?_
  | with_reducible refine w_r2 ?_
  | with_reducible refine w_r3 ?_
  | with_reducible refine w_thru ?_
  | with_reducible refine w_en ?_
  | with_reducible refine w_kgT ?_
  | with_reducible refine w_ends ?_
  | with_reducible refine w_ist ?_
  | with_reducible refine w_for ?_
  | with_reducible refine w_lc ?_
  | with_reducible refine w_blP ?_
  | with_reducible refine w_intP ?_
  | with_reducible refine w_strP ?_
  | with_reducible refine w_strE ?_
  | with_reducible refine w_addI ?_
  | with_reducible refine w_ii ?_
  | with_reducible refine w_neg ?_
  | with_reducible refine w_eqI ?_
  | with_reducible refine w_eqS ?_
  | with_reducible refine w_neI ?_
  | with_reducible refine w_neS ?_
  | with_reducible refine w_is ?_
  | with_reducible refine w_isN ?_
  | with_reducible refine w_slS ?_
  | with_reducible refine w_lenS ?_
  | with_reducible refine w_lenT ?_
  | with_reducible refine w_lenL ?_
  | with_reducible refine w_lenC ?_
  | with_reducible refine w_int1b ?_
  | with_reducible refine w_int1i ?_
  | with_reducible refine w_strip ?_
  | with_reducible refine w_lock ?_
  | with_reducible refine w_dget ?_
  | with_reducible refine w_din ?_
  | with_reducible refine w_dget2 ?_
  | with_reducible refine w_dpn ?_
  | with_reducible refine w_dpc ?_
  | with_reducible refine w_disp ?_
  | with_reducible refine w_ivals ?_
  | with_reducible refine w_par ?_
  | with_reducible refine w_dgv ?_
  | with_reducible refine w_revS ?_
  | with_reducible refine w_max2 ?_
  | with_reducible refine w_min2 ?_
  | with_reducible refine w_var rfl ?_
  | with_reducible refine w_gcn ?_
  | with_reducible refine w_gnl ?_
  | with_reducible refine iteT ?_
  | with_reducible refine iteF ?_
  | with_reducible refine ite_not ?_
  | with_reducible refine w_ixT atI_zero ?_
  | with_reducible refine w_ixL atI_zero ?_
  | with_reducible refine w_kg ?_
  | ((with_reducible refine w_ixT (d := ?dd) ?hi ?_); case hi => rfl)
  | ((with_reducible refine w_ixL (d := ?dd) ?hi ?_); case hi => rfl)
  | ((with_reducible refine w_isi_str ?hk ?_); case hk => rfl)
  | ((with_reducible refine w_isi_int ?hk ?_); case hk => rfl)
  | ((with_reducible refine w_isi_bool ?hk ?_); case hk => rfl)
  | ((with_reducible refine w_isi_tuple ?hk ?_); case hk => rfl)
  | ((with_reducible refine w_isi_list ?hk ?_); case hk => rfl)
  | ((with_reducible refine w_fldI (v := ?dd) ?hf ?_); case hf => rfl)
  | ((with_reducible refine w_lenok ?hl ?_); case hl => exact Nat.le_of_ble_eq_true rfl)
  | ((with_reducible refine w_tym ?hl ?_); case hl => exact rfl))
local macro_rules | `(tactic| walk_at "e") => `(tactic| repeat walk_at "e1")
local macro_rules | `(tactic| walk_at "d1") => `(tactic| first
  | walk_at "e1"
  | with_reducible refine w_gv_non ?_
  | with_reducible refine w_gv_bl ?_
  | with_reducible refine w_gv_int ?_
  | with_reducible refine w_gv_str ?_
  | with_reducible refine w_gv_tup ?_
  | with_reducible refine w_gv_lst ?_
  | with_reducible refine w_gv_ins ?_)
local macro_rules | `(tactic| walk_at "d") => `(tactic| repeat walk_at "d1")

section
variable {w : World} {P : Program} {mg : Str → Option Value} {K : PySem.W.Frag} {base : Heap}
theorem small_log {i : Int} (h : i.natAbs < 10 ^ 40) : i.natAbs.log2 < 1920 := by
  by_cases e : i.natAbs = 0
  · rw [e]; decide
  · refine (Nat.log2_lt e).mpr (Nat.lt_of_lt_of_le h ?_)
    have : (10 : Nat) ^ 40 ≤ 2 ^ 1920 := by decide +kernel
    exact this
def WOK (d : DV) : Prop := (∃ s : Str, d = .str s ∧ s.length ≤ 20) ∨ ∃ i : Int, d = .int i ∧ 0 ≤ i ∧ i < 10 ^ 16
def sp_words_of (_K : PySem.W.Frag) : Spd := fun ds st Q _ => ∃ xs, ds = [.lst xs] ∧ (∀ d ∈ xs, WOK d) ∧ xs.length ≤ 50 ∧ Q (.lst (xs.map fun d => .str (wordW d))) st
def sp_row_text (_K : PySem.W.Frag) : Spd := fun ds st Q _ => ∃ xs, ds = [.lst xs] ∧ (∀ d ∈ xs, WOK d) ∧ xs.length ≤ 50 ∧ Q (.str (rowS xs)) st
theorem use_row {K : PySem.W.Frag} {xs : List DV} {st : Sto} {Q : KD} {E : KX} (h : ∀ d ∈ xs, WOK d) (hl : xs.length ≤ 50) (q : Q (.str (rowS xs)) st) : sp_row_text K [.lst xs] st Q E := ⟨xs, rfl, h, hl, q⟩
theorem istr_len {i : Int} (h0 : 0 ≤ i) (h : i < 10 ^ 16) : (istr i).length ≤ 20 := by
  obtain ⟨n, rfl⟩ : ∃ n : Nat, i = (n : Int) := ⟨i.toNat, by omega⟩
  rw [len_cl, cl_num]
  exact Nat.le_trans (TL.numL_len (k := 16) (by decide) (by omega)) (by decide)
theorem word_len {d : DV} (h : WOK d) : (wordW d).length ≤ 20 := by
  unfold wordW
  split
  · decide +kernel
  · rcases h with ⟨s, rfl, h⟩ | ⟨i, rfl, h0, h⟩
    · exact h
    · exact istr_len h0 h
theorem sum_le {m : Nat} : ∀ {ss : List Str}, (∀ s ∈ ss, s.length ≤ m) → (ss.map (·.length)).sum ≤ ss.length * m
  | [], _ => Nat.zero_le _
  | s :: r, h => by
    have h1 := h s (List.mem_cons_self ..)
    have h2 := sum_le fun z hz => h z (List.mem_cons_of_mem s hz)
    show s.length + (r.map (·.length)).sum ≤ (r.length + 1) * m
    rw [Nat.add_mul, Nat.one_mul]
    omega
theorem join_le {m : Nat} {a : Str} {ss : List Str} (h : ∀ s ∈ ss, s.length ≤ m) : (Str.join a ss).length ≤ ss.length * m + ss.length * a.length := Nat.le_trans (join_len ss) (Nat.add_le_add_right (sum_le h) _)
theorem row_len {xs : List DV} (h : ∀ d ∈ xs, WOK d) (hl : xs.length ≤ 50) : (rowS xs).length ≤ 2000 := by
  have := join_le (a := " ") (m := 20) (ss := xs.map wordW) fun s hs => by
    obtain ⟨d, hd, rfl⟩ := List.mem_map.mp hs
    exact word_len (h d hd)
  have e : (rowS xs).length = (Str.join " " (xs.map wordW)).length + 1 := by
    unfold rowS
    rw [len_cl, cl_app, List.length_append, ← len_cl]
    rfl
  rw [List.length_map, show (" " : Str).length = 1 from by decide +kernel] at this
  omega

theorem ok_words_of (T : Tx P w K mg base) : DefOk P w K mg base 1 ("words_of", none) ["things"] (spOf K (sp_words_of K)) := by
  refine mkOkD T.f_words_of sc_words_of (fun ds st Q E h => ?_) (fun _ _ _ _ _ _ us hl => match us, hl with | [_], _ => rfl) (fun cdv A outer s H E hr ds st Q Ed h => ?_)
  · obtain ⟨xs, rfl, hx, hl, k⟩ := h
    rfl
  · obtain ⟨xs, rfl, hx, hl, k⟩ := h
    refine ⟨_, (dss_one (ds_ret (d_lc (own := [("thing", 1)]) rfl sc_words_of.nd (di_seq rfl (d_var (pv 0))) (blkOk_by (N := nm_words_of) (sc := defScope s_words_of) (by decide +kernel)) (by decide) (fun _ _ _ _ _ => (dg_name (pg_name (i := 1) sc_words_of.nd rfl (Or.inl rfl)))) (fun _ _ _ _ _ => dts_nil) (fun _ _ _ _ _ => (d_ix (kIxD rfl) (d_lst (da_cons (d_str (by decide +kernel)) (da_cons (d_callTy kStr1D rfl T.n_str (by decide +kernel) (da_cons (d_var (pv 1)) da_nil)) da_nil))) (d_callTy kInt1D rfl T.n_int (by decide +kernel) (da_cons (d_cmp (kNeD rfl hr) (d_var (pv 1)) (d_str (by decide +kernel)) (nomark _)) da_nil)) (fun _ _ => rfl)))))), .inl ?_⟩
    walk_at "d"
    refine ⟨_, rfl, ?_⟩
    refine w_lcmap (fun d => .str (wordW d)) rfl (fun y hy QQ hq => ?_) (by omega) (w_lstF ⟨_, _, .refl, k⟩)
    rcases hx y hy with ⟨s, rfl, hs⟩ | ⟨i, rfl, h0, h1⟩
    · walk_at "d"
      refine .inr (.inl ⟨s, rfl, ?_⟩)
      walk_at "d"
      refine w_lstF ?_
      walk_at "d"
      have hq : QQ (.str (if deq (.str s) (.str "") = true then "-" else s)) st := hq
      rw [deq_str] at hq
      cases h : decide (s = "") with
      | true =>
        rw [h] at hq
        exact w_ixL (ds := [.str "-", .str s]) (d := .str "-") rfl hq
      | false =>
        rw [h] at hq
        exact w_ixL (ds := [.str "-", .str s]) (d := .str s) rfl hq
    · walk_at "d"
      refine w_strI (small_log (by omega)) ?_
      walk_at "d"
      refine w_lstF ?_
      walk_at "d"
      refine w_neV rfl rfl rfl rfl ?_
      have e0 : deq (.int i) (.str "") = false := rfl
      have hq : QQ (.str (if deq (.int i) (.str "") = true then "-" else istr i)) st := hq
      rw [e0] at hq ⊢
      walk_at "d"
      exact hq

theorem ok_row_text (T : Tx P w K mg base) : DefOk P w K mg base 2 ("row_text", none) ["things"] (spOf K (sp_row_text K)) := by
  refine mkOkD T.f_row_text sc_row_text (fun ds st Q E h => ?_) (fun _ _ _ _ _ _ us hl => match us, hl with | [_], _ => rfl) (fun cdv A outer s H E hr ds st Q Ed h => ?_)
  · obtain ⟨xs, rfl, hx, hl, k⟩ := h
    rfl
  · obtain ⟨xs, rfl, hx, hl, k⟩ := h
    refine ⟨_, (dss_one (ds_ret (d_op (kAddD rfl) (d_bm rfl PySem.F.plainAttrs_str PySem.F.slot_str_join PySem.F.type_str_join (kJoinD rfl) (d_str (by decide +kernel)) (da_cons (d_call (takes_of rfl rfl rfl rfl) (ok_words_of (K := K) T) T.g_words_of (hr.mono (by decide)) (da_cons (d_var (pv 0)) da_nil)) da_nil)) (d_str (by decide +kernel))))), .inl ?_⟩
    walk_at "d"
    refine ⟨xs, rfl, hx, hl, ?_⟩
    walk_at "d"
    refine w_join (ss := xs.map wordW) ?_ ?_ ?_
    · rw [List.map_map]; rfl
    · have := sum_le (m := 20) (ss := xs.map wordW) fun s hs => by
        obtain ⟨d, hd, rfl⟩ := List.mem_map.mp hs
        exact word_len (hx d hd)
      rw [List.length_map] at this ⊢
      rw [show (" " : Str).length = 1 from by decide +kernel]
      omega
    walk_at "d"
    refine w_addS ?_ ⟨_, _, .refl, k⟩
    have := row_len hx hl
    have e : (rowS xs).length = (Str.join " " (xs.map wordW)).length + ("\n" : Str).length := by
      unfold rowS
      rw [len_cl, cl_app, List.length_append, ← len_cl, ← len_cl]
    omega
end
end Kn

set_option Elab.async false
set_option linter.all false
set_option maxRecDepth 100000
set_option maxHeartbeats 40000000
set_option pp.maxSteps 400
namespace Kn
open PySem PySem.Spec PyProof.Rows L2
local macro_rules | `(tactic| walk_at "e1") => `(tactic| first
  | with_reducible refine w_seq ?_
  | with_reducible refine w_next ?_
  | with_reducible refine w_brk ?_
  | with_reducible refine w_cont ?_
  | with_reducible refine w_drop ?_
  | with_reducible refine w_ret ?_
  | with_reducible refine w_ifs ?_
  | with_reducible refine w_asg ?_
  | with_reducible refine w_nm ?_
  | with_reducible refine w_c ?_
  | with_reducible refine w_op ?_
  | with_reducible refine w_un ?_
  | with_reducible refine w_chain ?_
  | with_reducible refine w_test ?_
  | with_reducible refine w_and ?_
  | with_reducible refine w_or ?_
  | with_reducible refine w_not ?_
  | with_reducible refine w_yes ?_
  | with_reducible refine w_andV ?_
  | with_reducible refine w_orV ?_
  | with_reducible refine w_notV ?_
  | with_reducible refine w_ifE ?_
  | with_reducible refine w_nil ?_
  | with_reducible refine w_cons ?_
  | with_reducible refine w_tup ?_
  | with_reducible refine w_lst ?_
  | with_reducible refine w_cb ?_
  | with_reducible refine w_call ?_
  | with_reducible refine w_make ?_
  | with_reducible refine w_meth ?_
  | with_reducible refine w_fld ?_
  | with_reducible refine w_sfld ?_
  | with_reducible refine w_raise ?_
  | with_reducible refine w_try ?_
  | with_reducible refine w_gsq ?_
  | with_reducible refine w_gsb ?_
  | with_reducible refine w_isT ?_
  | with_reducible refine w_bm ?_
  | with_reducible refine w_bm0 ?_
  | with_reducible refine w_m0 ?_
  | with_reducible refine w_sl ?_
  | with_reducible refine w_part ?_
  | with_reducible refine w_nop ?_
  | with_reducible refine w_rev ?_
  | with_reducible refine w_isq ?_
  | with_reducible refine w_r1 ?_
  | with_reducible refine w_r2 ?_
  | with_reducible refine w_r3 ?_
  | with_reducible refine w_thru ?_
  | with_reducible refine w_en ?_
  | with_reducible refine w_kgT ?_
  | with_reducible refine w_ends ?_
  | with_reducible refine w_ist ?_
  | with_reducible refine w_for ?_
  | with_reducible refine w_lc ?_
  | with_reducible refine w_blP ?_
  | with_reducible refine w_intP ?_
  | with_reducible refine w_strP ?_
  | with_reducible refine w_strE ?_
  | with_reducible refine w_addI ?_
  | with_reducible refine w_ii ?_
  | with_reducible refine w_neg ?_
  | with_reducible refine w_eqI ?_
  | with_reducible refine w_eqS ?_
  | with_reducible refine w_neI ?_
  | with_reducible refine w_neS ?_
  | with_reducible refine w_is ?_
  | with_reducible refine w_isN ?_
  | with_reducible refine w_slS ?_
  | with_reducible refine w_lenS ?_
  | with_reducible refine w_lenT ?_
  | with_reducible refine w_lenL ?_
  | with_reducible refine w_lenC ?_
  | with_reducible refine w_int1b ?_
  | with_reducible refine w_int1i ?_
  | with_reducible refine w_strip ?_
  | with_reducible refine w_lock ?_
  | with_reducible refine w_dget ?_
  | with_reducible refine w_din ?_
  | with_reducible refine w_dget2 ?_
  | with_reducible refine w_dpn ?_
  | with_reducible refine w_dpc ?_
  | with_reducible refine w_disp ?_
  | with_reducible refine w_ivals ?_
  | with_reducible refine w_par ?_
  | with_reducible refine w_dgv ?_
  | with_reducible refine w_revS ?_
  | with_reducible refine w_max2 ?_
  | with_reducible refine w_min2 ?_
  | with_reducible refine w_var rfl ?_
  | with_reducible refine w_gcn ?_
  | with_reducible refine w_gnl ?_
  | with_reducible refine iteT ?_
  | with_reducible refine iteF ?_
  | with_reducible refine ite_not ?_
  | with_reducible refine w_ixT atI_zero ?_
  | with_reducible refine w_ixL atI_zero ?_
  | with_reducible refine w_kg ?_
  | ((with_reducible refine w_ixT (d := ?dd) ?hi ?_); case hi => rfl)
  | ((with_reducible refine w_ixL (d := ?dd) ?hi ?_); case hi => rfl)
  | ((with_reducible refine w_isi_str ?hk ?_); case hk => rfl)
  | ((with_reducible refine w_isi_int ?hk ?_); case hk => rfl)
  | ((with_reducible refine w_isi_bool ?hk ?_); case hk => rfl)
  | ((with_reducible refine w_isi_tuple ?hk ?_); case hk => rfl)
  | ((with_reducible refine w_isi_list ?hk ?_); case hk => rfl)
  | ((with_reducible refine w_fldI (v := ?dd) ?hf ?_); case hf => rfl)
  | ((with_reducible refine w_lenok ?hl ?_); case hl => exact Nat.le_of_ble_eq_true rfl)
  | ((with_reducible refine w_tym ?hl ?_); case hl => exact rfl))
local macro_rules | `(tactic| walk_at "e") => `(tactic| repeat walk_at "e1")
local macro_rules | `(tactic| walk_at "d1") => `(tactic| first
  | walk_at "e1"
  | with_reducible refine w_gv_non ?_
  | with_reducible refine w_gv_bl ?_
  | with_reducible refine w_gv_int ?_
  | with_reducible refine w_gv_str ?_
  | with_reducible refine w_gv_tup ?_
  | with_reducible refine w_gv_lst ?_
  | with_reducible refine w_gv_ins ?_)
local macro_rules | `(tactic| walk_at "d") => `(tactic| repeat walk_at "d1")

section
variable {w : World} {P : Program} {mg : Str → Option Value} {K : PySem.W.Frag} {base : Heap}
abbrev NUMT : List (Str × List Int) := [("give", [2]), ("hold", [2, 3]), ("move", [3]), ("spend", [2]), ("promise", [3]), ("lessen", [2]), ("out", [2])]
theorem KW_nm : ∀ s ∈ KW, Nm s := by
  have h : (KW.all fun s => nameS s) = true := by decide +kernel
  exact fun s hs => nm_ofS (List.all_eq_true.mp h s hs)
/-- a good tuple's places of numbers -/
theorem gt_places {t : List DV} (h : GT t) : ∃ w pl, t[0]? = some (.str w) ∧ NUMT.lookup w = some pl ∧ ∀ (k : Nat) d, t[k]? = some d → (((k : Int) ∈ pl) ∧ ∃ i, d = .int i ∧ Nu i) ∨ ((k : Int) ∉ pl ∧ ∃ s : Str, d = .str s ∧ (s = "" → k + 1 = t.length) ∧ (s = "" ∨ Nm s)) := by
  cases h with
  | Give h c n hh hc hn  =>
    refine ⟨"give", [2], rfl, by decide +kernel, fun k d hk => ?_⟩
    match k, hk with
    | 0, hk =>
      obtain rfl : _ = d := Option.some.inj hk
      exact .inr ⟨by decide, _, rfl, fun e => absurd e (by decide +kernel), .inr (KW_nm _ (by simp [KW]))⟩
    | 1, hk =>
      obtain rfl : _ = d := Option.some.inj hk
      exact .inr ⟨by decide, _, rfl, fun e => absurd e (ne_empty hh.ne), .inr hh⟩
    | 2, hk =>
      obtain rfl : _ = d := Option.some.inj hk
      exact .inl ⟨by decide, _, rfl, by unfold Nu; omega⟩
    | 3, hk =>
      obtain rfl : _ = d := Option.some.inj hk
      exact .inr ⟨by decide, _, rfl, fun _ => rfl, hn⟩
    | j + 4, hk => cases hk
  | Hold h c u n hh hc hu hn  =>
    refine ⟨"hold", [2, 3], rfl, by decide +kernel, fun k d hk => ?_⟩
    match k, hk with
    | 0, hk =>
      obtain rfl : _ = d := Option.some.inj hk
      exact .inr ⟨by decide, _, rfl, fun e => absurd e (by decide +kernel), .inr (KW_nm _ (by simp [KW]))⟩
    | 1, hk =>
      obtain rfl : _ = d := Option.some.inj hk
      exact .inr ⟨by decide, _, rfl, fun e => absurd e (ne_empty hh.ne), .inr hh⟩
    | 2, hk =>
      obtain rfl : _ = d := Option.some.inj hk
      exact .inl ⟨by decide, _, rfl, by unfold Nu; omega⟩
    | 3, hk =>
      obtain rfl : _ = d := Option.some.inj hk
      exact .inl ⟨by decide, _, rfl, by unfold Nu; omega⟩
    | 4, hk =>
      obtain rfl : _ = d := Option.some.inj hk
      exact .inr ⟨by decide, _, rfl, fun _ => rfl, hn⟩
    | j + 5, hk => cases hk
  | Move h o c n hh ho hc hn ne =>
    refine ⟨"move", [3], rfl, by decide +kernel, fun k d hk => ?_⟩
    match k, hk with
    | 0, hk =>
      obtain rfl : _ = d := Option.some.inj hk
      exact .inr ⟨by decide, _, rfl, fun e => absurd e (by decide +kernel), .inr (KW_nm _ (by simp [KW]))⟩
    | 1, hk =>
      obtain rfl : _ = d := Option.some.inj hk
      exact .inr ⟨by decide, _, rfl, fun e => absurd e (ne_empty hh.ne), .inr hh⟩
    | 2, hk =>
      obtain rfl : _ = d := Option.some.inj hk
      exact .inr ⟨by decide, _, rfl, fun e => absurd e (ne_empty ho.ne), .inr ho⟩
    | 3, hk =>
      obtain rfl : _ = d := Option.some.inj hk
      exact .inl ⟨by decide, _, rfl, by unfold Nu; omega⟩
    | 4, hk =>
      obtain rfl : _ = d := Option.some.inj hk
      exact .inr ⟨by decide, _, rfl, fun _ => rfl, hn⟩
    | j + 5, hk => cases hk
  | Spend h c n hh hc hn  =>
    refine ⟨"spend", [2], rfl, by decide +kernel, fun k d hk => ?_⟩
    match k, hk with
    | 0, hk =>
      obtain rfl : _ = d := Option.some.inj hk
      exact .inr ⟨by decide, _, rfl, fun e => absurd e (by decide +kernel), .inr (KW_nm _ (by simp [KW]))⟩
    | 1, hk =>
      obtain rfl : _ = d := Option.some.inj hk
      exact .inr ⟨by decide, _, rfl, fun e => absurd e (ne_empty hh.ne), .inr hh⟩
    | 2, hk =>
      obtain rfl : _ = d := Option.some.inj hk
      exact .inl ⟨by decide, _, rfl, by unfold Nu; omega⟩
    | 3, hk =>
      obtain rfl : _ = d := Option.some.inj hk
      exact .inr ⟨by decide, _, rfl, fun _ => rfl, hn⟩
    | j + 4, hk => cases hk
  | Promise r h c n hr hh hc hn  =>
    refine ⟨"promise", [3], rfl, by decide +kernel, fun k d hk => ?_⟩
    match k, hk with
    | 0, hk =>
      obtain rfl : _ = d := Option.some.inj hk
      exact .inr ⟨by decide, _, rfl, fun e => absurd e (by decide +kernel), .inr (KW_nm _ (by simp [KW]))⟩
    | 1, hk =>
      obtain rfl : _ = d := Option.some.inj hk
      exact .inr ⟨by decide, _, rfl, fun e => absurd e (ne_empty hr.ne), .inr hr⟩
    | 2, hk =>
      obtain rfl : _ = d := Option.some.inj hk
      exact .inr ⟨by decide, _, rfl, fun e => absurd e (ne_empty hh.ne), .inr hh⟩
    | 3, hk =>
      obtain rfl : _ = d := Option.some.inj hk
      exact .inl ⟨by decide, _, rfl, by unfold Nu; omega⟩
    | 4, hk =>
      obtain rfl : _ = d := Option.some.inj hk
      exact .inr ⟨by decide, _, rfl, fun _ => rfl, hn⟩
    | j + 5, hk => cases hk
  | Lessen r c n hr hc hn  =>
    refine ⟨"lessen", [2], rfl, by decide +kernel, fun k d hk => ?_⟩
    match k, hk with
    | 0, hk =>
      obtain rfl : _ = d := Option.some.inj hk
      exact .inr ⟨by decide, _, rfl, fun e => absurd e (by decide +kernel), .inr (KW_nm _ (by simp [KW]))⟩
    | 1, hk =>
      obtain rfl : _ = d := Option.some.inj hk
      exact .inr ⟨by decide, _, rfl, fun e => absurd e (ne_empty hr.ne), .inr hr⟩
    | 2, hk =>
      obtain rfl : _ = d := Option.some.inj hk
      exact .inl ⟨by decide, _, rfl, by unfold Nu; omega⟩
    | 3, hk =>
      obtain rfl : _ = d := Option.some.inj hk
      exact .inr ⟨by decide, _, rfl, fun _ => rfl, hn⟩
    | j + 4, hk => cases hk
  | Out r c n hr hc hn  =>
    refine ⟨"out", [2], rfl, by decide +kernel, fun k d hk => ?_⟩
    match k, hk with
    | 0, hk =>
      obtain rfl : _ = d := Option.some.inj hk
      exact .inr ⟨by decide, _, rfl, fun e => absurd e (by decide +kernel), .inr (KW_nm _ (by simp [KW]))⟩
    | 1, hk =>
      obtain rfl : _ = d := Option.some.inj hk
      exact .inr ⟨by decide, _, rfl, fun e => absurd e (ne_empty hr.ne), .inr hr⟩
    | 2, hk =>
      obtain rfl : _ = d := Option.some.inj hk
      exact .inl ⟨by decide, _, rfl, by unfold Nu; omega⟩
    | 3, hk =>
      obtain rfl : _ = d := Option.some.inj hk
      exact .inr ⟨by decide, _, rfl, fun _ => rfl, hn⟩
    | j + 4, hk => cases hk
theorem gt_item {t : List DV} (h : GT t) {d : DV} (hd : d ∈ t) : (∃ i, d = .int i ∧ Nu i) ∨ ∃ s : Str, d = .str s ∧ (s = "" ∨ Nm s) := by
  obtain ⟨w, pl, _, _, h⟩ := gt_places h
  obtain ⟨k, hk, e⟩ := List.mem_iff_getElem.mp hd
  rcases h k d (by rw [List.getElem?_eq_getElem hk, e]) with ⟨_, i, e, hi⟩ | ⟨_, s, e, _, hs⟩
  · exact .inl ⟨i, e, hi⟩
  · exact .inr ⟨s, e, hs⟩
theorem gt_len {t : List DV} (h : GT t) : 4 ≤ t.length ∧ t.length ≤ 5 := by
  cases h <;> simp
theorem word_s {s : Str} : wordW (.str s) = if s = "" then ("-" : Str) else s := by
  unfold wordW
  rw [deq_str]
  by_cases h : s = ""
  · rw [decide_eq_true h, if_pos h]; rfl
  · rw [decide_eq_false h, if_neg h]; rfl
theorem word_i {i : Int} : wordW (.int i) = istr i := rfl
theorem dash : Wd1 "-" := ⟨by decide +kernel, by decide +kernel, by decide +kernel⟩
theorem item_wd {d : DV} (h : (∃ i, d = .int i ∧ Nu i) ∨ ∃ s : Str, d = .str s ∧ (s = "" ∨ Nm s)) : Wd1 (wordW d) := by
  rcases h with ⟨i, rfl, h⟩ | ⟨s, rfl, h⟩
  · exact wd_int h.1
  · rw [word_s]
    split
    · exact dash
    · rename_i hn
      exact wd_nm (h.resolve_left hn)
theorem item_wok {d : DV} (h : (∃ i, d = .int i ∧ Nu i) ∨ ∃ s : Str, d = .str s ∧ (s = "" ∨ Nm s)) : WOK d := by
  rcases h with ⟨i, rfl, h⟩ | ⟨s, rfl, h⟩
  · exact .inr ⟨i, rfl, h.1, h.2⟩
  · refine .inl ⟨s, rfl, ?_⟩
    rcases h with rfl | h
    · decide +kernel
    · have := h.len; omega
inductive LN where
  | back (a b : Int)
  | inn (a b : Int) (t : List DV)
  | right (a b c : Int) (t : List DV)
def lnV : LN → DV
  | .back a b => .tup [.str "back", .int a, .int b]
  | .inn a b t => .tup [.str "in", .int a, .int b, .tup t]
  | .right a b c t => .tup [.str "right", .int a, .int b, .int c, .tup t]
def lnT : LN → List DV
  | .back a b => [.str "back", .int a, .int b]
  | .inn a b t => [.str "in", .int a, .int b] ++ t
  | .right a b c t => [.str "right", .int a, .int b, .int c] ++ t
def LNok : LN → Prop
  | .back a b => Nu a ∧ Nu b
  | .inn a b t => Nu a ∧ Nu b ∧ GT t
  | .right a b c t => Nu a ∧ Nu b ∧ Nu c ∧ GT t
def thingsD : DV → List DV
  | .tup es => es.flatMap fun d => match d with | .tup t => t | d => [d]
  | _ => []
theorem things_ln {l : LN} : thingsD (lnV l) = lnT l := by
  cases l with
  | back a b => rfl
  | inn a b t => simp [thingsD, lnV, lnT]
  | right a b c t => simp [thingsD, lnV, lnT]
theorem lnk : Nm "back" ∧ Nm "in" ∧ Nm "right" := ⟨nm_ofS (by decide +kernel), nm_ofS (by decide +kernel), nm_ofS (by decide +kernel)⟩
theorem ln_item {l : LN} (h : LNok l) {d : DV} (hd : d ∈ lnT l) : (∃ i, d = .int i ∧ Nu i) ∨ ∃ s : Str, d = .str s ∧ (s = "" ∨ Nm s) := by
  cases l with
  | back a b =>
    obtain ⟨h1, h2⟩ := h
    simp only [lnT, List.mem_cons, List.not_mem_nil, or_false] at hd
    rcases hd with rfl | rfl | rfl
    · exact .inr ⟨_, rfl, .inr lnk.1⟩
    · exact .inl ⟨_, rfl, h1⟩
    · exact .inl ⟨_, rfl, h2⟩
  | inn a b t =>
    obtain ⟨h1, h2, h3⟩ := h
    simp only [lnT, List.mem_append, List.mem_cons, List.not_mem_nil, or_false] at hd
    rcases hd with (rfl | rfl | rfl) | hd
    · exact .inr ⟨_, rfl, .inr lnk.2.1⟩
    · exact .inl ⟨_, rfl, h1⟩
    · exact .inl ⟨_, rfl, h2⟩
    · exact gt_item h3 hd
  | right a b c t =>
    obtain ⟨h1, h2, h3, h4⟩ := h
    simp only [lnT, List.mem_append, List.mem_cons, List.not_mem_nil, or_false] at hd
    rcases hd with (rfl | rfl | rfl | rfl) | hd
    · exact .inr ⟨_, rfl, .inr lnk.2.2⟩
    · exact .inl ⟨_, rfl, h1⟩
    · exact .inl ⟨_, rfl, h2⟩
    · exact .inl ⟨_, rfl, h3⟩
    · exact gt_item h4 hd
theorem ln_len {l : LN} (h : LNok l) : 3 ≤ (lnT l).length ∧ (lnT l).length ≤ 9 := by
  cases l with
  | back a b => exact ⟨Nat.le_of_ble_eq_true rfl, Nat.le_of_ble_eq_true rfl⟩
  | inn a b t =>
    have := gt_len h.2.2
    show 3 ≤ (_ ++ t).length ∧ (_ ++ t).length ≤ 9
    simp only [List.length_append, List.length_cons, List.length_nil]
    omega
  | right a b c t =>
    have := gt_len h.2.2.2
    show 3 ≤ (_ ++ t).length ∧ (_ ++ t).length ≤ 9
    simp only [List.length_append, List.length_cons, List.length_nil]
    omega
def lineS (l : LN) : Str := Str.join " " ((lnT l).map wordW)
def linesS (ls : List LN) : Str := Str.join "" ((ls.map lineS).map fun x => x ++ ("\n" : Str))
theorem line_row {l : LN} : rowS (lnT l) = lineS l ++ "\n" := rfl
theorem line_split {l : LN} (h : LNok l) : Txt.split (lineS l) " " = (lnT l).map wordW :=
  split_words (fun e => by have := ln_len h; have e := congrArg List.length e; rw [List.length_map, List.length_nil] at e; omega) fun w hw => by
    obtain ⟨d, hd, rfl⟩ := List.mem_map.mp hw
    exact (item_wd (ln_item h hd)).sp
theorem lines_rows {ls : List LN} (h : ∀ l ∈ ls, LNok l) : rowsOf (linesS ls) = some (ls.map lineS) := rows_back fun x hx => by
  obtain ⟨l, hl, rfl⟩ := List.mem_map.mp hx
  exact row_nl fun w hw => by
    obtain ⟨d, hd, rfl⟩ := List.mem_map.mp hw
    exact (item_wd (ln_item (h l hl) hd)).nl
theorem ln_wok {l : LN} (h : LNok l) : ∀ d ∈ lnT l, WOK d := fun d hd => item_wok (ln_item h hd)
theorem rows_len84 {xs : List Str} (h : ∀ s ∈ xs, s.length ≤ 2000) (hl : xs.length ≤ 45) : (xs.map (·.length)).sum + xs.length * ("" : Str).length ≤ 100000 := by
  have := sum_le h
  rw [show ("" : Str).length = 0 from by decide +kernel]
  omega
def sp_line_text (_K : PySem.W.Frag) : Spd := fun ds st Q _ => ∃ l, ds = [lnV l] ∧ LNok l ∧ Q (.str (rowS (lnT l))) st
def sp_lines_text (_K : PySem.W.Frag) : Spd := fun ds st Q _ => ∃ x ls, ds = [x] ∧ itsOf st x = some (ls.map lnV) ∧ (∀ l ∈ ls, LNok l) ∧ ls.length ≤ 45 ∧ Q (.str (linesS ls)) st
def sp_told_of (_K : PySem.W.Frag) : Spd := fun ds st Q _ => ∃ t, ds = [.lst ((t.map wordW).map DV.str)] ∧ GT t ∧ Q (.tup t) st
def sp_read_line (_K : PySem.W.Frag) : Spd := fun ds st Q _ => ∃ l, ds = [.str (lineS l)] ∧ LNok l ∧ Q (lnV l) st
def sp_read_lines (_K : PySem.W.Frag) : Spd := fun ds st Q _ => ∃ ls, ds = [.str (linesS ls)] ∧ (∀ l ∈ ls, LNok l) ∧ ls.length ≤ 45 ∧ NewL (ls.map lnV) st Q

theorem ok_line_text (T : Tx P w K mg base) : DefOk P w K mg base 3 ("line_text", none) ["line"] (spOf K (sp_line_text K)) := by
  refine mkOkD T.f_line_text sc_line_text (fun ds st Q E h => ?_) (fun _ _ _ _ _ _ us hl => match us, hl with | [_], _ => rfl) (fun cdv A outer s H E hr ds st Q Ed h => ?_)
  · obtain ⟨l, rfl, hl, k⟩ := h
    rfl
  · obtain ⟨l, rfl, hl, k⟩ := h
    refine ⟨_, (dss_cons (ds_if (dt_cmp (kEqD rfl hr) (d_ix (kIxD rfl) (d_var (pv 0)) d_int (fun _ _ => rfl)) (d_str (by decide +kernel)) (nomark _)) (dss_one (ds_ret (d_call (takes_of rfl rfl rfl rfl) (ok_row_text (K := K) T) T.g_row_text (hr.mono (by decide)) (da_cons (d_callTy (kListD rfl) rfl T.n_list (by decide +kernel) (da_cons (d_var (pv 0)) da_nil)) da_nil)))) dss_nil)
      (dss_one (ds_ret (d_call (takes_of rfl rfl rfl rfl) (ok_row_text (K := K) T) T.g_row_text (hr.mono (by decide)) (da_cons (d_op (kAddD rfl) (d_callTy (kListD rfl) rfl T.n_list (by decide +kernel) (da_cons (d_slice (kSlD rfl) (d_var (pv 0)) do_none (do_some (d_un kNegD d_int))) da_nil)) (d_callTy (kListD rfl) rfl T.n_list (by decide +kernel) (da_cons (d_ix (kIxD rfl) (d_var (pv 0)) (d_un kNegD d_int) (fun _ _ => rfl)) da_nil))) da_nil))))), .inl ?_⟩
    cases l with
    | back a b =>
      unfold lnV
      walk_at "d"
      rw [show decide (("back" : Str) = "back") = true from decide_eq_true rfl]
      walk_at "d"
      refine w_list (es := [.str "back", .int a, .int b]) rfl (w_lstF ?_)
      walk_at "d"
      exact use_row (xs := lnT (.back a b)) (ln_wok hl) (Nat.le_of_ble_eq_true rfl) ⟨_, _, .refl, k⟩
    | inn a b t =>
      unfold lnV
      walk_at "d"
      rw [show decide (("in" : Str) = "back") = false from by decide +kernel]
      walk_at "d"
      refine w_slTT ?_
      rw [show cutD [DV.str "in", .int a, .int b, .tup t] none (some (-1)) = [.str "in", .int a, .int b] from rfl]
      walk_at "d"
      refine w_list (es := [.str "in", .int a, .int b]) rfl (w_lstF ?_)
      walk_at "d"
      refine w_list (es := t) rfl (w_lstF ?_)
      have := gt_len hl.2.2
      refine w_addL rfl rfl (by show 3 + _ ≤ _; omega) (w_lstF ?_)
      walk_at "d"
      exact use_row (xs := lnT (.inn a b t)) (ln_wok hl) (by have := (ln_len hl).2; omega) ⟨_, _, .refl, k⟩
    | right a b c t =>
      unfold lnV
      walk_at "d"
      rw [show decide (("right" : Str) = "back") = false from by decide +kernel]
      walk_at "d"
      refine w_slTT ?_
      rw [show cutD [DV.str "right", .int a, .int b, .int c, .tup t] none (some (-1)) = [.str "right", .int a, .int b, .int c] from rfl]
      walk_at "d"
      refine w_list (es := [.str "right", .int a, .int b, .int c]) rfl (w_lstF ?_)
      walk_at "d"
      refine w_list (es := t) rfl (w_lstF ?_)
      have := gt_len hl.2.2.2
      refine w_addL rfl rfl (by show 4 + _ ≤ _; omega) (w_lstF ?_)
      walk_at "d"
      exact use_row (xs := lnT (.right a b c t)) (ln_wok hl) (by have := (ln_len hl).2; omega) ⟨_, _, .refl, k⟩

theorem ok_lines_text (T : Tx P w K mg base) : DefOk P w K mg base 4 ("lines_text", none) ["lines"] (spOf K (sp_lines_text K)) := by
  refine mkOkD T.f_lines_text sc_lines_text (fun ds st Q E h => ?_) (fun _ _ _ _ _ _ us hl => match us, hl with | [_], _ => rfl) (fun cdv A outer s H E hr ds st Q Ed h => ?_)
  · obtain ⟨x, ls, rfl, hx, hl, hn, k⟩ := h
    rfl
  · obtain ⟨x, ls, rfl, hx, hl, hn, k⟩ := h
    refine ⟨_, (dss_one (ds_ret (d_bm rfl PySem.F.plainAttrs_str PySem.F.slot_str_join PySem.F.type_str_join (kJoinD rfl) (d_str (by decide +kernel)) (da_cons (d_lc (own := [("line", 1)]) rfl sc_lines_text.nd (di_seq rfl (d_var (pv 0))) (blkOk_by (N := nm_lines_text) (sc := defScope s_lines_text) (by decide +kernel)) (by decide) (fun _ _ _ _ _ => (dg_name (pg_name (i := 1) sc_lines_text.nd rfl (Or.inl rfl)))) (fun _ _ _ _ _ => dts_nil) (fun _ _ _ _ _ => (d_call takes0 (ok_line_text (K := K) T) T.g_line_text (hr.mono (by decide)) (da_cons (d_var (pv 1)) da_nil)))) da_nil)))), .inl ?_⟩
    walk_at "d"
    refine ⟨_, hx, ?_⟩
    refine w_lcmap (fun d => .str (rowS (thingsD d))) hx (fun y hy QQ hq => ?_) (by rw [List.length_map]; omega) (w_lstF ?_)
    · obtain ⟨l, hm, rfl⟩ := List.mem_map.mp hy
      rw [things_ln] at hq
      walk_at "d"
      exact ⟨l, rfl, hl l hm, hq⟩
    rw [show (ls.map lnV).map (fun d => DV.str (rowS (thingsD d))) = (ls.map fun l => rowS (lnT l)).map DV.str from by rw [List.map_map, List.map_map]; exact List.map_congr_left fun l _ => by show DV.str (rowS (thingsD (lnV l))) = _; rw [things_ln]; rfl]
    walk_at "d"
    refine w_join (ss := ls.map fun l => rowS (lnT l)) rfl (rows_len84 (fun s hs => ?_) (by rw [List.length_map]; exact hn)) ?_
    · obtain ⟨l, hm, rfl⟩ := List.mem_map.mp hs
      exact row_len (ln_wok (hl l hm)) (by have := (ln_len (hl l hm)).2; omega)
    refine ⟨_, _, .refl, ?_⟩
    unfold linesS at k
    rw [List.map_map] at k
    exact k
end
end Kn

set_option Elab.async false
set_option linter.all false
set_option maxRecDepth 100000
set_option maxHeartbeats 40000000
set_option pp.maxSteps 400
namespace Kn
open PySem PySem.Spec PyProof.Rows L2
local macro_rules | `(tactic| walk_at "e1") => `(tactic| first
  | with_reducible refine w_seq ?_
  | with_reducible refine w_next ?_
  | with_reducible refine w_brk ?_
  | with_reducible refine w_cont ?_
  | with_reducible refine w_drop ?_
  | with_reducible refine w_ret ?_
  | with_reducible refine w_ifs ?_
  | with_reducible refine w_asg ?_
  | with_reducible refine w_nm ?_
  | with_reducible refine w_c ?_
  | with_reducible refine w_op ?_
  | with_reducible refine w_un ?_
  | with_reducible refine w_chain ?_
  | with_reducible refine w_test ?_
  | with_reducible refine w_and ?_
  | with_reducible refine w_or ?_
  | with_reducible refine w_not ?_
  | with_reducible refine w_yes ?_
  | with_reducible refine w_andV ?_
  | with_reducible refine w_orV ?_
  | with_reducible refine w_notV ?_
  | with_reducible refine w_ifE ?_
  | with_reducible refine w_nil ?_
  | with_reducible refine w_cons ?_
  | with_reducible refine w_tup ?_
  | with_reducible refine w_lst ?_
  | with_reducible refine w_cb ?_
  | with_reducible refine w_call ?_
  | with_reducible refine w_make ?_
  | with_reducible refine w_meth ?_
  | with_reducible refine w_fld ?_
  | with_reducible refine w_sfld ?_
  | with_reducible refine w_raise ?_
  | with_reducible refine w_try ?_
  | with_reducible refine w_gsq ?_
  | with_reducible refine w_gsb ?_
  | with_reducible refine w_isT ?_
  | with_reducible refine w_bm ?_
  | with_reducible refine w_bm0 ?_
  | with_reducible refine w_m0 ?_
  | with_reducible refine w_sl ?_
  | with_reducible refine w_part ?_
  | with_reducible refine w_nop ?_
  | with_reducible refine w_rev ?_
  | with_reducible refine w_isq ?_
  | with_reducible refine w_r1 ?_
  | with_reducible refine w_r2 ?_
  | with_reducible refine w_r3 ?_
  | with_reducible refine w_thru ?_
  | with_reducible refine w_en ?_
  | with_reducible refine w_kgT ?_
  | with_reducible refine w_ends ?_
  | with_reducible refine w_ist ?_
  | with_reducible refine w_for ?_
  | with_reducible refine w_lc ?_
  | with_reducible refine w_blP ?_
  | with_reducible refine w_intP ?_
  | with_reducible refine w_strP ?_
  | with_reducible refine w_strE ?_
  | with_reducible refine w_addI ?_
  | with_reducible refine w_ii ?_
  | with_reducible refine w_neg ?_
  | with_reducible refine w_eqI ?_
  | with_reducible refine w_eqS ?_
  | with_reducible refine w_neI ?_
  | with_reducible refine w_neS ?_
  | with_reducible refine w_is ?_
  | with_reducible refine w_isN ?_
  | with_reducible refine w_slS ?_
  | with_reducible refine w_lenS ?_
  | with_reducible refine w_lenT ?_
  | with_reducible refine w_lenL ?_
  | with_reducible refine w_lenC ?_
  | with_reducible refine w_int1b ?_
  | with_reducible refine w_int1i ?_
  | with_reducible refine w_strip ?_
  | with_reducible refine w_lock ?_
  | with_reducible refine w_dget ?_
  | with_reducible refine w_din ?_
  | with_reducible refine w_dget2 ?_
  | with_reducible refine w_dpn ?_
  | with_reducible refine w_dpc ?_
  | with_reducible refine w_disp ?_
  | with_reducible refine w_ivals ?_
  | with_reducible refine w_par ?_
  | with_reducible refine w_dgv ?_
  | with_reducible refine w_revS ?_
  | with_reducible refine w_max2 ?_
  | with_reducible refine w_min2 ?_
  | with_reducible refine w_var rfl ?_
  | with_reducible refine w_gcn ?_
  | with_reducible refine w_gnl ?_
  | with_reducible refine iteT ?_
  | with_reducible refine iteF ?_
  | with_reducible refine ite_not ?_
  | with_reducible refine w_ixT atI_zero ?_
  | with_reducible refine w_ixL atI_zero ?_
  | with_reducible refine w_kg ?_
  | ((with_reducible refine w_ixT (d := ?dd) ?hi ?_); case hi => rfl)
  | ((with_reducible refine w_ixL (d := ?dd) ?hi ?_); case hi => rfl)
  | ((with_reducible refine w_isi_str ?hk ?_); case hk => rfl)
  | ((with_reducible refine w_isi_int ?hk ?_); case hk => rfl)
  | ((with_reducible refine w_isi_bool ?hk ?_); case hk => rfl)
  | ((with_reducible refine w_isi_tuple ?hk ?_); case hk => rfl)
  | ((with_reducible refine w_isi_list ?hk ?_); case hk => rfl)
  | ((with_reducible refine w_fldI (v := ?dd) ?hf ?_); case hf => rfl)
  | ((with_reducible refine w_lenok ?hl ?_); case hl => exact Nat.le_of_ble_eq_true rfl)
  | ((with_reducible refine w_tym ?hl ?_); case hl => exact rfl))
local macro_rules | `(tactic| walk_at "e") => `(tactic| repeat walk_at "e1")
local macro_rules | `(tactic| walk_at "d1") => `(tactic| first
  | walk_at "e1"
  | with_reducible refine w_gv_non ?_
  | with_reducible refine w_gv_bl ?_
  | with_reducible refine w_gv_int ?_
  | with_reducible refine w_gv_str ?_
  | with_reducible refine w_gv_tup ?_
  | with_reducible refine w_gv_lst ?_
  | with_reducible refine w_gv_ins ?_)
local macro_rules | `(tactic| walk_at "d") => `(tactic| repeat walk_at "d1")

section
variable {w : World} {P : Program} {mg : Str → Option Value} {K : PySem.W.Frag} {base : Heap}
theorem any_intD {pl : List Int} {k : Int} : ((pl.map DV.int).any fun z => deq z (.int k)) = decide (k ∈ pl) := by
  induction pl with
  | nil => rfl
  | cons a r ih =>
    rw [List.map_cons, List.any_cons, ih, deq_int]
    by_cases h : a = k
    · subst h; simp
    · rw [decide_eq_false h, Bool.false_or]
      exact decide_eq_decide.mpr ⟨fun m => List.mem_cons_of_mem _ m, fun m => (List.mem_cons.mp m).resolve_left fun e => h e.symm⟩
theorem w_inInts {k : Int} {pl : List Int} {st : Sto} {Q : KD} (q : Q (.bl (decide (k ∈ pl))) st) : qIn (.int k) (.tup (pl.map DV.int)) st Q :=
  .inr (.inr (.inl ⟨_, rfl, rfl, List.all_eq_true.mpr fun z hz => (by obtain ⟨i, _, rfl⟩ := List.mem_map.mp hz; rfl), by rw [any_intD]; exact q⟩))
theorem told_way {t : List DV} {e : DV} (h : GE K t e) : ∀ (st : Sto) (P : Spd → Prop), (∀ sp, (∀ Q E, Q (.tup t) st → sp [e] st Q E) → P sp) → ∃ C ns fs sp, insOf st e = some (C, ns, fs) ∧ ws_told K C sp ∧ (ns.all fun f => !(f == "told")) = true ∧ P sp := by
  intro st P hP
  cases h with
  | Give h c n hh hc hn  =>
    exact ⟨_, _, _, _, rfl, .inl ⟨rfl, rfl⟩, by decide +kernel, hP _ fun Q E q => ⟨_, _, _, rfl, q⟩⟩
  | Hold h c u n hh hc hu hn  =>
    exact ⟨_, _, _, _, rfl, .inr (.inl ⟨rfl, rfl⟩), by decide +kernel, hP _ fun Q E q => ⟨_, _, _, _, rfl, q⟩⟩
  | Move h o c n hh ho hc hn ne =>
    exact ⟨_, _, _, _, rfl, .inr (.inr (.inl ⟨rfl, rfl⟩)), by decide +kernel, hP _ fun Q E q => ⟨_, _, _, _, rfl, q⟩⟩
  | Spend h c n hh hc hn  =>
    exact ⟨_, _, _, _, rfl, .inr (.inr (.inr (.inl ⟨rfl, rfl⟩))), by decide +kernel, hP _ fun Q E q => ⟨_, _, _, rfl, q⟩⟩
  | Promise r h c n hr hh hc hn  =>
    exact ⟨_, _, _, _, rfl, .inr (.inr (.inr (.inr (.inl ⟨rfl, rfl⟩)))), by decide +kernel, hP _ fun Q E q => ⟨_, _, _, _, rfl, q⟩⟩
  | Lessen r c n hr hc hn  =>
    exact ⟨_, _, _, _, rfl, .inr (.inr (.inr (.inr (.inr (.inl ⟨rfl, rfl⟩))))), by decide +kernel, hP _ fun Q E q => ⟨_, _, _, rfl, q⟩⟩
  | Out r c n hr hc hn  =>
    exact ⟨_, _, _, _, rfl, .inr (.inr (.inr (.inr (.inr (.inr (⟨rfl, rfl⟩)))))), by decide +kernel, hP _ fun Q E q => ⟨_, _, _, rfl, q⟩⟩
theorem gt_kn {t : List DV} (h : GT t) : kn1 (.tup t) = true := by
  show t.all knD = true
  refine List.all_eq_true.mpr fun d hd => ?_
  rcases gt_item h hd with ⟨i, rfl, _⟩ | ⟨s, rfl, _⟩ <;> rfl
theorem nm_dash {s : Str} (h : Nm s) : ¬ s = "-" := fun e => by
  have := h.lt 45 (by rw [e]; decide +kernel)
  omega

theorem ok_told_of (T : Tx P w K mg base) : DefOk P w K mg base 7 ("told_of", none) ["words"] (spOf K (sp_told_of K)) := by
  refine mkOkD T.f_told_of sc_told_of (fun ds st Q E h => ?_) (fun _ _ _ _ _ _ us hl => match us, hl with | [_], _ => rfl) (fun cdv A outer s H E hr ds st Q Ed h => ?_)
  · obtain ⟨t, rfl, hT, k⟩ := h
    rfl
  · obtain ⟨t, rfl, hT, k⟩ := h
    refine ⟨_, (dss_cons (ds_expr (d_call (takes_of rfl rfl rfl rfl) (ok_check_texts (K := K) T) T.g_check_texts (hr.mono (by decide)) (da_cons (d_and (d_cmp (kNeD rfl hr) (d_var (pv 0)) (d_lst da_nil) (nomark _)) (d_one (d_cmp (kNiD rfl hr) (d_str (by decide +kernel)) (d_var (pv 0)) (by rfl)))) da_nil)))
      (dss_cons (ds_set (i := 1) sc_told_of.nd rfl (Or.inl rfl) (d_kgetT rfl T.d_NUMBERS (kgR T.g_NUMBERS) (d_ix (kIxD rfl) (d_var (pv 0)) d_int (fun _ _ => rfl)) (d_tup da_nil)))
      (dss_cons (ds_set (i := 2) sc_told_of.nd rfl (Or.inl rfl) (d_lst da_nil))
      (dss_cons (ds_for (passes_of rfl) rfl (di_enum rfl rfl T.n_enumerate (da_cons (d_var (pv 0)) da_nil)) (dg_seq (n := 2) rfl rfl (dgs_cons (dg_name (pg_name (i := 3) sc_told_of.nd rfl (Or.inl rfl))) (dgs_cons (dg_name (pg_name (i := 4) sc_told_of.nd rfl (Or.inl rfl))) dgs_nil))) (dss_one (ds_if (dt_cmp (kInD rfl hr) (d_var (pv 3)) (d_var (pv 1)) (by rfl)) (dss_one (ds_expr (d_bm rfl PySem.F.plainAttrs_list PySem.F.slot_list_append PySem.F.type_list_append kAppD (d_var (pv 2)) (da_cons (d_call (takes_of rfl rfl rfl rfl) (ok_number_of (K := K) T) T.g_number_of (hr.mono (by decide)) (da_cons (d_var (pv 4)) da_nil)) da_nil)))) (dss_one (ds_if (dw_1 (dw_and (dt_cmp (kEqD rfl hr) (d_var (pv 3)) (d_op kSubD (d_callB (kLenD rfl) rfl T.n_len (by decide +kernel) (da_cons (d_var (pv 0)) da_nil)) d_int) (nomark _)) (dw_and1 (dt_cmp (kEqD rfl hr) (d_var (pv 4)) (d_str (by decide +kernel)) (nomark _))))) (dss_one (ds_expr (d_bm rfl PySem.F.plainAttrs_list PySem.F.slot_list_append PySem.F.type_list_append kAppD (d_var (pv 2)) (da_cons (d_str (by decide +kernel)) da_nil)))) (dss_one (ds_expr (d_bm rfl PySem.F.plainAttrs_list PySem.F.slot_list_append PySem.F.type_list_append kAppD (d_var (pv 2)) (da_cons (d_var (pv 4)) da_nil)))))))))
      (dss_one (ds_thru (dss_one (ds_set (i := 5) sc_told_of.nd rfl (Or.inl rfl) (d_call takes0 (ok_read_entry (K := K) T) T.g_read_entry (hr.mono (by decide)) (da_cons (d_callTy (kTupD rfl) rfl T.n_tuple (by decide +kernel) (da_cons (d_var (pv 2)) da_nil)) da_nil)))) (dss_one (ds_ret (d_meth0 (takes_of rfl rfl rfl rfl) rfl (d_var (pv 5)) (ways_told (K := K) T) (hr.mono (by decide))))))))))), .inl ?_⟩
    obtain ⟨w, pl, hw0, hpl, hpr⟩ := gt_places hT
    have htl := gt_len hT
    obtain ⟨d0, r0, ht⟩ : ∃ d r, t = d :: r := by
      cases t with
      | nil => exact absurd htl.1 (by decide)
      | cons d r => exact ⟨d, r, rfl⟩
    have hd0 : d0 = .str w := by rw [ht] at hw0; injection hw0
    have hwn : Nm w := by
      rcases hpr 0 (.str w) hw0 with ⟨_, i, e, _⟩ | ⟨_, s, e, h0, hs⟩
      · cases e
      · injection e with e
        subst e
        refine hs.resolve_left fun e => ?_
        have := h0 e
        omega
    have w0 : (t.map wordW).map DV.str = .str w :: (r0.map wordW).map DV.str := by
      rw [ht, hd0, List.map_cons, List.map_cons, word_s, if_neg (ne_empty hwn.ne)]
    walk_at "d"
    refine w_lstF ?_
    refine w_neV rfl rfl all_str rfl ?_
    rw [show deq (.lst ((t.map wordW).map DV.str)) (.lst []) = false from by rw [w0]; rfl]
    walk_at "d"
    refine w_niStr rfl ?_
    rw [decide_eq_false (show ("" : Str) ∉ t.map wordW from fun h => by
      obtain ⟨d, hd, e⟩ := List.mem_map.mp h
      exact (item_wd (gt_item hT hd)).ne (by rw [e]; decide +kernel))]
    walk_at "d"
    refine use_ckT rfl ?_
    walk_at "d"
    refine w_ixL (ds := (t.map wordW).map DV.str) (d := .str w) (by rw [w0]; exact atI_zero) ?_
    walk_at "d"
    rw [hpl]
    dsimp only
    walk_at "d"
    refine w_lstS fun f hf => ?_
    walk_at "d"
    refine ⟨_, rfl, fun i sl s => ∃ v3 v4 v5, sl = [some (.lst ((t.map wordW).map DV.str)), some (.tup (pl.map DV.int)), some (.ref f), v3, v4, v5] ∧ s = sset st f (.lst (t.take i)), ⟨_, _, _, rfl, rfl⟩, fun _ _ _ _ _ => trivial, ?_, ?_⟩
    · rintro i x sl s hx ⟨v3, v4, v5, rfl, rfl⟩
      obtain ⟨dw, hdw, rfl⟩ := enD_get hx
      rw [List.getElem?_map, List.getElem?_map] at hdw
      cases hti : t[i]? with
      | none => rw [hti] at hdw; cases hdw
      | some d =>
        rw [hti] at hdw
        have hdw : some (DV.str (wordW d)) = some dw := hdw
        injection hdw with hdw
        subst hdw
        have snoc : t.take i ++ [d] = t.take (i + 1) := by rw [List.take_add_one, hti]; rfl
        have len1 : (t.take i).length < 100000 := by rw [List.length_take]; omega
        walk_at "d"
        refine ⟨_, rfl, rfl, ?_⟩
        walk_at "d"
        refine w_inInts ?_
        rcases hpr i d hti with ⟨hin, j, rfl, hj⟩ | ⟨hin, z, rfl, h0, hz⟩
        · rw [decide_eq_true hin]
          walk_at "d"
          refine ⟨tyM_l sset_same, ?_⟩
          walk_at "d"
          refine ⟨istr j, rfl, fun n hn => ?_, fun hn => (by rw [numIn_int hj.1 hj.2] at hn; cases hn)⟩
          rw [numIn_int hj.1 hj.2] at hn
          injection hn with hn
          subst hn
          walk_at "d"
          refine w_app sset_same len1 ?_
          rw [sset_sset, snoc]
          walk_at "d"
          exact ⟨_, _, _, rfl, rfl⟩
        · rw [decide_eq_false hin, word_s]
          walk_at "d"
          by_cases he : z = ""
          · rw [if_pos he, decide_eq_true (show (i : Int) = (((t.map wordW).map DV.str).length : Int) - 1 from by rw [List.length_map, List.length_map]; have := h0 he; omega)]
            walk_at "d"
            rw [show decide (("-" : Str) = "-") = true from decide_eq_true rfl]
            walk_at "d"
            refine ⟨tyM_l sset_same, ?_⟩
            walk_at "d"
            refine w_app sset_same len1 ?_
            rw [sset_sset, ← he, snoc]
            walk_at "d"
            exact ⟨_, _, _, rfl, rfl⟩
          · rw [if_neg he]
            have hnd := nm_dash (hz.resolve_left he)
            have fin : sset (sset st f (.lst (t.take i))) f (.lst (t.take i ++ [.str z])) = sset st f (.lst (t.take (i + 1))) := by rw [sset_sset, snoc]
            cases decide ((i : Int) = (((t.map wordW).map DV.str).length : Int) - 1) with
            | true =>
              walk_at "d"
              rw [decide_eq_false hnd]
              walk_at "d"
              refine ⟨tyM_l sset_same, ?_⟩
              walk_at "d"
              refine w_app sset_same len1 ?_
              walk_at "d"
              exact ⟨_, _, _, rfl, fin⟩
            | false =>
              walk_at "d"
              refine ⟨tyM_l sset_same, ?_⟩
              walk_at "d"
              refine w_app sset_same len1 ?_
              walk_at "d"
              exact ⟨_, _, _, rfl, fin⟩
    · rintro sl s ⟨v3, v4, v5, rfl, rfl⟩
      rw [enD_len, List.length_map, List.length_map, List.take_length]
      obtain ⟨e, hGE, hent⟩ := gt_ge (K := K) hT
      walk_at "d"
      refine w_tup1 (es := t) (its_r sset_same) ?_
      walk_at "d"
      refine ⟨.tup t, rfl, gt_kn hT, fun e' he => ?_, fun hn => (by rw [entD_tup, hent] at hn; cases hn)⟩
      rw [entD_tup, hent] at he
      injection he with he
      subst he
      walk_at "d"
      refine told_way hGE _ _ fun sp hsp => ?_
      walk_at "d"
      exact hsp _ _ (w_sub ((Ext.refl st).new hf) ⟨_, _, .refl, k⟩)

theorem ok_read_line (T : Tx P w K mg base) : DefOk P w K mg base 8 ("read_line", none) ["row"] (spOf K (sp_read_line K)) := by
  refine mkOkD T.f_read_line sc_read_line (fun ds st Q E h => ?_) (fun _ _ _ _ _ _ us hl => match us, hl with | [_], _ => rfl) (fun cdv A outer s H E hr ds st Q Ed h => ?_)
  · obtain ⟨l, rfl, hl, k⟩ := h
    rfl
  · obtain ⟨l, rfl, hl, k⟩ := h
    refine ⟨_, (dss_cons (ds_set (i := 1) sc_read_line.nd rfl (Or.inl rfl) (d_bm rfl PySem.F.plainAttrs_str PySem.F.slot_str_split PySem.F.type_str_split kSplitD (d_var (pv 0)) (da_cons (d_str (by decide +kernel)) da_nil)))
      (dss_cons (ds_if (dt_cmp (kEqD rfl hr) (d_ix (kIxD rfl) (d_var (pv 1)) d_int (fun _ _ => rfl)) (d_str (by decide +kernel)) (nomark _)) (dss_cons (ds_expr (d_call (takes_of rfl rfl rfl rfl) (ok_check_texts (K := K) T) T.g_check_texts (hr.mono (by decide)) (da_cons (d_cmp (kEqD rfl hr) (d_callB (kLenD rfl) rfl T.n_len (by decide +kernel) (da_cons (d_var (pv 1)) da_nil)) d_int (nomark _)) da_nil)))
      (dss_one (ds_ret (d_tup (da_cons (d_str (by decide +kernel)) (da_cons (d_call (takes_of rfl rfl rfl rfl) (ok_number_of (K := K) T) T.g_number_of (hr.mono (by decide)) (da_cons (d_ix (kIxD rfl) (d_var (pv 1)) d_int (fun _ _ => rfl)) da_nil)) (da_cons (d_call (takes_of rfl rfl rfl rfl) (ok_number_of (K := K) T) T.g_number_of (hr.mono (by decide)) (da_cons (d_ix (kIxD rfl) (d_var (pv 1)) d_int (fun _ _ => rfl)) da_nil)) da_nil))))))) dss_nil)
      (dss_cons (ds_if (dt_cmp (kEqD rfl hr) (d_ix (kIxD rfl) (d_var (pv 1)) d_int (fun _ _ => rfl)) (d_str (by decide +kernel)) (nomark _)) (dss_cons (ds_expr (d_call (takes_of rfl rfl rfl rfl) (ok_check_texts (K := K) T) T.g_check_texts (hr.mono (by decide)) (da_cons (d_cmp kGtD (d_callB (kLenD rfl) rfl T.n_len (by decide +kernel) (da_cons (d_var (pv 1)) da_nil)) d_int (nomark _)) da_nil)))
      (dss_one (ds_ret (d_tup (da_cons (d_str (by decide +kernel)) (da_cons (d_call (takes_of rfl rfl rfl rfl) (ok_number_of (K := K) T) T.g_number_of (hr.mono (by decide)) (da_cons (d_ix (kIxD rfl) (d_var (pv 1)) d_int (fun _ _ => rfl)) da_nil)) (da_cons (d_call (takes_of rfl rfl rfl rfl) (ok_number_of (K := K) T) T.g_number_of (hr.mono (by decide)) (da_cons (d_ix (kIxD rfl) (d_var (pv 1)) d_int (fun _ _ => rfl)) da_nil)) (da_cons (d_call (takes_of rfl rfl rfl rfl) (ok_told_of (K := K) T) T.g_told_of (hr.mono (by decide)) (da_cons (d_slice (kSlD rfl) (d_var (pv 1)) (do_some d_int) do_none) da_nil)) da_nil)))))))) dss_nil)
      (dss_cons (ds_expr (d_call (takes_of rfl rfl rfl rfl) (ok_check_texts (K := K) T) T.g_check_texts (hr.mono (by decide)) (da_cons (d_and (d_cmp (kEqD rfl hr) (d_ix (kIxD rfl) (d_var (pv 1)) d_int (fun _ _ => rfl)) (d_str (by decide +kernel)) (nomark _)) (d_one (d_cmp kGtD (d_callB (kLenD rfl) rfl T.n_len (by decide +kernel) (da_cons (d_var (pv 1)) da_nil)) d_int (nomark _)))) da_nil)))
      (dss_one (ds_ret (d_tup (da_cons (d_str (by decide +kernel)) (da_cons (d_call (takes_of rfl rfl rfl rfl) (ok_number_of (K := K) T) T.g_number_of (hr.mono (by decide)) (da_cons (d_ix (kIxD rfl) (d_var (pv 1)) d_int (fun _ _ => rfl)) da_nil)) (da_cons (d_call (takes_of rfl rfl rfl rfl) (ok_number_of (K := K) T) T.g_number_of (hr.mono (by decide)) (da_cons (d_ix (kIxD rfl) (d_var (pv 1)) d_int (fun _ _ => rfl)) da_nil)) (da_cons (d_call (takes_of rfl rfl rfl rfl) (ok_number_of (K := K) T) T.g_number_of (hr.mono (by decide)) (da_cons (d_ix (kIxD rfl) (d_var (pv 1)) d_int (fun _ _ => rfl)) da_nil)) (da_cons (d_call (takes_of rfl rfl rfl rfl) (ok_told_of (K := K) T) T.g_told_of (hr.mono (by decide)) (da_cons (d_slice (kSlD rfl) (d_var (pv 1)) (do_some d_int) do_none) da_nil)) da_nil)))))))))))), .inl ?_⟩
    walk_at "d"
    refine w_split (by decide +kernel) (w_lstF ?_)
    rw [line_split hl]
    cases l with
    | back a b =>
      obtain ⟨ha, hb⟩ := id hl
      rw [show (lnT (.back a b)).map wordW = [("back" : Str), istr a, istr b] from by show [wordW (.str "back"), _, _] = _; rw [word_s, if_neg (by decide +kernel)]; rfl]
      walk_at "d"
      rw [show decide (("back" : Str) = "back") = true from decide_eq_true rfl]
      walk_at "d"
      refine use_ckT rfl ?_
      walk_at "d"
      refine ⟨istr a, rfl, fun n hn => ?_, fun hn => (by rw [numIn_int ha.1 ha.2] at hn; cases hn)⟩
      rw [numIn_int ha.1 ha.2] at hn
      injection hn with hn
      subst hn
      walk_at "d"
      refine ⟨istr b, rfl, fun n hn => ?_, fun hn => (by rw [numIn_int hb.1 hb.2] at hn; cases hn)⟩
      rw [numIn_int hb.1 hb.2] at hn
      injection hn with hn
      subst hn
      walk_at "d"
      exact k
    | inn a b t =>
      obtain ⟨ha, hb, hT⟩ := id hl
      rw [show (lnT (.inn a b t)).map wordW = ("in" : Str) :: istr a :: istr b :: t.map wordW from by show wordW (.str "in") :: _ = _; rw [word_s, if_neg (by decide +kernel)]; rfl]
      have htl := gt_len hT
      have e : ((("in" : Str) :: istr a :: istr b :: t.map wordW).map DV.str) = [.str "in", .str (istr a), .str (istr b)] ++ (t.map wordW).map DV.str := rfl
      have el : ((("in" : Str) :: istr a :: istr b :: t.map wordW).map DV.str).length = 3 + t.length := by rw [e]; simp; omega
      walk_at "d"
      refine w_ixL (d := .str "in") atI_zero ?_
      walk_at "d"
      rw [show decide (("in" : Str) = "back") = false from by decide +kernel]
      walk_at "d"
      refine w_ixL (d := .str "in") atI_zero ?_
      walk_at "d"
      rw [show decide (("in" : Str) = "in") = true from decide_eq_true rfl]
      walk_at "d"
      refine use_ckT (decide_eq_true (by rw [el]; omega)) ?_
      walk_at "d"
      refine w_ixL (d := .str (istr a)) (atI_nat (j := 1) rfl) ?_
      walk_at "d"
      refine ⟨istr a, rfl, fun n hn => ?_, fun hn => (by rw [numIn_int ha.1 ha.2] at hn; cases hn)⟩
      rw [numIn_int ha.1 ha.2] at hn
      injection hn with hn
      subst hn
      walk_at "d"
      refine w_ixL (d := .str (istr b)) (atI_nat (j := 2) rfl) ?_
      walk_at "d"
      refine ⟨istr b, rfl, fun n hn => ?_, fun hn => (by rw [numIn_int hb.1 hb.2] at hn; cases hn)⟩
      rw [numIn_int hb.1 hb.2] at hn
      injection hn with hn
      subst hn
      walk_at "d"
      refine w_slL rfl (w_lstF ?_)
      rw [show cutD _ (some 3) none = (t.map wordW).map DV.str from (cut_hi (j := 3) (by rw [el]; omega)).trans rfl]
      walk_at "d"
      refine ⟨t, rfl, hT, ?_⟩
      walk_at "d"
      exact k
    | right a b c t =>
      obtain ⟨ha, hb, hc, hT⟩ := id hl
      rw [show (lnT (.right a b c t)).map wordW = ("right" : Str) :: istr a :: istr b :: istr c :: t.map wordW from by show wordW (.str "right") :: _ = _; rw [word_s, if_neg (by decide +kernel)]; rfl]
      have htl := gt_len hT
      have e : ((("right" : Str) :: istr a :: istr b :: istr c :: t.map wordW).map DV.str) = [.str "right", .str (istr a), .str (istr b), .str (istr c)] ++ (t.map wordW).map DV.str := rfl
      have el : ((("right" : Str) :: istr a :: istr b :: istr c :: t.map wordW).map DV.str).length = 4 + t.length := by rw [e]; simp; omega
      walk_at "d"
      refine w_ixL (d := .str "right") atI_zero ?_
      walk_at "d"
      rw [show decide (("right" : Str) = "back") = false from by decide +kernel]
      walk_at "d"
      refine w_ixL (d := .str "right") atI_zero ?_
      walk_at "d"
      rw [show decide (("right" : Str) = "in") = false from by decide +kernel]
      walk_at "d"
      refine w_ixL (d := .str "right") atI_zero ?_
      walk_at "d"
      rw [show decide (("right" : Str) = "right") = true from decide_eq_true rfl]
      walk_at "d"
      refine use_ckT (decide_eq_true (by rw [el]; omega)) ?_
      walk_at "d"
      refine w_ixL (d := .str (istr a)) (atI_nat (j := 1) rfl) ?_
      walk_at "d"
      refine ⟨istr a, rfl, fun n hn => ?_, fun hn => (by rw [numIn_int ha.1 ha.2] at hn; cases hn)⟩
      rw [numIn_int ha.1 ha.2] at hn
      injection hn with hn
      subst hn
      walk_at "d"
      refine w_ixL (d := .str (istr b)) (atI_nat (j := 2) rfl) ?_
      walk_at "d"
      refine ⟨istr b, rfl, fun n hn => ?_, fun hn => (by rw [numIn_int hb.1 hb.2] at hn; cases hn)⟩
      rw [numIn_int hb.1 hb.2] at hn
      injection hn with hn
      subst hn
      walk_at "d"
      refine w_ixL (d := .str (istr c)) (atI_nat (j := 3) rfl) ?_
      walk_at "d"
      refine ⟨istr c, rfl, fun n hn => ?_, fun hn => (by rw [numIn_int hc.1 hc.2] at hn; cases hn)⟩
      rw [numIn_int hc.1 hc.2] at hn
      injection hn with hn
      subst hn
      walk_at "d"
      refine w_slL rfl (w_lstF ?_)
      rw [show cutD _ (some 4) none = (t.map wordW).map DV.str from (cut_hi (j := 4) (by rw [el]; omega)).trans rfl]
      walk_at "d"
      refine ⟨t, rfl, hT, ?_⟩
      walk_at "d"
      exact k

def unLine : DV → DV := fun d => d
theorem rdl_pv {i : Nat} {ls : List LN} {l : LN} (h : ls[i]? = some l) : (ls.take i).map lnV ++ [lnV l] = (ls.take (i + 1)).map lnV := by
  rw [List.take_add_one, h, List.map_append]
  rfl

theorem ok_read_lines (T : Tx P w K mg base) : DefOk P w K mg base 9 ("read_lines", none) ["text"] (spOf K (sp_read_lines K)) := by
  refine mkOkD T.f_read_lines sc_read_lines (fun ds st Q E h => ?_) (fun _ _ _ _ _ _ us hl => match us, hl with | [_], _ => rfl) (fun cdv A outer s H E hr ds st Q Ed h => ?_)
  · obtain ⟨ls, rfl, hl, hn, k⟩ := h
    rfl
  · obtain ⟨ls, rfl, hl, hn, k⟩ := h
    refine ⟨_, (dss_one (ds_ret (d_lc (own := [("row", 1)]) rfl sc_read_lines.nd (di_seq rfl (d_call (takes_of rfl rfl rfl rfl) (ok_rows_of (K := K) T) T.g_rows_of (hr.mono (by decide)) (da_cons (d_var (pv 0)) da_nil))) (blkOk_by (N := nm_read_lines) (sc := defScope s_read_lines) (by decide +kernel)) (by decide) (fun _ _ _ _ _ => (dg_name (pg_name (i := 1) sc_read_lines.nd rfl (Or.inl rfl)))) (fun _ _ _ _ _ => dts_nil) (fun _ _ _ _ _ => (d_call takes0 (ok_read_line (K := K) T) T.g_read_line (hr.mono (by decide)) (da_cons (d_var (pv 1)) da_nil)))))), .inl ?_⟩
    have hr := lines_rows hl
    walk_at "d"
    refine ⟨.str (linesS ls), rfl, rfl, fun t' rs e h => .inl ?_, fun h => (by rw [h _ rfl] at hr; cases hr)⟩
    injection e with e
    subst e
    rw [hr] at h
    injection h with h
    subst h
    refine ⟨_, rfl, ?_⟩
    refine ⟨by rw [List.length_map, List.length_map]; omega, fun i acc s => s = st ∧ acc = (ls.take i).map lnV, ⟨rfl, rfl⟩, fun _ _ _ _ _ => rfl, ?_, ?_⟩
    · rintro i x acc s hx ⟨rfl, rfl⟩
      rw [List.getElem?_map, List.getElem?_map] at hx
      cases h : ls[i]? with
      | none => rw [h] at hx; cases hx
      | some l =>
        rw [h] at hx
        have hx : some (DV.str (lineS l)) = some x := hx
        injection hx with hx
        subst hx
        walk_at "d"
        exact ⟨l, rfl, hl l (List.mem_of_getElem? h), rfl, rdl_pv h⟩
    · rintro acc s ⟨rfl, rfl⟩
      rw [List.length_map, List.length_map, List.take_length]
      rcases k with k | k
      · exact .inl ⟨_, _, .refl, k⟩
      · exact .inr fun n hn => ⟨_, _, .refl, k n hn⟩
end
end Kn

set_option Elab.async false
set_option linter.all false
set_option maxRecDepth 100000
set_option maxHeartbeats 40000000
set_option pp.maxSteps 400
namespace Kn
open PySem PySem.Spec PyProof.Rows L2
local macro_rules | `(tactic| walk_at "e1") => `(tactic| first
  | with_reducible refine w_seq ?_
  | with_reducible refine w_next ?_
  | with_reducible refine w_brk ?_
  | with_reducible refine w_cont ?_
  | with_reducible refine w_drop ?_
  | with_reducible refine w_ret ?_
  | with_reducible refine w_ifs ?_
  | with_reducible refine w_asg ?_
  | with_reducible refine w_nm ?_
  | with_reducible refine w_c ?_
  | with_reducible refine w_op ?_
  | with_reducible refine w_un ?_
  | with_reducible refine w_chain ?_
  | with_reducible refine w_test ?_
  | with_reducible refine w_and ?_
  | with_reducible refine w_or ?_
  | with_reducible refine w_not ?_
  | with_reducible refine w_yes ?_
  | with_reducible refine w_andV ?_
  | with_reducible refine w_orV ?_
  | with_reducible refine w_notV ?_
  | with_reducible refine w_ifE ?_
  | with_reducible refine w_nil ?_
  | with_reducible refine w_cons ?_
  | with_reducible refine w_tup ?_
  | with_reducible refine w_lst ?_
  | with_reducible refine w_cb ?_
  | with_reducible refine w_call ?_
  | with_reducible refine w_make ?_
  | with_reducible refine w_meth ?_
  | with_reducible refine w_fld ?_
  | with_reducible refine w_sfld ?_
  | with_reducible refine w_raise ?_
  | with_reducible refine w_try ?_
  | with_reducible refine w_gsq ?_
  | with_reducible refine w_gsb ?_
  | with_reducible refine w_isT ?_
  | with_reducible refine w_bm ?_
  | with_reducible refine w_bm0 ?_
  | with_reducible refine w_m0 ?_
  | with_reducible refine w_sl ?_
  | with_reducible refine w_part ?_
  | with_reducible refine w_nop ?_
  | with_reducible refine w_rev ?_
  | with_reducible refine w_isq ?_
  | with_reducible refine w_r1 ?_
  | with_reducible refine w_r2 ?_
  | with_reducible refine w_r3 ?_
  | with_reducible refine w_thru ?_
  | with_reducible refine w_en ?_
  | with_reducible refine w_kgT ?_
  | with_reducible refine w_ends ?_
  | with_reducible refine w_ist ?_
  | with_reducible refine w_for ?_
  | with_reducible refine w_lc ?_
  | with_reducible refine w_blP ?_
  | with_reducible refine w_intP ?_
  | with_reducible refine w_strP ?_
  | with_reducible refine w_strE ?_
  | with_reducible refine w_addI ?_
  | with_reducible refine w_ii ?_
  | with_reducible refine w_neg ?_
  | with_reducible refine w_eqI ?_
  | with_reducible refine w_eqS ?_
  | with_reducible refine w_neI ?_
  | with_reducible refine w_neS ?_
  | with_reducible refine w_is ?_
  | with_reducible refine w_isN ?_
  | with_reducible refine w_slS ?_
  | with_reducible refine w_lenS ?_
  | with_reducible refine w_lenT ?_
  | with_reducible refine w_lenL ?_
  | with_reducible refine w_lenC ?_
  | with_reducible refine w_int1b ?_
  | with_reducible refine w_int1i ?_
  | with_reducible refine w_strip ?_
  | with_reducible refine w_lock ?_
  | with_reducible refine w_dget ?_
  | with_reducible refine w_din ?_
  | with_reducible refine w_dget2 ?_
  | with_reducible refine w_dpn ?_
  | with_reducible refine w_dpc ?_
  | with_reducible refine w_disp ?_
  | with_reducible refine w_ivals ?_
  | with_reducible refine w_par ?_
  | with_reducible refine w_dgv ?_
  | with_reducible refine w_revS ?_
  | with_reducible refine w_max2 ?_
  | with_reducible refine w_min2 ?_
  | with_reducible refine w_var rfl ?_
  | with_reducible refine w_gcn ?_
  | with_reducible refine w_gnl ?_
  | with_reducible refine iteT ?_
  | with_reducible refine iteF ?_
  | with_reducible refine ite_not ?_
  | with_reducible refine w_ixT atI_zero ?_
  | with_reducible refine w_ixL atI_zero ?_
  | with_reducible refine w_kg ?_
  | ((with_reducible refine w_ixT (d := ?dd) ?hi ?_); case hi => rfl)
  | ((with_reducible refine w_ixL (d := ?dd) ?hi ?_); case hi => rfl)
  | ((with_reducible refine w_isi_str ?hk ?_); case hk => rfl)
  | ((with_reducible refine w_isi_int ?hk ?_); case hk => rfl)
  | ((with_reducible refine w_isi_bool ?hk ?_); case hk => rfl)
  | ((with_reducible refine w_isi_tuple ?hk ?_); case hk => rfl)
  | ((with_reducible refine w_isi_list ?hk ?_); case hk => rfl)
  | ((with_reducible refine w_fldI (v := ?dd) ?hf ?_); case hf => rfl)
  | ((with_reducible refine w_lenok ?hl ?_); case hl => exact Nat.le_of_ble_eq_true rfl)
  | ((with_reducible refine w_tym ?hl ?_); case hl => exact rfl))
local macro_rules | `(tactic| walk_at "e") => `(tactic| repeat walk_at "e1")
local macro_rules | `(tactic| walk_at "d1") => `(tactic| first
  | walk_at "e1"
  | with_reducible refine w_gv_non ?_
  | with_reducible refine w_gv_bl ?_
  | with_reducible refine w_gv_int ?_
  | with_reducible refine w_gv_str ?_
  | with_reducible refine w_gv_tup ?_
  | with_reducible refine w_gv_lst ?_
  | with_reducible refine w_gv_ins ?_)
local macro_rules | `(tactic| walk_at "d") => `(tactic| repeat walk_at "d1")

section
variable {w : World} {P : Program} {mg : Str → Option Value} {K : PySem.W.Frag} {base : Heap}
def sp_Lfar (_K : PySem.W.Frag) : Spd := fun ds st Q _ => ∃ w : Nat, ds = [.ref w] ∧ st w = some .well ∧ ∀ i, Nu i → Q (.int i) st
theorem use_lfar {w : Nat} {st : Sto} {Q : KD} {E : KX} (hw : st w = some .well) (k : ∀ i, Nu i → Q (.int i) st) : sp_Lfar K [.ref w] st Q E := ⟨w, rfl, hw, k⟩
def sp_Lline (_K : PySem.W.Frag) : Spd := fun ds st Q _ => ∃ w : Nat, ds = [.ref w] ∧ st w = some .well ∧ ∀ l, LNok l → Q (lnV l) st
def sp_Lline_text (_K : PySem.W.Frag) : Spd := fun ds st Q _ => ∃ l, ds = [lnV l] ∧ LNok l ∧ Q (.str (lineS l)) st
def sp_Llines (_K : PySem.W.Frag) : Spd := fun ds st Q _ => ∃ w : Nat, ds = [.ref w] ∧ st w = some .well ∧ ∀ ls : List LN, ls.length ≤ 40 → (∀ l ∈ ls, LNok l) → Q (.lst (ls.map lnV)) st
theorem use_ltold {w : Nat} {st : Sto} {Q : KD} {E : KX} (hw : st w = some .well) (k : ∀ t, GT t → Q (.tup t) st) : sp_Ltold K [.ref w] st Q E := ⟨w, rfl, hw, k⟩
theorem nu_of {i : Int} (h0 : 0 ≤ i) (h : i < 10000000000000000) : Nu i := ⟨h0, by rw [show (10 : Int) ^ 16 = 10000000000000000 from rfl]; exact h⟩

theorem ok_Lfar (T : Tx P w K mg base) : DefOk P w K mg base 2 ("_law_far", none) ["_law_well_here"] (spOf K (sp_Lfar K)) := by
  refine mkOkD T.f_Lfar sc_Lfar (fun ds st Q E h => ?_) (fun _ _ _ _ _ _ us hl => match us, hl with | [_], _ => rfl) (fun cdv A outer s H E hr ds st Q Ed h => ?_)
  · obtain ⟨w0, rfl, hw, k⟩ := h
    rfl
  · obtain ⟨w0, rfl, hw, k⟩ := h
    refine ⟨_, (dss_cons (ds_set (i := 1) sc_Lfar.nd rfl (Or.inl rfl) (d_lst (da_cons d_int (da_cons d_int (da_cons d_int (da_cons d_int (da_cons (d_call (takes_of rfl rfl rfl rfl) (ok_Ldraw (K := K) T) T.g__law_draw (hr.mono (by decide)) (da_cons (d_var (pv 0)) (da_cons d_int da_nil))) (da_cons (d_op kSubD (d_op kPowD d_int d_int) d_int) (da_cons (d_call (takes_of rfl rfl rfl rfl) (ok_Ldraw (K := K) T) T.g__law_draw (hr.mono (by decide)) (da_cons (d_var (pv 0)) (da_cons (d_op kPowD d_int d_int) da_nil))) da_nil)))))))))
      (dss_one (ds_ret (d_ix (kIxD rfl) (d_var (pv 1)) (d_call (takes_of rfl rfl rfl rfl) (ok_Ldraw (K := K) T) T.g__law_draw (hr.mono (by decide)) (da_cons (d_var (pv 0)) (da_cons d_int da_nil))) (fun _ _ => rfl))))), .inl ?_⟩
    walk_at "d"
    refine use_draw hw (by decide) (by decide) fun r0 a0 a1 => ?_
    walk_at "d"
    refine w_ic ⟨by decide, by decide, by decide⟩ ?_
    walk_at "d"
    refine w_ic ⟨by decide, by decide, by decide⟩ ?_
    walk_at "d"
    refine use_draw hw (by decide) (by decide) fun r1 b0 b1 => ?_
    have b1 : r1 < 10000000000000000 := b1
    walk_at "d"
    refine w_lstF ?_
    walk_at "d"
    refine use_draw hw (by decide) (by decide) fun r2 c0 c1 => ?_
    refine ix_anyL c0 c1 fun d hd => ?_
    have : ∃ i, d = .int i ∧ Nu i := by
      simp only [List.mem_cons, List.not_mem_nil, or_false] at hd
      rcases hd with rfl | rfl | rfl | rfl | rfl | rfl | rfl
      · exact ⟨_, rfl, nu_of (by decide) (by decide)⟩
      · exact ⟨_, rfl, nu_of (by decide) (by decide)⟩
      · exact ⟨_, rfl, nu_of (by decide) (by decide)⟩
      · exact ⟨_, rfl, nu_of (by decide) (by decide)⟩
      · exact ⟨_, rfl, nu_of a0 (by omega)⟩
      · exact ⟨_, rfl, nu_of (by decide) (by decide)⟩
      · exact ⟨_, rfl, nu_of b0 b1⟩
    obtain ⟨i, rfl, hi⟩ := this
    exact ⟨_, _, .refl, k i hi⟩

theorem ok_Lline (T : Tx P w K mg base) : DefOk P w K mg base 5 ("_law_line", none) ["_law_well_here"] (spOf K (sp_Lline K)) := by
  refine mkOkD T.f_Lline sc_Lline (fun ds st Q E h => ?_) (fun _ _ _ _ _ _ us hl => match us, hl with | [_], _ => rfl) (fun cdv A outer s H E hr ds st Q Ed h => ?_)
  · obtain ⟨w0, rfl, hw, k⟩ := h
    rfl
  · obtain ⟨w0, rfl, hw, k⟩ := h
    refine ⟨_, (dss_cons (ds_set (i := 1) sc_Lline.nd rfl (Or.inl rfl) (d_call (takes_of rfl rfl rfl rfl) (ok_Ldraw (K := K) T) T.g__law_draw (hr.mono (by decide)) (da_cons (d_var (pv 0)) (da_cons d_int da_nil))))
      (dss_cons (ds_if (dt_cmp (kEqD rfl hr) (d_var (pv 1)) d_int (nomark _)) (dss_one (ds_ret (d_tup (da_cons (d_str (by decide +kernel)) (da_cons (d_call (takes_of rfl rfl rfl rfl) (ok_Lfar (K := K) T) T.g__law_far (hr.mono (by decide)) (da_cons (d_var (pv 0)) da_nil)) (da_cons (d_call (takes_of rfl rfl rfl rfl) (ok_Lfar (K := K) T) T.g__law_far (hr.mono (by decide)) (da_cons (d_var (pv 0)) da_nil)) da_nil)))))) dss_nil)
      (dss_cons (ds_if (dt_cmp (kEqD rfl hr) (d_var (pv 1)) d_int (nomark _)) (dss_one (ds_ret (d_tup (da_cons (d_str (by decide +kernel)) (da_cons (d_call (takes_of rfl rfl rfl rfl) (ok_Lfar (K := K) T) T.g__law_far (hr.mono (by decide)) (da_cons (d_var (pv 0)) da_nil)) (da_cons (d_call (takes_of rfl rfl rfl rfl) (ok_Lfar (K := K) T) T.g__law_far (hr.mono (by decide)) (da_cons (d_var (pv 0)) da_nil)) (da_cons (d_call (takes_of rfl rfl rfl rfl) (ok_Lfar (K := K) T) T.g__law_far (hr.mono (by decide)) (da_cons (d_var (pv 0)) da_nil)) (da_cons (d_call (takes_of rfl rfl rfl rfl) (ok_Ltold (K := K) T) T.g__law_told (hr.mono (by decide)) (da_cons (d_var (pv 0)) da_nil)) da_nil)))))))) dss_nil)
      (dss_one (ds_ret (d_tup (da_cons (d_str (by decide +kernel)) (da_cons (d_call (takes_of rfl rfl rfl rfl) (ok_Lfar (K := K) T) T.g__law_far (hr.mono (by decide)) (da_cons (d_var (pv 0)) da_nil)) (da_cons (d_call (takes_of rfl rfl rfl rfl) (ok_Lfar (K := K) T) T.g__law_far (hr.mono (by decide)) (da_cons (d_var (pv 0)) da_nil)) (da_cons (d_call (takes_of rfl rfl rfl rfl) (ok_Ltold (K := K) T) T.g__law_told (hr.mono (by decide)) (da_cons (d_var (pv 0)) da_nil)) da_nil)))))))))), .inl ?_⟩
    walk_at "d"
    refine use_draw hw (by decide) (by decide) fun r0 a0 a1 => ?_
    walk_at "d"
    cases decide (r0 = 0) with
    | true =>
      walk_at "d"
      refine use_lfar hw fun a ha => ?_
      walk_at "d"
      refine use_lfar hw fun b hb => ?_
      walk_at "d"
      exact k (.back a b) ⟨ha, hb⟩
    | false =>
      walk_at "d"
      cases decide (r0 = 1) with
      | true =>
        walk_at "d"
        refine use_lfar hw fun a ha => ?_
        walk_at "d"
        refine use_lfar hw fun b hb => ?_
        walk_at "d"
        refine use_lfar hw fun c hc => ?_
        walk_at "d"
        refine use_ltold hw fun t ht => ?_
        walk_at "d"
        exact k (.right a b c t) ⟨ha, hb, hc, ht⟩
      | false =>
        walk_at "d"
        refine use_lfar hw fun a ha => ?_
        walk_at "d"
        refine use_lfar hw fun b hb => ?_
        walk_at "d"
        refine use_ltold hw fun t ht => ?_
        walk_at "d"
        exact k (.inn a b t) ⟨ha, hb, ht⟩

theorem gt_ti {t : List DV} (h : GT t) : ∀ e ∈ t, TI e := fun e he => by
  rcases gt_item h he with ⟨i, rfl, hi⟩ | ⟨s, rfl, hs⟩
  · refine .inr ⟨i, rfl, ?_⟩
    have h1 := hi.1
    have h2 := hi.2
    have : i < 10000000000000000 := h2
    omega
  · refine .inl ⟨s, rfl, ?_, ?_⟩
    · rcases hs with rfl | hs
      · exact fun c hc => (by rw [show cl ("" : Str) = [] from by decide +kernel] at hc; cases hc)
      · exact hs.lt
    · rcases hs with rfl | hs
      · decide +kernel
      · have := hs.len; omega
theorem nu_log {i : Int} (h : Nu i) : i.natAbs.log2 < 1920 := small_log (by
  have h1 := h.1
  have h2 : i < 10000000000000000 := h.2
  omega)
/-- the words of what is told: a note without signs as a sign -/
theorem told_words {t : List DV} (h : GT t) : ∀ {st : Sto} {Q : KD}, (∀ y ∈ t, ∀ QQ : KD, QQ (.str (wordW y)) st → QQ (.str (wordW y)) st) → True := fun _ => trivial

theorem ok_Lline_text (T : Tx P w K mg base) : DefOk P w K mg base 1 ("_law_line_text", none) ["_law_line_here"] (spOf K (sp_Lline_text K)) := by
  refine mkOkD T.f_Lline_text sc_Lline_text (fun ds st Q E h => ?_) (fun _ _ _ _ _ _ us hl => match us, hl with | [_], _ => rfl) (fun cdv A outer s H E hr ds st Q Ed h => ?_)
  · obtain ⟨l, rfl, hl, k⟩ := h
    rfl
  · obtain ⟨l, rfl, hl, k⟩ := h
    refine ⟨_, (dss_cons (ds_setLc (i := 1) (own := [("_law_one", 2)]) rfl sc_Lline_text.nd rfl rfl (sw_true rfl rfl rfl (by decide +kernel)) (di_seq rfl (d_var (pv 0))) (blkOk_by (N := nm_Lline_text) (sc := defScope s_Lline_text) (by decide +kernel)) (by decide) (fun _ _ _ _ _ => (dg_name (pg_name (i := 2) sc_Lline_text.nd rfl (Or.inl rfl)))) (fun _ _ _ _ _ => dts_nil) (fun _ _ _ _ _ => (d_callTy (kStrXD rfl hr) rfl T.n_str (by decide +kernel) (da_cons (d_var (pv 2)) da_nil))))
      (dss_cons (ds_if (dt_cmp (kNeD rfl hr) (d_ix (kIxD rfl) (d_var (pv 0)) d_int (fun _ _ => rfl)) (d_str (by decide +kernel)) (nomark _)) (dss_one (ds_set (i := 1) sc_Lline_text.nd rfl (Or.inl rfl) (d_op (kAddD rfl) (d_slice (kSlD rfl) (d_var (pv 1)) do_none (do_some (d_un kNegD d_int))) (d_lc (own := [("_law_one", 2)]) rfl sc_Lline_text.nd (di_seq rfl (d_ix (kIxD rfl) (d_var (pv 0)) (d_un kNegD d_int) (fun _ _ => rfl))) (blkOk_by (N := nm_Lline_text) (sc := defScope s_Lline_text) (by decide +kernel)) (by decide) (fun _ _ _ _ _ => (dg_name (pg_name (i := 2) sc_Lline_text.nd rfl (Or.inl rfl)))) (fun _ _ _ _ _ => dts_nil) (fun _ _ _ _ _ => (d_ix (kIxD rfl) (d_lst (da_cons (d_callTy (kStrXD rfl hr) rfl T.n_str (by decide +kernel) (da_cons (d_var (pv 2)) da_nil)) (da_cons (d_str (by decide +kernel)) da_nil))) (d_callTy kInt1D rfl T.n_int (by decide +kernel) (da_cons (d_cmp (kEqD rfl hr) (d_var (pv 2)) (d_str (by decide +kernel)) (nomark _)) da_nil)) (fun _ _ => rfl))))))) dss_nil)
      (dss_one (ds_ret (d_bm rfl PySem.F.plainAttrs_str PySem.F.slot_str_join PySem.F.type_str_join (kJoinD rfl) (d_str (by decide +kernel)) (da_cons (d_var (pv 1)) da_nil)))))), .inl ?_⟩
    have jn : ∀ {ls : List Str}, ls = (lnT l).map wordW → (ls.map (·.length)).sum + ls.length * (" " : Str).length ≤ 100000 := fun {ls} e => by
      have := sum_le (m := 20) (ss := ls) fun s hs => by
        rw [e] at hs
        obtain ⟨d, hd, rfl⟩ := List.mem_map.mp hs
        exact word_len (ln_wok hl d hd)
      have h2 := (ln_len hl).2
      have h3 : ls.length ≤ 9 := by rw [e, List.length_map]; exact h2
      rw [show (" " : Str).length = 1 from by decide +kernel]
      omega
    cases l with
    | back a b =>
      obtain ⟨ha, hb⟩ := id hl
      have e : [("back" : Str), istr a, istr b] = (lnT (.back a b)).map wordW := by show _ = [wordW (.str "back"), _, _]; rw [word_s, if_neg (by decide +kernel)]; rfl
      unfold lnV
      walk_at "d"
      refine ⟨_, rfl, ?_⟩
      refine w_lcmap (fun d => .str (strW d)) rfl (fun y hy QQ hq => ?_) (Nat.le_of_ble_eq_true rfl) (w_lstF ?_)
      · simp only [List.mem_cons, List.not_mem_nil, or_false] at hy
        rcases hy with rfl | rfl | rfl
        · walk_at "d"
          exact w_strXS hq
        · walk_at "d"
          exact w_strXI (nu_log ha) hq
        · walk_at "d"
          exact w_strXI (nu_log hb) hq
      walk_at "d"
      rw [show decide (("back" : Str) = "back") = true from decide_eq_true rfl]
      walk_at "d"
      refine w_join (ss := [("back" : Str), istr a, istr b]) rfl (jn e) ⟨_, _, .refl, ?_⟩
      rw [e]
      exact k
    | inn a b t =>
      obtain ⟨ha, hb, hT⟩ := id hl
      have e : [("in" : Str), istr a, istr b] ++ t.map wordW = (lnT (.inn a b t)).map wordW := by show _ = wordW (.str "in") :: _; rw [word_s, if_neg (by decide +kernel)]; rfl
      unfold lnV
      walk_at "d"
      refine ⟨_, rfl, ?_⟩
      refine ⟨Nat.le_of_ble_eq_true rfl, fun i acc s => s = st ∧ ∃ m, SOk m ∧ acc = [DV.str "in", .str (istr a), .str (istr b), DV.str m].take i, ⟨rfl, "", by decide +kernel, rfl⟩, fun _ _ _ _ _ => rfl, ?_, ?_⟩
      · rintro i x acc s hx ⟨rfl, m, hm, rfl⟩
        match i, hx with
        | 0, hx =>
          obtain rfl : _ = x := Option.some.inj hx
          walk_at "d"
          exact w_strXS ⟨rfl, m, hm, rfl⟩
        | 1, hx =>
          obtain rfl : _ = x := Option.some.inj hx
          walk_at "d"
          exact w_strXI (nu_log ha) ⟨rfl, m, hm, rfl⟩
        | 2, hx =>
          obtain rfl : _ = x := Option.some.inj hx
          walk_at "d"
          exact w_strXI (nu_log hb) ⟨rfl, m, hm, rfl⟩
        | 3, hx =>
          obtain rfl : _ = x := Option.some.inj hx
          walk_at "d"
          exact w_strXT (gt_ti hT) (by have := gt_len hT; omega) fun m2 hm2 => ⟨rfl, m2, hm2, rfl⟩
        | j + 4, hx => cases hx
      rintro acc s ⟨rfl, m, hm, rfl⟩
      refine w_lstF ?_
      walk_at "d"
      rw [show decide (("in" : Str) = "back") = false from by decide +kernel]
      walk_at "d"
      refine w_slL rfl (w_lstF ?_)
      rw [show cutD (List.take [DV.str "in", .int a, .int b, .tup t].length [DV.str "in", .str (istr a), .str (istr b), .str m]) none (some (-1)) = [DV.str "in", .str (istr a), .str (istr b)] from rfl]
      walk_at "d"
      refine ⟨_, rfl, ?_⟩
      refine w_lcmap (fun d => .str (wordW d)) rfl (fun y hy QQ hq => ?_) (by have := gt_len hT; omega) (w_lstF ?_)
      · rcases gt_item hT hy with ⟨i, rfl, hi⟩ | ⟨s, rfl, hs⟩
        · walk_at "d"
          refine w_strXI (nu_log hi) ?_
          walk_at "d"
          refine w_lstF ?_
          walk_at "d"
          refine w_eqV rfl rfl rfl rfl ?_
          rw [show deq (.int i) (.str "") = false from rfl]
          walk_at "d"
          exact hq
        · walk_at "d"
          refine w_strXS ?_
          walk_at "d"
          refine w_lstF ?_
          walk_at "d"
          rw [word_s] at hq
          by_cases he : s = ""
          · rw [if_pos he] at hq
            rw [decide_eq_true he]
            walk_at "d"
            exact hq
          · rw [if_neg he] at hq
            rw [decide_eq_false he]
            walk_at "d"
            exact hq
      refine w_addL rfl rfl (by rw [List.length_map]; have := gt_len hT; show _ + _ ≤ _; simp only [List.length_cons, List.length_nil]; omega) (w_lstF ?_)
      walk_at "d"
      refine w_join (ss := [("in" : Str), istr a, istr b] ++ t.map wordW) (by rw [List.map_append, List.map_map]; rfl) (jn e) ⟨_, _, .refl, ?_⟩
      rw [e]
      exact k
    | right a b c t =>
      obtain ⟨ha, hb, hc, hT⟩ := id hl
      have e : [("right" : Str), istr a, istr b, istr c] ++ t.map wordW = (lnT (.right a b c t)).map wordW := by show _ = wordW (.str "right") :: _; rw [word_s, if_neg (by decide +kernel)]; rfl
      unfold lnV
      walk_at "d"
      refine ⟨_, rfl, ?_⟩
      refine ⟨Nat.le_of_ble_eq_true rfl, fun i acc s => s = st ∧ ∃ m, SOk m ∧ acc = [DV.str "right", .str (istr a), .str (istr b), .str (istr c), DV.str m].take i, ⟨rfl, "", by decide +kernel, rfl⟩, fun _ _ _ _ _ => rfl, ?_, ?_⟩
      · rintro i x acc s hx ⟨rfl, m, hm, rfl⟩
        match i, hx with
        | 0, hx =>
          obtain rfl : _ = x := Option.some.inj hx
          walk_at "d"
          exact w_strXS ⟨rfl, m, hm, rfl⟩
        | 1, hx =>
          obtain rfl : _ = x := Option.some.inj hx
          walk_at "d"
          exact w_strXI (nu_log ha) ⟨rfl, m, hm, rfl⟩
        | 2, hx =>
          obtain rfl : _ = x := Option.some.inj hx
          walk_at "d"
          exact w_strXI (nu_log hb) ⟨rfl, m, hm, rfl⟩
        | 3, hx =>
          obtain rfl : _ = x := Option.some.inj hx
          walk_at "d"
          exact w_strXI (nu_log hc) ⟨rfl, m, hm, rfl⟩
        | 4, hx =>
          obtain rfl : _ = x := Option.some.inj hx
          walk_at "d"
          exact w_strXT (gt_ti hT) (by have := gt_len hT; omega) fun m2 hm2 => ⟨rfl, m2, hm2, rfl⟩
        | j + 5, hx => cases hx
      rintro acc s ⟨rfl, m, hm, rfl⟩
      refine w_lstF ?_
      walk_at "d"
      rw [show decide (("right" : Str) = "back") = false from by decide +kernel]
      walk_at "d"
      refine w_slL rfl (w_lstF ?_)
      rw [show cutD (List.take [DV.str "right", .int a, .int b, .int c, .tup t].length [DV.str "right", .str (istr a), .str (istr b), .str (istr c), .str m]) none (some (-1)) = [DV.str "right", .str (istr a), .str (istr b), .str (istr c)] from rfl]
      walk_at "d"
      refine ⟨_, rfl, ?_⟩
      refine w_lcmap (fun d => .str (wordW d)) rfl (fun y hy QQ hq => ?_) (by have := gt_len hT; omega) (w_lstF ?_)
      · rcases gt_item hT hy with ⟨i, rfl, hi⟩ | ⟨s, rfl, hs⟩
        · walk_at "d"
          refine w_strXI (nu_log hi) ?_
          walk_at "d"
          refine w_lstF ?_
          walk_at "d"
          refine w_eqV rfl rfl rfl rfl ?_
          rw [show deq (.int i) (.str "") = false from rfl]
          walk_at "d"
          exact hq
        · walk_at "d"
          refine w_strXS ?_
          walk_at "d"
          refine w_lstF ?_
          walk_at "d"
          rw [word_s] at hq
          by_cases he : s = ""
          · rw [if_pos he] at hq
            rw [decide_eq_true he]
            walk_at "d"
            exact hq
          · rw [if_neg he] at hq
            rw [decide_eq_false he]
            walk_at "d"
            exact hq
      refine w_addL rfl rfl (by rw [List.length_map]; have := gt_len hT; show _ + _ ≤ _; simp only [List.length_cons, List.length_nil]; omega) (w_lstF ?_)
      walk_at "d"
      refine w_join (ss := [("right" : Str), istr a, istr b, istr c] ++ t.map wordW) (by rw [List.map_append, List.map_map]; rfl) (jn e) ⟨_, _, .refl, ?_⟩
      rw [e]
      exact k

theorem ok_Llines (T : Tx P w K mg base) : DefOk P w K mg base 6 ("_law_lines", none) ["_law_well_here"] (spOf K (sp_Llines K)) := by
  refine mkOkD T.f_Llines sc_Llines (fun ds st Q E h => ?_) (fun _ _ _ _ _ _ us hl => match us, hl with | [_], _ => rfl) (fun cdv A outer s H E hr ds st Q Ed h => ?_)
  · obtain ⟨w0, rfl, hw, k⟩ := h
    rfl
  · obtain ⟨w0, rfl, hw, k⟩ := h
    refine ⟨_, (dss_cons (ds_set (i := 1) sc_Llines.nd rfl (Or.inl rfl) (d_ix (kIxD rfl) (d_lst (da_cons (d_call (takes_of rfl rfl rfl rfl) (ok_Ldraw (K := K) T) T.g__law_draw (hr.mono (by decide)) (da_cons (d_var (pv 0)) (da_cons d_int da_nil))) (da_cons d_int (da_cons d_int (da_cons d_int da_nil))))) (d_ix (kIxD rfl) (d_lst (da_cons d_int (da_cons d_int (da_cons d_int (da_cons d_int (da_cons d_int (da_cons d_int (da_cons d_int da_nil)))))))) (d_call (takes_of rfl rfl rfl rfl) (ok_Ldraw (K := K) T) T.g__law_draw (hr.mono (by decide)) (da_cons (d_var (pv 0)) (da_cons d_int da_nil))) (fun _ _ => rfl)) (fun _ _ => rfl)))
      (dss_one (ds_ret (d_lc (own := [("_law_k", 2)]) rfl sc_Llines.nd (di_rng1 rfl T.n_range (da_cons (d_var (pv 1)) da_nil)) (blkOk_by (N := nm_Llines) (sc := defScope s_Llines) (by decide +kernel)) (by decide) (fun _ _ _ _ _ => (dg_name (pg_name (i := 2) sc_Llines.nd rfl (Or.inl rfl)))) (fun _ _ _ _ _ => dts_nil) (fun _ _ _ _ _ => (d_call takes0 (ok_Lline (K := K) T) T.g__law_line (hr.mono (by decide)) (da_cons (d_var (pv 0)) da_nil))))))), .inl ?_⟩
    walk_at "d"
    refine use_draw hw (by decide) (by decide) fun r0 a0 a1 => ?_
    walk_at "d"
    refine w_lstF ?_
    walk_at "d"
    refine w_lstF ?_
    walk_at "d"
    refine use_draw hw (by decide) (by decide) fun r1 b0 b1 => ?_
    refine ix_anyL b0 b1 fun d hd => ?_
    have h1 : ∃ j : Int, d = .int j ∧ 0 ≤ j ∧ j < 4 := by
      simp only [List.mem_cons, List.not_mem_nil, or_false] at hd
      rcases hd with rfl | rfl | rfl | rfl | rfl | rfl | rfl <;> exact ⟨_, rfl, by decide, by decide⟩
    obtain ⟨j, rfl, j0, j1⟩ := h1
    refine ix_anyL j0 j1 fun d hd => ?_
    have h2 : ∃ m : Nat, d = .int (m : Int) ∧ m ≤ 40 := by
      simp only [List.mem_cons, List.not_mem_nil, or_false] at hd
      rcases hd with rfl | rfl | rfl | rfl
      · exact ⟨r0.toNat, by rw [Int.toNat_of_nonneg a0], by omega⟩
      · exact ⟨40, rfl, by decide⟩
      · exact ⟨0, rfl, by decide⟩
      · exact ⟨1, rfl, by decide⟩
    obtain ⟨m, rfl, hm⟩ := h2
    walk_at "d"
    refine ⟨_, rfl, ⟨by omega, by omega⟩, ?_⟩
    rw [Int.toNat_natCast]
    refine ⟨by rw [rgD_len]; omega, fun i acc s => s = st ∧ ∃ ls : List LN, acc = ls.map lnV ∧ ls.length = i ∧ ∀ l ∈ ls, LNok l, ⟨rfl, [], rfl, rfl, fun _ z => nomatch z⟩, fun _ _ _ _ _ => trivial, ?_, ?_⟩
    · rintro i x acc s hx ⟨rfl, ls, rfl, hl, hk⟩
      obtain ⟨_, rfl⟩ := rgD_get hx
      walk_at "d"
      refine ⟨w0, rfl, hw, fun l hl1 => ⟨rfl, ls ++ [l], by rw [List.map_append]; rfl, by rw [List.length_append]; simp [hl], fun z hz => ?_⟩⟩
      rcases List.mem_append.mp hz with hz | hz
      · exact hk z hz
      · rw [List.mem_singleton.mp hz]; exact hl1
    · rintro acc s ⟨rfl, ls, rfl, hl, hk⟩
      rw [rgD_len] at hl
      exact .inl ⟨_, _, .refl, k ls (by omega) hk⟩
end
end Kn

set_option Elab.async false
set_option linter.all false
set_option maxRecDepth 100000
set_option maxHeartbeats 40000000
set_option pp.maxSteps 400
namespace Kn
open PySem PySem.Spec PyProof.Rows L2
local macro_rules | `(tactic| walk_at "e1") => `(tactic| first
  | with_reducible refine w_seq ?_
  | with_reducible refine w_next ?_
  | with_reducible refine w_brk ?_
  | with_reducible refine w_cont ?_
  | with_reducible refine w_drop ?_
  | with_reducible refine w_ret ?_
  | with_reducible refine w_ifs ?_
  | with_reducible refine w_asg ?_
  | with_reducible refine w_nm ?_
  | with_reducible refine w_c ?_
  | with_reducible refine w_op ?_
  | with_reducible refine w_un ?_
  | with_reducible refine w_chain ?_
  | with_reducible refine w_test ?_
  | with_reducible refine w_and ?_
  | with_reducible refine w_or ?_
  | with_reducible refine w_not ?_
  | with_reducible refine w_yes ?_
  | with_reducible refine w_andV ?_
  | with_reducible refine w_orV ?_
  | with_reducible refine w_notV ?_
  | with_reducible refine w_ifE ?_
  | with_reducible refine w_nil ?_
  | with_reducible refine w_cons ?_
  | with_reducible refine w_tup ?_
  | with_reducible refine w_lst ?_
  | with_reducible refine w_cb ?_
  | with_reducible refine w_call ?_
  | with_reducible refine w_make ?_
  | with_reducible refine w_meth ?_
  | with_reducible refine w_fld ?_
  | with_reducible refine w_sfld ?_
  | with_reducible refine w_raise ?_
  | with_reducible refine w_try ?_
  | with_reducible refine w_gsq ?_
  | with_reducible refine w_gsb ?_
  | with_reducible refine w_isT ?_
  | with_reducible refine w_bm ?_
  | with_reducible refine w_bm0 ?_
  | with_reducible refine w_m0 ?_
  | with_reducible refine w_sl ?_
  | with_reducible refine w_part ?_
  | with_reducible refine w_nop ?_
  | with_reducible refine w_rev ?_
  | with_reducible refine w_isq ?_
  | with_reducible refine w_r1 ?_
  | with_reducible refine w_r2 ?_
  | with_reducible refine w_r3 ?_
  | with_reducible refine w_thru ?_
  | with_reducible refine w_en ?_
  | with_reducible refine w_kgT ?_
  | with_reducible refine w_ends ?_
  | with_reducible refine w_ist ?_
  | with_reducible refine w_for ?_
  | with_reducible refine w_lc ?_
  | with_reducible refine w_blP ?_
  | with_reducible refine w_intP ?_
  | with_reducible refine w_strP ?_
  | with_reducible refine w_strE ?_
  | with_reducible refine w_addI ?_
  | with_reducible refine w_ii ?_
  | with_reducible refine w_neg ?_
  | with_reducible refine w_eqI ?_
  | with_reducible refine w_eqS ?_
  | with_reducible refine w_neI ?_
  | with_reducible refine w_neS ?_
  | with_reducible refine w_is ?_
  | with_reducible refine w_isN ?_
  | with_reducible refine w_slS ?_
  | with_reducible refine w_lenS ?_
  | with_reducible refine w_lenT ?_
  | with_reducible refine w_lenL ?_
  | with_reducible refine w_lenC ?_
  | with_reducible refine w_int1b ?_
  | with_reducible refine w_int1i ?_
  | with_reducible refine w_strip ?_
  | with_reducible refine w_lock ?_
  | with_reducible refine w_dget ?_
  | with_reducible refine w_din ?_
  | with_reducible refine w_dget2 ?_
  | with_reducible refine w_dpn ?_
  | with_reducible refine w_dpc ?_
  | with_reducible refine w_disp ?_
  | with_reducible refine w_ivals ?_
  | with_reducible refine w_par ?_
  | with_reducible refine w_dgv ?_
  | with_reducible refine w_revS ?_
  | with_reducible refine w_max2 ?_
  | with_reducible refine w_min2 ?_
  | with_reducible refine w_var rfl ?_
  | with_reducible refine w_gcn ?_
  | with_reducible refine w_gnl ?_
  | with_reducible refine iteT ?_
  | with_reducible refine iteF ?_
  | with_reducible refine ite_not ?_
  | with_reducible refine w_ixT atI_zero ?_
  | with_reducible refine w_ixL atI_zero ?_
  | with_reducible refine w_kg ?_
  | ((with_reducible refine w_ixT (d := ?dd) ?hi ?_); case hi => rfl)
  | ((with_reducible refine w_ixL (d := ?dd) ?hi ?_); case hi => rfl)
  | ((with_reducible refine w_isi_str ?hk ?_); case hk => rfl)
  | ((with_reducible refine w_isi_int ?hk ?_); case hk => rfl)
  | ((with_reducible refine w_isi_bool ?hk ?_); case hk => rfl)
  | ((with_reducible refine w_isi_tuple ?hk ?_); case hk => rfl)
  | ((with_reducible refine w_isi_list ?hk ?_); case hk => rfl)
  | ((with_reducible refine w_fldI (v := ?dd) ?hf ?_); case hf => rfl)
  | ((with_reducible refine w_lenok ?hl ?_); case hl => exact Nat.le_of_ble_eq_true rfl)
  | ((with_reducible refine w_tym ?hl ?_); case hl => exact rfl))
local macro_rules | `(tactic| walk_at "e") => `(tactic| repeat walk_at "e1")
local macro_rules | `(tactic| walk_at "d1") => `(tactic| first
  | walk_at "e1"
  | with_reducible refine w_gv_non ?_
  | with_reducible refine w_gv_bl ?_
  | with_reducible refine w_gv_int ?_
  | with_reducible refine w_gv_str ?_
  | with_reducible refine w_gv_tup ?_
  | with_reducible refine w_gv_lst ?_
  | with_reducible refine w_gv_ins ?_)
local macro_rules | `(tactic| walk_at "d") => `(tactic| repeat walk_at "d1")

section
variable {w : World} {P : Program} {mg : Str → Option Value} {K : PySem.W.Frag} {base : Heap}
def sp_lawD (_K : PySem.W.Frag) : Spd := fun ds st Q _ => ∃ ns : List Int, ds = [.scr (ns.map DV.int)] ∧ ns.length ≤ 63 ∧ ∀ s, Q (.bl true) s

theorem Ext.set {st s : Sto} {n : Nat} {o : OV} (h : Ext st s) (hn : st n = none) : Ext st (sset s n o) := fun m u e => by
  rw [sset_ne (sne_of e hn)]
  exact h m u e
theorem ln_ok {n : Nat} (ls : List LN) (h : ∀ l ∈ ls, LNok l) : okD (n + 5) (.lst (ls.map lnV)) = true := List.all_eq_true.mpr fun y hy => by
  obtain ⟨l, hl, rfl⟩ := List.mem_map.mp hy
  have tk : ∀ {t : List DV}, GT t → okD (n + 3) (.tup t) = true := fun {t} ht => List.all_eq_true.mpr fun d hd => by
    rcases gt_item ht hd with ⟨i, rfl, _⟩ | ⟨s, rfl, _⟩ <;> rfl
  cases l with
  | back a b => rfl
  | inn a b t =>
    show (true && (true && (true && (okD (n + 3) (.tup t) && true)))) = true
    rw [tk (h _ hl).2.2]; rfl
  | right a b c t =>
    show (true && (true && (true && (true && (okD (n + 3) (.tup t) && true))))) = true
    rw [tk (h _ hl).2.2.2]; rfl
structure Kq (d : DV) : Prop where
  ex : ∃ ls, d = .tup [.str (linesS ls), .lst (ls.map lnV)] ∧ (∀ l ∈ ls, LNok l) ∧ ls.length ≤ 45
theorem lstK : PySem.W.kitOne K (.type "list") (.type "list") = some true := kit_ty ((kkD "list" (by simp)).2.2.2.2.1)
theorem ty_ref {st : Sto} {n : Nat} {ds : List DV} (e : st n = some (.lst ds)) : tyD st (.ref n) = some (.type "list") := by
  unfold tyD
  simp only [e]
theorem isi_bl {st : Sto} {x : DV} (hk : knD x = true) : ∃ t, tyD st x = some t ∧ PySem.W.kitAny K t [.type "bool", .type "list"] = some (bKB x || lKB x) := by
  obtain ⟨t, b, h1, h2, h3⟩ := w_isi_bl (K := K) (st := st) (Q := fun d _ => d = .bl (bKB x || lKB x)) hk rfl
  injection h3 with h3
  exact ⟨t, h1, by rw [h2, h3]⟩
theorem nl0 : linesS [] = "" := by decide +kernel

theorem ok_lawD (T : Tx P w K mg base) : DefOk P w K mg base 10 ("law", none) ["_law_script"] (spOf K (sp_lawD K)) := by
  refine mkOkD T.f_law sc_law (fun ds st Q E h => ?_) (fun _ _ _ _ _ _ us hl => match us, hl with | [_], _ => rfl) (fun cdv A outer s H E hr ds st Q Ed h => ?_)
  · obtain ⟨ns, rfl, hl, k⟩ := h
    rfl
  · obtain ⟨ns, rfl, hl, k⟩ := h
    refine ⟨_, (dss_cons (ds_if (dw_1 (dw_or (dt_cmp (kNeD rfl hr) (d_call (takes_of rfl rfl rfl rfl) (ok_lines_text (K := K) T) T.g_lines_text (hr.mono (by decide)) (da_cons (d_lst da_nil) da_nil)) (d_str (by decide +kernel)) (nomark _)) (dw_or1 (dt_cmp (kNeD rfl hr) (d_call (takes_of rfl rfl rfl rfl) (ok_read_lines (K := K) T) T.g_read_lines (hr.mono (by decide)) (da_cons (d_str (by decide +kernel)) da_nil)) (d_lst da_nil) (nomark _))))) (dss_one (ds_ret d_bl)) dss_nil)
      (dss_cons (ds_set (i := 1) sc_law.nd rfl (Or.inl rfl) (d_lst da_nil))
      (dss_cons (ds_for (passes_of rfl) rfl (di_seq rfl (d_op (kAddD rfl) (d_slice (kSlD rfl) (d_var (pv 0)) do_none (do_some d_int)) (d_lst (da_cons d_int (da_cons d_int da_nil))))) (dg_name (pg_name (i := 2) sc_law.nd rfl (Or.inl rfl))) (dss_cons (ds_set (i := 3) sc_law.nd rfl (Or.inl rfl) (d_call (takes_of rfl rfl rfl rfl) (ok_Llines (K := K) T) T.g__law_lines (hr.mono (by decide)) (da_cons (d_call (takes_of rfl rfl rfl rfl) (ok_Lwell (K := K) T) T.g__law_well (hr.mono (by decide)) (da_cons (d_var (pv 2)) da_nil)) da_nil)))
      (dss_cons (ds_set (i := 4) sc_law.nd rfl (Or.inl rfl) (d_bm rfl PySem.F.plainAttrs_str PySem.F.slot_str_join PySem.F.type_str_join (kJoinD rfl) (d_str (by decide +kernel)) (da_cons (d_lc (own := [("_law_line_here", 8)]) rfl sc_law.nd (di_seq rfl (d_var (pv 3))) (blkOk_by (N := nm_law) (sc := defScope s_law) (by decide +kernel)) (by decide) (fun _ _ _ _ _ => (dg_name (pg_name (i := 8) sc_law.nd rfl (Or.inl rfl)))) (fun _ _ _ _ _ => dts_nil) (fun _ _ _ _ _ => (d_op (kAddD rfl) (d_call takes0 (ok_Lline_text (K := K) T) T.g__law_line_text (hr.mono (by decide)) (da_cons (d_var (pv 8)) da_nil)) (d_str (by decide +kernel))))) da_nil)))
      (dss_cons (ds_set (i := 5) sc_law.nd rfl (Or.inl rfl) (d_callTy (kListD rfl) rfl T.n_list (by decide +kernel) (da_cons (d_var (pv 3)) da_nil)))
      (dss_cons (ds_if (dw_1 (dw_or (dt_cmp (kNeD rfl hr) (d_call (takes_of rfl rfl rfl rfl) (ok_lines_text (K := K) T) T.g_lines_text (hr.mono (by decide)) (da_cons (d_var (pv 5)) da_nil)) (d_var (pv 4)) (nomark _)) (dw_or1 (dt_cmp (kNeD rfl hr) (d_var (pv 5)) (d_var (pv 3)) (nomark _))))) (dss_one (ds_ret d_bl)) dss_nil)
      (dss_cons (ds_expr (d_bm0 rfl PySem.F.plainAttrs_list PySem.F.slot_list_clear PySem.F.type_list_clear kClrD (d_var (pv 5))))
      (dss_cons (ds_for (passes_of rfl) rfl (di_rng1 rfl T.n_range (da_cons d_int da_nil)) (dg_name (pg_name (i := 6) sc_law.nd rfl (Or.inl rfl))) (dss_cons (ds_set (i := 7) sc_law.nd rfl (Or.inl rfl) (d_call (takes_of rfl rfl rfl rfl) (ok_read_lines (K := K) T) T.g_read_lines (hr.mono (by decide)) (da_cons (d_var (pv 4)) da_nil)))
      (dss_cons (ds_if (dw_1 (dw_or (dt_not (dt_val (d_callB (kIsiD rfl) rfl T.n_isinstance (by decide +kernel) (da_cons (d_var (pv 7)) (da_cons (d_c (kbT (n := "list") T.n_list (by decide +kernel)) fun _ => .ty _) da_nil))))) (dw_or (dt_cmp (kNeD rfl hr) (d_var (pv 7)) (d_var (pv 3)) (nomark _)) (dw_or1 (dt_cmp (kNeD rfl hr) (d_call (takes_of rfl rfl rfl rfl) (ok_lines_text (K := K) T) T.g_lines_text (hr.mono (by decide)) (da_cons (d_var (pv 7)) da_nil)) (d_var (pv 4)) (nomark _)))))) (dss_one (ds_ret d_bl)) dss_nil)
      (dss_cons (ds_for (passes_of rfl) rfl (di_seq rfl (d_var (pv 7))) (dg_name (pg_name (i := 8) sc_law.nd rfl (Or.inl rfl))) (dss_one (ds_if (dw_1 (dw_or (dt_not (dt_val (d_callB (kIsiD rfl) rfl T.n_isinstance (by decide +kernel) (da_cons (d_var (pv 8)) (da_cons (d_c (kbT (n := "tuple") T.n_tuple (by decide +kernel)) fun _ => .ty _) da_nil))))) (dw_or1 (dt_cmp (kNeD rfl hr) (d_lc (own := [("_law_one", 9)]) rfl sc_law.nd (di_seq rfl (d_var (pv 8))) (blkOk_by (N := nm_law) (sc := defScope s_law) (by decide +kernel)) (by decide) (fun _ _ _ _ _ => (dg_name (pg_name (i := 9) sc_law.nd rfl (Or.inl rfl)))) (fun _ _ _ _ _ => (dts_one (dt_val (d_isT rfl (d_var (pv 9)) (PCs.cons (kbT (n := "bool") T.n_bool (by decide +kernel)) (.ty _) rfl (PCs.cons (kbT (n := "list") T.n_list (by decide +kernel)) (.ty _) rfl PCs.nil)) (Nat.le_of_ble_eq_true rfl) rfl T.n_isinstance (by decide +kernel))))) (fun _ _ _ _ _ => (d_var (pv 9)))) (d_lst da_nil) (nomark _))))) (dss_one (ds_ret d_bl)) dss_nil)))
      (dss_one (ds_expr (d_bm rfl PySem.F.plainAttrs_list PySem.F.slot_list_append PySem.F.type_list_append kAppD (d_var (pv 7)) (da_cons (d_tup (da_cons (d_str (by decide +kernel)) (da_cons d_int (da_cons d_int da_nil)))) da_nil))))))))
      (dss_one (ds_expr (d_bm rfl PySem.F.plainAttrs_list PySem.F.slot_list_append PySem.F.type_list_append kAppD (d_var (pv 1)) (da_cons (d_tup (da_cons (d_var (pv 4)) (da_cons (d_var (pv 3)) da_nil))) da_nil)))))))))))
      (dss_cons (ds_for (passes_of rfl) rfl (di_seq rfl (d_rev rfl (d_var (pv 1)))) (dg_seq (n := 2) rfl rfl (dgs_cons (dg_name (pg_name (i := 4) sc_law.nd rfl (Or.inl rfl))) (dgs_cons (dg_name (pg_name (i := 3) sc_law.nd rfl (Or.inl rfl))) dgs_nil))) (dss_one (ds_if (dw_1 (dw_or (dt_cmp (kNeD rfl hr) (d_call (takes_of rfl rfl rfl rfl) (ok_read_lines (K := K) T) T.g_read_lines (hr.mono (by decide)) (da_cons (d_var (pv 4)) da_nil)) (d_var (pv 3)) (nomark _)) (dw_or1 (dt_cmp (kNeD rfl hr) (d_call (takes_of rfl rfl rfl rfl) (ok_lines_text (K := K) T) T.g_lines_text (hr.mono (by decide)) (da_cons (d_var (pv 3)) da_nil)) (d_var (pv 4)) (nomark _))))) (dss_one (ds_ret d_bl)) dss_nil)))
      (dss_one (ds_ret d_bl)))))), .inl ?_⟩
    walk_at "d"
    refine w_lstF ?_
    walk_at "d"
    refine ⟨.lst [], [], rfl, rfl, fun _ z => (nomatch z), Nat.zero_le _, ?_⟩
    walk_at "d"
    rw [decide_eq_true nl0]
    walk_at "d"
    refine ⟨[], by rw [nl0], fun _ z => (nomatch z), Nat.zero_le _, w_lstF ?_⟩
    walk_at "d"
    refine w_lstF ?_
    refine w_neR (d := .lst []) rfl rfl rfl ?_
    walk_at "d"
    refine w_lstS fun f hf => ?_
    walk_at "d"
    refine w_slL rfl (w_lstF ?_)
    obtain ⟨zs, hzs, hzl⟩ := cut_ints (ns := ns) (lo := none) (hi := some 8)
    rw [hzs]
    walk_at "d"
    refine w_lstF ?_
    refine w_addL rfl rfl (by rw [List.length_map]; show zs.length + 2 ≤ _; omega) (w_lstF ?_)
    rw [show zs.map DV.int ++ [DV.int 2, .int 7] = (zs ++ [2, 7]).map DV.int from by rw [List.map_append]; rfl]
    have hzl2 : (zs ++ [2, 7]).length ≤ 65 := by rw [List.length_append]; show zs.length + 2 ≤ 65; omega
    generalize zs ++ [2, 7] = zs2 at hzl2
    refine ⟨_, rfl, fun i sl s => ∃ v2 v3 v4 v5 v6 v7 v8 v9, sl = [some (.scr (ns.map DV.int)), some (.ref f), v2, v3, v4, v5, v6, v7, v8, v9] ∧ Ext st s ∧ ∃ ks, s f = some (.lst ks) ∧ ks.length ≤ i ∧ ∀ d ∈ ks, Kq d, ⟨_, _, _, _, _, _, _, _, rfl, (Ext.refl st).new hf, [], sset_same, Nat.le_refl _, fun _ z => nomatch z⟩, fun _ _ s _ _ => rfl, ?_, ?_⟩
    · rintro i x sl s hx ⟨v2, v3, v4, v5, v6, v7, v8, v9, rfl, hE, ks, hks, hK1, hK2⟩
      have hi : i < 65 := by
        have := (List.getElem?_eq_some_iff.mp hx).1
        rw [List.length_map] at this
        omega
      obtain ⟨z, _, rfl⟩ := List.mem_map.mp (List.mem_of_getElem? hx)
      walk_at "d"
      refine ⟨z, rfl, fun w0 hw0 => ?_⟩
      have nfw : f ≠ w0 := sne_of hks hw0
      walk_at "d"
      refine ⟨w0, rfl, sset_same, fun ls hln hlk => ?_⟩
      have hle : ls.length ≤ 45 := by omega
      have hok := ln_ok (n := 55) ls hlk
      obtain ⟨s1, hs1⟩ : ∃ x, x = sset s w0 .well := ⟨_, rfl⟩
      have hE1 : Ext st s1 := by rw [hs1]; exact hE.new hw0
      have hf1 : s1 f = some (.lst ks) := by rw [hs1, sset_ne nfw]; exact hks
      rw [← hs1]
      clear hs1 hw0
      walk_at "d"
      refine ⟨_, rfl, ?_⟩
      have jl : ∀ l, LNok l → (lineS l).length ≤ 1999 := fun l h => by
        have := row_len (ln_wok h) (by have := (ln_len h).2; omega)
        rw [line_row, len_cl, cl_app, List.length_append, ← len_cl] at this
        have e : (cl ("\n" : Str)).length = 1 := by decide +kernel
        omega
      refine ⟨by rw [List.length_map]; omega, fun i acc s => s = s1 ∧ acc = ((ls.take i).map fun l => lineS l ++ ("\n" : Str)).map DV.str, ⟨rfl, rfl⟩, fun _ _ _ _ _ => rfl, ?_, ?_⟩
      · rintro i x acc s hx ⟨rfl, rfl⟩
        rw [List.getElem?_map] at hx
        cases h : ls[i]? with
        | none => rw [h] at hx; cases hx
        | some l =>
          rw [h] at hx
          injection hx with hx
          subst hx
          have hl1 := hlk l (List.mem_of_getElem? h)
          have := jl l hl1
          walk_at "d"
          refine ⟨l, rfl, hl1, ?_⟩
          walk_at "d"
          refine w_addS (by show _ + 1 ≤ _; omega) ⟨rfl, ?_⟩
          rw [List.take_add_one, h, List.map_append, List.map_append]
          rfl
      rintro acc s ⟨rfl, rfl⟩
      rw [List.length_map, List.take_length]
      refine w_lstF ?_
      walk_at "d"
      refine w_join rfl (rows_len84 (fun s hs => ?_) (by rw [List.length_map]; exact hle)) ?_
      · obtain ⟨l, hl1, rfl⟩ := List.mem_map.mp hs
        have := jl l (hlk l hl1)
        rw [len_cl, cl_app, List.length_append, ← len_cl]
        have e : (cl ("\n" : Str)).length = 1 := by decide +kernel
        omega
      rw [show (ls.map fun l => lineS l ++ ("\n" : Str)) = (ls.map lineS).map fun x => x ++ ("\n" : Str) from by rw [List.map_map]; rfl]
      rw [show Str.join "" ((ls.map lineS).map fun x => x ++ ("\n" : Str)) = linesS ls from rfl]
      walk_at "d"
      refine w_list (es := ls.map lnV) rfl (w_lstS fun h hh => ?_)
      have nfh : f ≠ h := sne_of hf1 hh
      walk_at "d"
      refine ⟨.ref h, ls, rfl, its_r sset_same, hlk, hle, ?_⟩
      walk_at "d"
      rw [decide_eq_true (rfl : linesS ls = _)]
      walk_at "d"
      refine w_neR (d := .lst (ls.map lnV)) (vw_r sset_same) rfl hok ?_
      walk_at "d"
      refine ⟨tyM_l sset_same, ?_⟩
      refine w_clr sset_same ?_
      rw [sset_sset]
      obtain ⟨s2, hs2⟩ : ∃ x, x = sset s h (.lst []) := ⟨_, rfl⟩
      have hE2 : Ext st s2 := by rw [hs2]; exact hE1.new hh
      have hf2 : s2 f = some (.lst ks) := by rw [hs2, sset_ne nfh]; exact hf1
      rw [← hs2]
      clear hs2 hh hf1 hE1
      walk_at "d"
      refine ⟨_, rfl, ⟨by decide, by decide⟩, fun t sl s' => ∃ v6 v7 v8 v9, sl = [some (.scr (ns.map DV.int)), some (.ref f), some (.int z), some (.lst (ls.map lnV)), some (.str (linesS ls)), some (.ref h), v6, v7, v8, v9] ∧ Ext st s' ∧ s' f = some (.lst ks), ⟨_, _, _, _, rfl, hE2, hf2⟩, fun _ _ _ _ _ => trivial, ?_, ?_⟩
      · rintro t y sl s' hy ⟨v6, v7, v8, v9, rfl, hE3, hf3⟩
        walk_at "d"
        refine ⟨ls, rfl, hlk, hle, w_lstS fun g hg => ?_⟩
        have nfg : f ≠ g := sne_of hf3 hg
        walk_at "d"
        refine w_isi (ty_ref sset_same) rfl lstK ?_
        walk_at "d"
        refine w_neR (d := .lst (ls.map lnV)) (vw_r sset_same) rfl hok ?_
        walk_at "d"
        refine ⟨.ref g, ls, rfl, its_r sset_same, hlk, hle, ?_⟩
        walk_at "d"
        rw [decide_eq_true (rfl : linesS ls = _)]
        walk_at "d"
        refine ⟨_, its_r sset_same, fun j sl s4 => (∃ v8 v9, sl = [some (.scr (ns.map DV.int)), some (.ref f), some (.int z), some (.lst (ls.map lnV)), some (.str (linesS ls)), some (.ref h), some y, some (.ref g), v8, v9]) ∧ s4 = sset s' g (.lst (ls.map lnV)), ⟨⟨_, _, rfl⟩, rfl⟩, fun _ _ _ _ hq => (by rw [hq.2]; exact its_r sset_same), ?_, ?_⟩
        · rintro j x sl s4 hx ⟨⟨v8, v9, rfl⟩, rfl⟩
          obtain ⟨l, hl1, rfl⟩ := List.mem_map.mp (List.mem_of_getElem? hx)
          have hl2 := hlk l hl1
          obtain ⟨es, he, hen⟩ : ∃ es, lnV l = .tup es ∧ es.length ≤ 5 ∧ ∀ e ∈ es, knD e = true ∧ (bKB e || lKB e) = false := by
            cases l with
            | back a b => exact ⟨_, rfl, Nat.le_of_ble_eq_true rfl, fun e he => by simp only [List.mem_cons, List.not_mem_nil, or_false] at he; rcases he with rfl | rfl | rfl <;> exact ⟨rfl, rfl⟩⟩
            | inn a b t => exact ⟨_, rfl, Nat.le_of_ble_eq_true rfl, fun e he => by simp only [List.mem_cons, List.not_mem_nil, or_false] at he; rcases he with rfl | rfl | rfl | rfl <;> exact ⟨rfl, rfl⟩⟩
            | right a b c t => exact ⟨_, rfl, Nat.le_of_ble_eq_true rfl, fun e he => by simp only [List.mem_cons, List.not_mem_nil, or_false] at he; rcases he with rfl | rfl | rfl | rfl | rfl <;> exact ⟨rfl, rfl⟩⟩
          rw [he]
          walk_at "d"
          refine ⟨_, rfl, ?_⟩
          refine w_lcfil (fun d => bKB d || lKB d) (fun d => d) rfl (fun y hy QQ hq => ?_) (by omega) (w_lstF ?_)
          · obtain ⟨h1, h2⟩ := hen.2 y hy
            rw [h2] at hq
            walk_at "d"
            obtain ⟨ty, t1, t2⟩ := isi_bl (K := K) (st := sset s' g (.lst (ls.map lnV))) h1
            refine ⟨ty, _, t1, t2, ?_⟩
            rw [h2]
            walk_at "d"
            exact hq
          rw [show (es.filter fun d => bKB d || lKB d) = [] from List.filter_eq_nil_iff.mpr fun e he => by rw [(hen.2 e he).2]; decide]
          walk_at "d"
          refine w_lstF ?_
          refine w_neR (d := .lst []) rfl rfl rfl ?_
          walk_at "d"
          exact ⟨⟨_, _, rfl⟩, rfl⟩
        · rintro sl s4 ⟨⟨v8, v9, rfl⟩, rfl⟩
          walk_at "d"
          refine ⟨tyM_l sset_same, ?_⟩
          walk_at "d"
          refine w_app sset_same (by rw [List.length_map]; omega) ?_
          rw [sset_sset]
          walk_at "d"
          exact ⟨_, _, _, _, rfl, hE3.new hg, by rw [sset_ne nfg]; exact hf3⟩
      · rintro sl s' ⟨v6, v7, v8, v9, rfl, hE3, hf3⟩
        walk_at "d"
        refine ⟨tyM_l hf3, ?_⟩
        walk_at "d"
        refine w_app hf3 (by omega) ?_
        walk_at "d"
        refine ⟨_, _, _, _, _, _, _, _, rfl, hE3.set hf, _, sset_same, by rw [List.length_append]; show ks.length + 1 ≤ _; omega, fun d hd => ?_⟩
        rcases List.mem_append.mp hd with hd | hd
        · exact hK2 d hd
        · rw [List.mem_singleton.mp hd]
          exact ⟨ls, rfl, hlk, hle⟩
    · rintro sl s ⟨v2, v3, v4, v5, v6, v7, v8, v9, rfl, hE, ks, hks, hK1, hK2⟩
      walk_at "d"
      refine ⟨ks, lr_r hks, w_lstF ?_⟩
      refine ⟨_, rfl, fun i sl s' => ∃ v2 v3 v4 v5 v6 v7 v8 v9, sl = [some (.scr (ns.map DV.int)), some (.ref f), v2, v3, v4, v5, v6, v7, v8, v9], ⟨_, _, _, _, _, _, _, _, rfl⟩, fun _ _ _ _ _ => rfl, ?_, ?_⟩
      · rintro i x sl s' hx ⟨v2, v3, v4, v5, v6, v7, v8, v9, rfl⟩
        obtain ⟨ls, rfl, hlk, hle⟩ := (hK2 x (List.mem_reverse.mp (List.mem_of_getElem? hx))).ex
        have hok := ln_ok (n := 55) ls hlk
        walk_at "d"
        refine ⟨_, rfl, rfl, ?_⟩
        walk_at "d"
        refine ⟨ls, rfl, hlk, hle, w_lstF ?_⟩
        walk_at "d"
        refine w_neR rfl rfl hok ?_
        walk_at "d"
        refine ⟨.lst (ls.map lnV), ls, rfl, rfl, hlk, hle, ?_⟩
        walk_at "d"
        rw [decide_eq_true (rfl : linesS ls = _)]
        walk_at "d"
        exact ⟨_, _, _, _, _, _, _, _, rfl⟩
      · rintro sl s' ⟨v2, v3, v4, v5, v6, v7, v8, v9, rfl⟩
        walk_at "d"
        exact k _
end
end Kn

set_option Elab.async false
set_option linter.all false
set_option maxRecDepth 100000
set_option maxHeartbeats 40000000
set_option pp.maxSteps 400
namespace Kn
open PySem PySem.Spec PyProof.Rows L2
local macro_rules | `(tactic| walk_at "e1") => `(tactic| first
  | with_reducible refine w_seq ?_
  | with_reducible refine w_next ?_
  | with_reducible refine w_brk ?_
  | with_reducible refine w_cont ?_
  | with_reducible refine w_drop ?_
  | with_reducible refine w_ret ?_
  | with_reducible refine w_ifs ?_
  | with_reducible refine w_asg ?_
  | with_reducible refine w_nm ?_
  | with_reducible refine w_c ?_
  | with_reducible refine w_op ?_
  | with_reducible refine w_un ?_
  | with_reducible refine w_chain ?_
  | with_reducible refine w_test ?_
  | with_reducible refine w_and ?_
  | with_reducible refine w_or ?_
  | with_reducible refine w_not ?_
  | with_reducible refine w_yes ?_
  | with_reducible refine w_andV ?_
  | with_reducible refine w_orV ?_
  | with_reducible refine w_notV ?_
  | with_reducible refine w_ifE ?_
  | with_reducible refine w_nil ?_
  | with_reducible refine w_cons ?_
  | with_reducible refine w_tup ?_
  | with_reducible refine w_lst ?_
  | with_reducible refine w_cb ?_
  | with_reducible refine w_call ?_
  | with_reducible refine w_make ?_
  | with_reducible refine w_meth ?_
  | with_reducible refine w_fld ?_
  | with_reducible refine w_sfld ?_
  | with_reducible refine w_raise ?_
  | with_reducible refine w_try ?_
  | with_reducible refine w_gsq ?_
  | with_reducible refine w_gsb ?_
  | with_reducible refine w_isT ?_
  | with_reducible refine w_bm ?_
  | with_reducible refine w_bm0 ?_
  | with_reducible refine w_m0 ?_
  | with_reducible refine w_sl ?_
  | with_reducible refine w_part ?_
  | with_reducible refine w_nop ?_
  | with_reducible refine w_rev ?_
  | with_reducible refine w_isq ?_
  | with_reducible refine w_r1 ?_
  | with_reducible refine w_r2 ?_
  | with_reducible refine w_r3 ?_
  | with_reducible refine w_thru ?_
  | with_reducible refine w_en ?_
  | with_reducible refine w_kgT ?_
  | with_reducible refine w_ends ?_
  | with_reducible refine w_ist ?_
  | with_reducible refine w_for ?_
  | with_reducible refine w_lc ?_
  | with_reducible refine w_blP ?_
  | with_reducible refine w_intP ?_
  | with_reducible refine w_strP ?_
  | with_reducible refine w_strE ?_
  | with_reducible refine w_addI ?_
  | with_reducible refine w_ii ?_
  | with_reducible refine w_neg ?_
  | with_reducible refine w_eqI ?_
  | with_reducible refine w_eqS ?_
  | with_reducible refine w_neI ?_
  | with_reducible refine w_neS ?_
  | with_reducible refine w_is ?_
  | with_reducible refine w_isN ?_
  | with_reducible refine w_slS ?_
  | with_reducible refine w_lenS ?_
  | with_reducible refine w_lenT ?_
  | with_reducible refine w_lenL ?_
  | with_reducible refine w_lenC ?_
  | with_reducible refine w_int1b ?_
  | with_reducible refine w_int1i ?_
  | with_reducible refine w_strip ?_
  | with_reducible refine w_lock ?_
  | with_reducible refine w_dget ?_
  | with_reducible refine w_din ?_
  | with_reducible refine w_dget2 ?_
  | with_reducible refine w_dpn ?_
  | with_reducible refine w_dpc ?_
  | with_reducible refine w_disp ?_
  | with_reducible refine w_ivals ?_
  | with_reducible refine w_par ?_
  | with_reducible refine w_dgv ?_
  | with_reducible refine w_revS ?_
  | with_reducible refine w_max2 ?_
  | with_reducible refine w_min2 ?_
  | with_reducible refine w_var rfl ?_
  | with_reducible refine w_gcn ?_
  | with_reducible refine w_gnl ?_
  | with_reducible refine iteT ?_
  | with_reducible refine iteF ?_
  | with_reducible refine ite_not ?_
  | with_reducible refine w_ixT atI_zero ?_
  | with_reducible refine w_ixL atI_zero ?_
  | with_reducible refine w_kg ?_
  | ((with_reducible refine w_ixT (d := ?dd) ?hi ?_); case hi => rfl)
  | ((with_reducible refine w_ixL (d := ?dd) ?hi ?_); case hi => rfl)
  | ((with_reducible refine w_isi_str ?hk ?_); case hk => rfl)
  | ((with_reducible refine w_isi_int ?hk ?_); case hk => rfl)
  | ((with_reducible refine w_isi_bool ?hk ?_); case hk => rfl)
  | ((with_reducible refine w_isi_tuple ?hk ?_); case hk => rfl)
  | ((with_reducible refine w_isi_list ?hk ?_); case hk => rfl)
  | ((with_reducible refine w_fldI (v := ?dd) ?hf ?_); case hf => rfl)
  | ((with_reducible refine w_lenok ?hl ?_); case hl => exact Nat.le_of_ble_eq_true rfl)
  | ((with_reducible refine w_tym ?hl ?_); case hl => exact rfl))
local macro_rules | `(tactic| walk_at "e") => `(tactic| repeat walk_at "e1")
local macro_rules | `(tactic| walk_at "d1") => `(tactic| first
  | walk_at "e1"
  | with_reducible refine w_gv_non ?_
  | with_reducible refine w_gv_bl ?_
  | with_reducible refine w_gv_int ?_
  | with_reducible refine w_gv_str ?_
  | with_reducible refine w_gv_tup ?_
  | with_reducible refine w_gv_lst ?_
  | with_reducible refine w_gv_ins ?_)
local macro_rules | `(tactic| walk_at "d") => `(tactic| repeat walk_at "d1")

section
variable {w : World} {P : Program} {mg : Str → Option Value} {K : PySem.W.Frag} {base : Heap}
theorem DefOk.imp {k : Nat} {p : Str × Option Str} {ps : List Str} {sp sp' : Sp} (G : DefOk P w K mg base k p ps sp) (h : ∀ vs H Q E, sp' vs H Q E → sp vs H Q E) : DefOk P w K mg base k p ps sp' := by
  obtain ⟨⟨fd, F, b, lk⟩, kp⟩ := G
  exact ⟨⟨fd, F.imp h, b, lk⟩, kp⟩
theorem ok_law (T : Tx P w K mg base) : DefOk P w K mg base 10 ("law", none) ["_law_script"] (sp_law K) := (ok_lawD T).imp fun vs H Q E h => by
  obtain ⟨a, ns, rfl, hS, hl, hb, k⟩ := h
  refine ⟨⟨H, fun _ => none, fun _ => none⟩, fun _ => none, [.scr (ns.map DV.int)], fun d _ => d = .bl true, fun _ _ => False, ⟨Same.refl _, fun _ _ z => (nomatch z), fun _ _ z => (nomatch z), fun _ _ z => (nomatch z), fun _ _ _ z => (nomatch z), fun _ _ z => (nomatch z), fun _ _ z => (nomatch z), ⟨0, fun _ _ => rfl⟩⟩, .cons (.scr hS DvAll.ints) .nil, ⟨ns, rfl, hl, fun s => rfl⟩, fun W' st' H' v d l R D e => ?_, fun _ _ _ _ _ _ _ _ _ z => z.elim⟩
  subst e
  rw [dv_bl D]
  exact k H'
end
end Kn

theorem PySem.Challenge.cw_knotpurse_k84_lines_as_text_holds : PySem.Challenge.rw_knotpurse_k84_lines_as_text.Holds :=
  Kn.closeA fun _ _ _ _ T => Kn.ok_law T
