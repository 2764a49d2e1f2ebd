import PyProof.Rows.All
import Wide.All
import OpenK.AllK
import Wide.FinOn
import PyProof.ReprRoads
import KE.KExcIs
import HandS.ForMost
import HandS.ForExc
import HandS.Defaults
import HandS.Wide
import HandS.WideBits
import HandS.ExcInit
import HandS.ExcField
import HandS.Property
import HandS.MakeKw
import HandS.IsInst
import HandS.Style
import HandS.TupAny
import HandS.Codes
import HandS.MakeKwOnly
import HandS.ExcIs
import PyProof.ReprLen
import HandS.Base
import HandS.Call
import HandS.Exc
import HandS.TryMany
import KE.KOpsOwn
import PyProof.StrReplace2
import PyProof.TwoTypes
import PyProof.Walk
import PyProof.WalkLemmas
import PyProof.EqKinds
import HandS.Iter
import KE.GoesMore
import KE.GoesEnum
import PyProof.Draws
import HandS.Spec
import HandS.EndBits
import HandS.HeadNt
import HandS.Head0
import HandS.Head1
import HandS.Head2
import HandS.Small
import HandS.WordsDict
import KE.KDictDisplayH
import HandS.Comp
import PyProof.SliceList
import KE.KRevSl
import PyProof.SliceStr2
import HandS.Text
import PyProof.MeetsIn
import PyProof.Rows.Range3
import PyProof.SumAnyB
import HandS.Zip
import PySem.Challenge.RW_bitsolve_k37_low_rows_by_index
import HandS.TupLen
import HandS.DictComp
set_option Elab.async false
set_option linter.all false
set_option maxRecDepth 100000
set_option maxHeartbeats 4000000
set_option Elab.async false
set_option linter.all false
set_option maxRecDepth 100000
set_option maxHeartbeats 2000000
/-! Rules of my own over the hand layer; law-independent. -/
namespace Bs
open PySem PySem.Spec PySem.Calls PyProof.Rows L2

/-! ### integer operators at full width -/
section
variable {X : Cx}
theorem mok_l {i j : Int} (h1 : -(2 ^ 64) < i) (h2 : i < 2 ^ 64) : IntMulOk i j := CMul.ok (.inl ⟨h1, h2⟩)
theorem mok_r {i j : Int} (h1 : -(2 ^ 64) < j) (h2 : j < 2 ^ 64) : IntMulOk i j := CMul.ok (.inr ⟨h1, h2⟩)
theorem mok_w {i j : Int} (a b : Nat) (ha : i.natAbs < 2 ^ a) (hb : j.natAbs < 2 ^ b) (h : a + b ≤ 134217728) : IntMulOk i j := (mulx_ok ha hb h).ok
theorem op_mulO : OpR X (binaryOp .Mult) (rI IntMulOk fun i j => .int (i * j)) := opI fun _ _ _ _ _ _ _ hc q => mul_int q hc
def CFd (_ j : Int) : Prop := j ≠ 0 ∧ j.natAbs.log2 < 9000
theorem cfd {i j : Int} (b : Nat) (h : j ≠ 0) (hb : j.natAbs < 2 ^ b) (h0 : 0 < b) (h9 : b ≤ 9000) : CFd i j := ⟨h, Nat.lt_of_lt_of_le (PySem.Flt.log2_lt_of h0 hb) h9⟩
theorem op_fdivF : OpR X (binaryOp .FloorDiv) (rI CFd fun i j => .int (i.fdiv j)) := opI fun _ _ _ _ _ _ _ hc q => floordiv_int hc.1 q (.inl (PyProof.noPylong_of_log2 hc.2))
theorem cdivw {i j : Int} (b : Nat) (h : 0 < j) (hb : j.natAbs < 2 ^ b) (h0 : 0 < b) (h9 : b ≤ 9000) : CDivW i j := wide_div h hb h0 h9
def CPw (i j : Int) : Prop := 0 ≤ j ∧ (Builtin.Int.intBits i : Int) * j ≤ 2 ^ 27
theorem cpw {i j : Int} (b : Nat) (h : 0 ≤ j) (hb : i.natAbs < 2 ^ b) (hl : (b : Int) * j ≤ 134217728) : CPw i j := by
  refine ⟨h, ?_⟩
  have h1 := PyProof.Rows.intBits_le hb
  have h2 : (Builtin.Int.intBits i : Int) * j ≤ (b : Int) * j := Int.mul_le_mul_of_nonneg_right (by omega) h
  have h3 : (2 : Int) ^ 27 = 134217728 := by decide
  omega
theorem op_powW : OpR X (binaryOp .Pow) (rI CPw fun i j => .int (i ^ j.toNat)) := opI fun _ _ _ _ _ _ _ hc q => pow_int hc.1 hc.2 q
theorem cshl {i : Int} {j : Int} (n : Nat) (h0 : 0 ≤ j) (h : i.natAbs < 2 ^ n) (hn : (n : Int) + j ≤ 134217728) : CShl i j := by
  have b := PyProof.Rows.intBits_le h
  have e : (2 : Int) ^ 27 = 134217728 := by decide
  refine ⟨h0, ?_⟩
  rw [e]
  omega
end

/-! ### repr of data -/
def rRepr (K : PySem.W.Frag) : List V → Hp → VK → Prop := fun xs H Q => ∃ x d, xs = [x] ∧ Dp K H x d ∧ d.showable = true ∧ d.hasDict = false ∧ d.depth ≤ 60 ∧ d.shown.length ≤ sizeLine ∧ Q (.str d.shown) H
theorem call_reprD {X : Cx} {k : Nat} (hg : X.A.guards = some []) (hr : Room k X.A) : CallR X (.builtin "repr") (rRepr X.K) := by
  intro pins s σ H xs us Q I r h
  obtain ⟨x, d, rfl, hd, hs, hn, hdp, hz, q⟩ := h
  cases r with
  | @cons _ u _ ur rx rr =>
    cases rr
    have fin : ∀ (hh : Heap) (tk : Tok) (u' : Tok), (∀ b o, s.heap.get? b = some o → hh.get? b = some o) → EP X pins σ Q (.str d.shown u') { s with heap := hh, toks := tk } :=
      fun hh tk u' hk => ⟨.str d.shown, H, I.kept hk, ⟨_, rfl⟩, q⟩
    cases hd with
    | non =>
      obtain rfl : u = Value.none := rx
      exact P.repr_of_none (fin _ _ _ fun _ _ z => z)
    | bl b =>
      obtain rfl : u = Value.bool b := rx
      exact P.repr_of_bool (fin _ _ _ fun _ _ z => z)
    | int i =>
      obtain ⟨t, rfl⟩ := rx
      exact P.repr_of_int (of_decide_eq_true hs) (fin _ _ _ fun _ _ z => z)
    | str y =>
      obtain ⟨t, rfl⟩ := rx
      exact P.repr_of_str (fin _ _ _ fun _ _ z => z) hz
    | lst hl ha =>
      obtain ⟨as, rd⟩ := Dp.reads I _ _ u (.lst hl ha) rx
      obtain rfl := rx
      exact repr_of_reads' rd hs (PyData.noDict_hsm hn) hg (by have := hr.un; omega) (fun _ _ z => z) (fun h' u' tk hk => fin h' tk u' hk) hz
    | tup hl ha =>
      obtain ⟨as, rd⟩ := Dp.reads I _ _ u (.tup hl ha) rx
      obtain rfl := rx
      exact repr_of_reads' rd hs (PyData.noDict_hsm hn) hg (by have := hr.un; omega) (fun _ _ z => z) (fun h' u' tk hk => fin h' tk u' hk) hz

/-! ### defs that must know that no repr is under way -/
structure FnG (P : Program) (w : World) (K : PySem.W.Frag) (mg : Str → Option Value) (base : Heap) (CX : CXT) (k : Nat) (f : Addr) (fd : FuncData) (ps : List Str) (sp : Sp) : Prop where
  ln : ∀ vs H Q E, sp vs H Q E → vs.length = ps.length
  go : ∀ (A : Around) (outer : List Env) (s : Shared) (H : Hp) (args : Args) (us : List Value) (vs : List V) (Q : VK) (E : XK), A.guards = some [] → Room k A → Env0 P w K mg base A outer s H →
    BindsTo s fd args (ps.zip us) → Vals vs us → sp vs H Q E → codeAny (model P w) A (.call (.ref f) args) (CR CX outer P w H s Q E) s
section
variable {P : Program} {w : World} {K : PySem.W.Frag} {mg : Str → Option Value} {base : Heap} {CX : CXT}
theorem FnG.of {k : Nat} {f : Addr} {fd : FuncData} {ps : List Str} {sp : Sp} (F : FnOk P w K mg base CX k f fd ps sp) : FnG P w K mg base CX k f fd ps sp :=
  ⟨F.len, fun A o s H args us vs Q E _ hr => F.run A o s H args us vs Q E hr⟩
theorem FnG.mono {j k : Nat} {f : Addr} {fd : FuncData} {ps : List Str} {sp : Sp} (F : FnG P w K mg base CX j f fd ps sp) (h : j ≤ k) : FnG P w K mg base CX k f fd ps sp :=
  ⟨F.ln, fun A o s H args us vs Q E g hr => F.go A o s H args us vs Q E g (hr.mono h)⟩
/-- a def by its body, the guards told -/
theorem FunD_okG {x qual : Str} {pa : Arguments} {bd : List Stmt} {sc : Scope} {dvs : List V} {kws : List (Str × V)} {f : Addr} {fd : FuncData} {N ps : List Str} {k : Nat} {sp : Sp} (F : FunD K x qual pa bd sc dvs kws f fd) (S : FnScope N ps sc)
    (len : ∀ vs H Q E, sp vs H Q E → vs.length = ps.length)
    (hbody : ∀ (cdv : Value) (A : Around) (outer : List Env) (s : Shared) (H : Hp) (vs : List V) (Q : VK) (E : XK), (A.deeper (envOfC qual sc s.heap.objs.size f cdv)).guards = some [] →
      Room k (A.deeper (envOfC qual sc s.heap.objs.size f cdv)) → sp vs H Q E →
      ∃ t, PSs (cxOf CX P w K mg base N qual sc f cdv A outer s H E) bd t ∧ t { nx := fun _ H' => Q .non H', rt := Q } (start N vs) H) : FnG P w K mg base CX (k + 1) f fd ps sp := by
  obtain ⟨oc, od, dV, kV, doc, pm, an, cdv, ct, osl, rfl, lk, hcd, _, _⟩ := F.ex
  constructor
  · exact len
  · intro A outer s H args us vs Q E gd hr e0 hb rv hsp
    have KS : K.In s.heap := e0.mod.kin.keeps (fun b o z => (e0.bs b o z).1)
    have nolim : s.heap.NoLimit := e0.mod.nolimit.keeps (fun b o z => (e0.bs b o z).1)
    refine codeAny_call_function hr.depth (KS _ _ lk) rfl S.co S.gen rfl (PySem.W.codeRec_of KS hcd) (hb _ _ _ _ ?_)
    refine wpAny_newFunctionEnv_cells S.kind ?_ ?_
    · rintro ⟨nm, val⟩ hm
      have hp := (List.of_mem_zip hm).1
      rcases S.par nm hp with q | q
      · left
        exact q
      · right
        exact ⟨q, PySem.W.cellsFrom_some _ _ _ (.inl q)⟩
    · intro env he s1 xc
      subst he
      refine ⟨nolim.keeps xc.toInCall.keep, codeAny_func ?_⟩
      obtain ⟨t, ht, hq⟩ := hbody cdv A outer s H vs Q E gd (hr.deeper _) hsp
      have J := inv_start (CX := CX) (E := E) S hr.hd e0 (len _ _ _ _ hsp) rv xc
      refine wpAny_mono (ht.run [] s1 (start N vs) H _ J hq) ?_ (fun _ _ z => z)
      intro fl s' hs
      cases fl with
      | brk =>
        obtain ⟨_, _, _, z⟩ := hs
        exact z.elim
      | cont =>
        obtain ⟨_, _, _, z⟩ := hs
        exact z.elim
      | next =>
        obtain ⟨σ', H', I', q⟩ := hs
        exact ⟨V.non, H', I'.os, I'.bare, I'.base, I'.hok, rfl, q⟩
      | ret u =>
        obtain ⟨v, σ', H', I', ru, q⟩ := hs
        exact ⟨v, H', I'.os, I'.bare, I'.base, I'.hok, ru, q⟩
end
section
variable {X : Cx} {CX : CXT} {k : Nat} {f : Addr} {fd : FuncData} {ps : List Str} {sp : Sp} {E : XK} {x : Str} {p pos : Pos} {e : Expr} {es : List Expr} {t : TA}
/-- a call of such a def, every parameter written -/
theorem pe_callG (F : FnG X.prog X.w X.K X.mg X.base CX k f fd ps sp) (gd : X.A.guards = some []) (hr : Room k X.A) (hg : Gl X x) (hm : X.mg x = some (.ref f)) (hk : PySem.W.keepIn X.K (.ref f) = true) (hb : Binds X.K fd ps [])
    (hx : Passes CX X E) (ha : PA X (e :: es) t) (hdb : (x == ("__debug__" : Str)) = false := by decide) (he : starEach (e :: es) X.env = (false, eval e X.env) :: starEach es X.env := by rfl)
    (hpl : (backTo pos (starEach es X.env)).any (·.1) = false := by rfl) : PE X (.Call (.Name x p) (e :: es) [] pos) (tCall sp [] E t) := by
  constructor
  intro pins s σ H Q I h
  refine wpAny_Call_Name_kw (ld_glob I hg hm ?_ hdb)
  refine PySem.W.callWith_K (h₀ := X.base) I.ok.mod.kin hk (thn (ha.run pos pins s σ H _ I h) ?_) he hpl
  rintro us s1 ⟨vs, H1, I1, r, q⟩
  rw [List.append_nil] at q
  have hl : us.length = ps.length := r.length.symm.trans (F.ln _ _ _ _ q)
  have bb := hb s1 us I1.kIn (by rw [List.append_nil]; exact hl)
  rw [List.append_nil] at bb
  refine ⟨I1.kIn, wpAny_call (codeAny_mono (F.go X.A X.stack s1 H1 ⟨us, []⟩ us vs Q E gd hr I1.env0 bb r q) ?_)⟩
  intro rs s2 hq
  cases rs with
  | error er => exact hx pins σ H1 s1 er s2 I1 hq
  | ok fl =>
    cases fl with
    | ret u => exact I1.after hq
    | next => exact hq.elim
    | brk => exact hq.elim
    | cont => exact hq.elim
end
end Bs

namespace Bs
open PySem PySem.Spec PySem.Calls PyProof.Rows L2
/-- the built-in names that the text's top leaves alone -/
structure Bi (mg : Str → Option Value) : Prop where
  abs : mg "abs" = none
  len : mg "len" = none
  max : mg "max" = none
  min : mg "min" = none
  int : mg "int" = none
  range : mg "range" = none
  isinstance : mg "isinstance" = none
  repr : mg "repr" = none
  tuple : mg "tuple" = none
  sum : mg "sum" = none
  enumerate : mg "enumerate" = none
  zip : mg "zip" = none
  sorted : mg "sorted" = none
  set : mg "set" = none
  str : mg "str" = none
  divmod : mg "divmod" = none
  any : mg "any" = none
  all : mg "all" = none
  list : mg "list" = none
  bool : mg "bool" = none
  ValueError : mg "ValueError" = none
  TypeError : mg "TypeError" = none
  dict : mg "dict" = none
  next : mg "next" = none
/-- a def by its name and promise -/
structure Fo (P : Program) (w : World) (K : PySem.W.Frag) (mg : Str → Option Value) (base : Heap) (CX : CXT) (k : Nat) (x : Str) (ps : List Str) (sp : Sp) : Prop where
  ex : ∃ (f : Addr) (fd : FuncData), FnOk P w K mg base CX k f fd ps sp ∧ mg x = some (.ref f) ∧ PySem.W.keepIn K (.ref f) = true ∧ Binds K fd ps []
structure FoG (P : Program) (w : World) (K : PySem.W.Frag) (mg : Str → Option Value) (base : Heap) (CX : CXT) (k : Nat) (x : Str) (ps : List Str) (sp : Sp) : Prop where
  ex : ∃ (f : Addr) (fd : FuncData), FnG P w K mg base CX k f fd ps sp ∧ mg x = some (.ref f) ∧ PySem.W.keepIn K (.ref f) = true ∧ Binds K fd ps []
section
variable {X : Cx} {CX : CXT} {j k : Nat} {ps : List Str} {sp : Sp} {E : XK} {x : Str} {p pos : Pos} {e : Expr} {es : List Expr} {t : TA}
theorem pe_fo (c : Fo X.prog X.w X.K X.mg X.base CX0 k x ps sp) (hr : Room j X.A) (hk : k ≤ j) (ha : PA X (e :: es) t) (hg : Gl X x := by rfl) (hdb : (x == ("__debug__" : Str)) = false := by decide)
    (he : starEach (e :: es) X.env = (false, eval e X.env) :: starEach es X.env := by rfl) (hpl : (backTo pos (starEach es X.env)).any (·.1) = false := by rfl) : PE X (.Call (.Name x p) (e :: es) [] pos) (tCall sp [] E0 t) := by
  obtain ⟨f, fd, F, hm, kp, hb⟩ := c.ex
  exact pe_call F (hr.mono hk) hg hm kp hb .nil pass0 ha hdb he hpl
theorem pe_foX (c : Fo X.prog X.w X.K X.mg X.base (L2.CX X.prog X.w) k x ps sp) (hr : Room j X.A) (hk : k ≤ j) (ha : PA X (e :: es) t) (hg : Gl X x := by rfl) (hdb : (x == ("__debug__" : Str)) = false := by decide)
    (he : starEach (e :: es) X.env = (false, eval e X.env) :: starEach es X.env := by rfl) (hpl : (backTo pos (starEach es X.env)).any (·.1) = false := by rfl) : PE X (.Call (.Name x p) (e :: es) [] pos) (tCall sp [] E0 t) := by
  obtain ⟨f, fd, F, hm, kp, hb⟩ := c.ex
  exact pe_call F (hr.mono hk) hg hm kp hb .nil passL ha hdb he hpl
theorem pe_foG (c : FoG X.prog X.w X.K X.mg X.base CX0 k x ps sp) (gd : X.A.guards = some []) (hr : Room j X.A) (hk : k ≤ j) (ha : PA X (e :: es) t) (hg : Gl X x := by rfl) (hdb : (x == ("__debug__" : Str)) = false := by decide)
    (he : starEach (e :: es) X.env = (false, eval e X.env) :: starEach es X.env := by rfl) (hpl : (backTo pos (starEach es X.env)).any (·.1) = false := by rfl) : PE X (.Call (.Name x p) (e :: es) [] pos) (tCall sp [] E0 t) := by
  obtain ⟨f, fd, F, hm, kp, hb⟩ := c.ex
  exact pe_callG F gd (hr.mono hk) hg hm kp hb pass0 ha hdb he hpl
end
end Bs

set_option Elab.async false
set_option linter.all false
set_option maxRecDepth 100000
set_option maxHeartbeats 2000000
/-! Reading lemmas: one for each combinator, main continuation last; and the tactic that walks them. -/
namespace Bs
open PySem PySem.Spec PyProof.Rows L2
section
variable {σ : L2.St} {H : Hp} {Q : VK} {D : Ends} {K : PySem.W.Frag}
theorem r_var {i : Nat} {v : V} (h : σ[i]? = some (some v)) (k : Q v H) : tVar i σ H Q := ⟨v, h, k⟩
theorem r_c {v : V} (k : Q v H) : tC v σ H Q := k
theorem r_op {r : R2} {ta tb : TE} (k : ta σ H fun x H1 => tb σ H1 fun y H2 => r x y H2 Q) : tOp r ta tb σ H Q := k
theorem r_un {r : V → Hp → VK → Prop} {ta : TE} (k : ta σ H fun x H1 => r x H1 Q) : tUn r ta σ H Q := k
theorem r_test {t : TE} {Q : Bool → Hp → Prop} (k : t σ H fun x H' => ∃ b, x = .bl b ∧ Q b H') : tTest t σ H Q := k
theorem r_tB {t : TE} {Q : Bool → Hp → Prop} (k : t σ H fun x H' => ∃ b, x = .bl b ∧ Q b H') : tB t σ H Q := k
theorem r_isbl {b : Bool} {Q : Bool → Prop} (k : Q b) : ∃ c, V.bl b = .bl c ∧ Q c := ⟨b, rfl, k⟩
theorem r_and {t u : TT} {Q : Bool → Hp → Prop} (k : t σ H fun c H1 => if c = true then u σ H1 Q else Q false H1) : tAnd t u σ H Q := k
theorem r_or {t u : TT} {Q : Bool → Hp → Prop} (k : t σ H fun c H1 => if c = true then Q true H1 else u σ H1 Q) : tOr t u σ H Q := k
theorem r_not {t : TT} {Q : Bool → Hp → Prop} (k : t σ H fun c H1 => Q (!c) H1) : tNot t σ H Q := k
theorem r_andV {ta tb : TE} (k : ta σ H fun x H1 => ∃ c, x = .bl c ∧ if c = true then tb σ H1 Q else Q (.bl false) H1) : tAndV ta tb σ H Q := k
theorem r_orV {ta tb : TE} (k : ta σ H fun x H1 => ∃ c, x = .bl c ∧ if c = true then Q (.bl true) H1 else tb σ H1 Q) : tOrV ta tb σ H Q := k
theorem r_notV {ta : TE} (k : ta σ H fun x H1 => ∃ c, x = .bl c ∧ Q (.bl (!c)) H1) : tNotV ta σ H Q := k
theorem r_if {t : TT} {ta tb : TE} (k : t σ H fun c H1 => if c = true then ta σ H1 Q else tb σ H1 Q) : tIf t ta tb σ H Q := k
theorem r_isN {ta : TE} (k : ta σ H fun x H1 => Q (.bl (decide (x = .non))) H1) : tIsN ta σ H Q := k
theorem r_notN {ta : TE} (k : ta σ H fun x H1 => Q (.bl (!decide (x = .non))) H1) : tNotN ta σ H Q := k
theorem r_nil {Q : List V → Hp → Prop} (k : Q [] H) : tNil σ H Q := k
theorem r_cons {ta : TE} {tr : TA} {Q : List V → Hp → Prop} (k : ta σ H fun x H1 => tr σ H1 fun xs H2 => Q (x :: xs) H2) : tCons ta tr σ H Q := k
def cTup (Q : VK) (xs : List V) (H : Hp) : Prop := xs.length ≤ sizeLine ∧ ∀ p, H p = none → Q (.ref p) (upd H p (.tup xs))
def cLst (Q : VK) (xs : List V) (H : Hp) : Prop := xs.length ≤ sizeLine ∧ ∀ p, H p = none → Q (.ref p) (upd H p (.lst xs))
theorem r_tup {t : TA} (k : t σ H (cTup Q)) : tTup t σ H Q := k
theorem r_lst {t : TA} (k : t σ H (cLst Q)) : tLst t σ H Q := k
theorem r_small {n : Nat} {A : Prop} (h : n ≤ 100 := by decide) (k : A) : n ≤ sizeLine ∧ A := ⟨Nat.le_trans h (by decide), k⟩
theorem r_CB {r : List V → Hp → VK → Prop} {t : TA} (k : t σ H fun vs H1 => r vs H1 Q) : tCB r t σ H Q := k
theorem r_call {sp : Sp} {dvs : List V} {E : XK} {t : TA} (k : t σ H fun vs H1 => sp (vs ++ dvs) H1 Q E) : tCall sp dvs E t σ H Q := k
theorem r_meth {C : Addr} {m : Str} {sp : Sp} {dvs : List V} {E : XK} {ta : TE} {t : TA} (k : ta σ H fun x H1 => ∃ a dx fs, x = .ref a ∧ H1 a = some (.ins C dx fs) ∧ fs.lookup m = none ∧ t σ H1 fun vs H2 => sp (x :: (vs ++ dvs)) H2 Q E) : tMeth C m sp dvs E ta t σ H Q := k
theorem r_prop {C : Addr} {sp : Sp} {dvs : List V} {E : XK} {ta : TE} (k : ta σ H fun x H1 => ∃ a dx fs, x = .ref a ∧ H1 a = some (.ins C dx fs) ∧ sp (.ref a :: dvs) H1 Q E) : tProp C sp dvs E ta σ H Q := k
theorem r_make {C : Addr} {sp : Sp} {dvs : List V} {E : XK} {t : TA} (k : t σ H fun vs H1 => ∀ x dx, H1 x = none → H1 dx = none → dx ≠ x → sp (.ref x :: (vs ++ dvs)) (upd (upd H1 dx (.own x)) x (.ins C dx [])) (fun v H2 => v = .non ∧ Q (.ref x) H2) E) : tMake C sp dvs E t σ H Q := k
def cGf (K : PySem.W.Frag) (f : Str) (Q : VK) (x : V) (H1 : Hp) : Prop := ∃ a C dx fs v, x = .ref a ∧ H1 a = some (.ins C dx fs) ∧ Cls K C ∧ NoAttr K C f ∧ fs.lookup f = some v ∧ Q v H1
theorem r_fld {ta : TE} {f : Str} (k : ta σ H (cGf K f Q)) : tFld K ta f σ H Q := k
/-! statements -/
theorem r_seq {t u : TS} (k : t { D with nx := u D } σ H) : tSeq t u D σ H := k
theorem r_cut {t u : TS} (M : L2.St → Hp → Prop) (h : t { D with nx := M } σ H) (k : ∀ σ' H', M σ' H' → u D σ' H') : C8.tCut t u D σ H := ⟨M, h, k⟩
theorem r_next (k : D.nx σ H) : tNext D σ H := k
theorem r_asgN {te : TE} {i : Nat} (k : te σ H fun x H1 => D.nx (σ.set i (some x)) H1) : tAsg te (gName i) D σ H := k
theorem r_asgT {te : TE} {n : Nat} {g : TGs} (k : te σ H fun x H1 => gTup K n g x σ H1 D.nx) : tAsg te (gTup K n g) D σ H := k
theorem r_asgS {te to ti : TE} {t : TSet} (k : te σ H fun x H1 => to σ H1 fun o H2 => ti σ H2 fun i H3 => t o i x H3 fun H4 => D.nx σ H4) : tAsg te (gSub to ti t) D σ H := k
theorem r_par {i j : Nat} {ta : TA} (k : ta σ H fun vs H1 => ∃ v w, vs = [v, w] ∧ D.nx ((σ.set i (some v)).set j (some w)) H1) : tPar i j ta D σ H := k
theorem r_par3 {i j l : Nat} {ta : TA} (k : ta σ H fun vs H1 => ∃ v w u, vs = [v, w, u] ∧ D.nx (((σ.set i (some v)).set j (some w)).set l (some u)) H1) : tPar3 i j l ta D σ H := k
theorem r_tri {v w u : V} {A : V → V → V → Prop} (k : A v w u) : ∃ x y z, [v, w, u] = [x, y, z] ∧ A x y z := ⟨v, w, u, rfl, k⟩
theorem r_drop {te : TE} (k : te σ H fun _ H1 => D.nx σ H1) : tDrop te D σ H := k
theorem r_ret {te : TE} (k : te σ H D.rt) : tRet te D σ H := k
theorem r_retN (k : D.rt .non H) : tRetN D σ H := k
theorem r_ifS {c : TT} {t u : TS} (k : c σ H fun b H1 => if b = true then t D σ H1 else u D σ H1) : tIfS c t u D σ H := k
theorem r_pair {v w : V} {A : V → V → Prop} (k : A v w) : ∃ x y, [v, w] = [x, y] ∧ A x y := ⟨v, w, rfl, k⟩
/-! values -/
theorem r_I0 {g : Int → Int → V} {i j : Int} (k : Q (g i j) H) : rI0 g (.int i) (.int j) H Q := ⟨i, j, rfl, rfl, k⟩
theorem r_I {C : Int → Int → Prop} {g : Int → Int → V} {i j : Int} (c : C i j) (k : Q (g i j) H) : rI C g (.int i) (.int j) H Q := ⟨i, j, rfl, rfl, c, k⟩
theorem r_U {g : Int → V} {i : Int} (k : Q (g i) H) : rU g (.int i) H Q := ⟨i, rfl, k⟩
theorem r_eq {x y : V} (s : scal x y = true) (k : Q (.bl (decide (x = y))) H) : rEq x y H Q := ⟨s, k⟩
theorem r_ne {x y : V} (s : scal x y = true) (k : Q (.bl (!decide (x = y))) H) : rNe x y H Q := ⟨s, k⟩
theorem r_ixL {p : Addr} {xs : List V} {i : Int} {v : V} (h : SqL K H p xs) (a : atI xs i = some v) (k : Q v H) : rIxL K (.ref p) (.int i) H Q := ⟨p, xs, i, v, rfl, rfl, h, a, k⟩
theorem r_ixT {p : Addr} {xs : List V} {i : Int} {v : V} (h : SqT K H p xs) (a : atI xs i = some v) (k : Q v H) : rIxT K (.ref p) (.int i) H Q := ⟨p, xs, i, v, rfl, rfl, h, a, k⟩
theorem r_setL {p : Addr} {xs : List V} {i : Int} {j : Nat} {v : V} {R : Hp → Prop} (h : H p = some (.lst xs)) (a : ixN xs.length i = some j) (k : R (upd H p (.lst (xs.set j v)))) : rSetL (.ref p) (.int i) v H R := ⟨p, xs, i, j, rfl, rfl, h, a, k⟩
/-! branches -/
theorem i_tt {A B : Prop} (k : A) : if true = true then A else B := iteT k
theorem i_ff {A B : Prop} (k : B) : if false = true then A else B := iteF k
theorem i_int {a b : Int} {A B : Prop} (h1 : a = b → A) (h2 : a ≠ b → B) : if decide (V.int a = V.int b) = true then A else B := by
  by_cases h : a = b
  · rw [if_pos (by rw [h]; simp)]; exact h1 h
  · rw [if_neg (by simpa using h)]; exact h2 h
theorem i_intN {a b : Int} {A B : Prop} (h1 : a ≠ b → A) (h2 : a = b → B) : if (!decide (V.int a = V.int b)) = true then A else B := by
  by_cases h : a = b
  · rw [if_neg (by rw [h]; simp)]; exact h2 h
  · rw [if_pos (by simpa using h)]; exact h1 h
theorem i_str {a b : Str} {A B : Prop} (h1 : a = b → A) (h2 : a ≠ b → B) : if decide (V.str a = V.str b) = true then A else B := by
  by_cases h : a = b
  · rw [if_pos (by rw [h]; simp)]; exact h1 h
  · rw [if_neg (by simpa using h)]; exact h2 h
theorem i_strN {a b : Str} {A B : Prop} (h1 : a ≠ b → A) (h2 : a = b → B) : if (!decide (V.str a = V.str b)) = true then A else B := by
  by_cases h : a = b
  · rw [if_neg (by rw [h]; simp)]; exact h2 h
  · rw [if_pos (by simpa using h)]; exact h1 h
theorem i_dec {p : Prop} [Decidable p] {A B : Prop} (h1 : p → A) (h2 : ¬ p → B) : if decide p = true then A else B := by
  by_cases h : p
  · rw [if_pos (decide_eq_true h)]; exact h1 h
  · rw [if_neg (by simpa using h)]; exact h2 h
theorem i_decN {p : Prop} [Decidable p] {A B : Prop} (h1 : ¬ p → A) (h2 : p → B) : if (!decide p) = true then A else B := by
  by_cases h : p
  · rw [if_neg (by simpa using h)]; exact h2 h
  · rw [if_pos (by simpa using h)]; exact h1 h
theorem i_non {v : V} {A B : Prop} (h : v ≠ .non) (k : B) : if decide (v = V.non) = true then A else B := by
  rw [if_neg (by simpa using h)]; exact k
theorem i_nonT {A B : Prop} (k : A) : if decide (V.non = V.non) = true then A else B := iteT k
/-- while: W a word of the measure, the slots and the heap -/
theorem r_while {c : TT} {tb : TS} (W : Nat → L2.St → Hp → Prop) (m : Nat) (h0 : W m σ H) (hs : ∀ m σ H, W m σ H → c σ H fun b H1 => if b = true then ∃ N : L2.St → Hp → Prop, (∀ σ' H', N σ' H' → ∃ m', m' < m ∧ W m' σ' H') ∧ tb { D with nx := N, ct := N, bk := D.nx } σ H1 else D.nx σ H1) :
    tWhile c tb D σ H := ⟨W, ⟨m, h0⟩, hs⟩
theorem r_turn {W : Nat → L2.St → Hp → Prop} {m : Nat} {tb : TS} (k : tb { D with nx := fun σ' H' => ∃ m', m' < m ∧ W m' σ' H', ct := fun σ' H' => ∃ m', m' < m ∧ W m' σ' H', bk := D.nx } σ H) :
    ∃ N : L2.St → Hp → Prop, (∀ σ' H', N σ' H' → ∃ m', m' < m ∧ W m' σ' H') ∧ tb { D with nx := N, ct := N, bk := D.nx } σ H := ⟨_, fun _ _ h => h, k⟩
end
/-! built-in calls by name -/
def rAbs : List V → Hp → VK → Prop := fun xs H Q => ∃ i, xs = [.int i] ∧ Q (.int (i.natAbs : Int)) H
theorem cb_abs {X : Cx} : CallR X (.builtin "abs") rAbs := fun pins s σ H xs us Q I r ⟨i, e, q⟩ => call_abs pins s σ H xs us Q I r ⟨i, e, by
  have : (if i < 0 then -i else i) = (i.natAbs : Int) := by split <;> omega
  rw [this]; exact q⟩
theorem r_abs {H : Hp} {Q : VK} {i : Int} (k : Q (.int (i.natAbs : Int)) H) : rAbs [.int i] H Q := ⟨i, rfl, k⟩
def rInt1 : List V → Hp → VK → Prop := fun xs H Q => (∃ i, xs = [.int i] ∧ Q (.int i) H) ∨ ∃ k, xs = [.bl k] ∧ Q (.int (if k then 1 else 0)) H
theorem cb_int1 {X : Cx} : CallR X (.type "int") rInt1 := call_int1
theorem r_int1 {H : Hp} {Q : VK} {i : Int} (k : Q (.int i) H) : rInt1 [.int i] H Q := .inl ⟨i, rfl, k⟩
theorem r_int1b {H : Hp} {Q : VK} {b : Bool} (k : Q (.int (if b then 1 else 0)) H) : rInt1 [.bl b] H Q := .inr ⟨b, rfl, k⟩
def rMax2 : List V → Hp → VK → Prop := fun xs H Q => ∃ i j, xs = [.int i, .int j] ∧ Q (.int (max i j)) H
def rMin2 : List V → Hp → VK → Prop := fun xs H Q => ∃ i j, xs = [.int i, .int j] ∧ Q (.int (min i j)) H
theorem cb_max2 {X : Cx} (hc : X.calm = true) : CallR X (.builtin "max") rMax2 := fun pins s σ H xs us Q I r ⟨i, j, e, q⟩ => call_max2 hc pins s σ H xs us Q I r ⟨i, j, e, by
  have : (if j > i then j else i) = max i j := by split <;> omega
  rw [this]; exact q⟩
theorem cb_min2 {X : Cx} (hc : X.calm = true) : CallR X (.builtin "min") rMin2 := fun pins s σ H xs us Q I r ⟨i, j, e, q⟩ => call_min2 hc pins s σ H xs us Q I r ⟨i, j, e, by
  have : (if j < i then j else i) = min i j := by split <;> omega
  rw [this]; exact q⟩
theorem r_max2 {H : Hp} {Q : VK} {i j : Int} (k : Q (.int (max i j)) H) : rMax2 [.int i, .int j] H Q := ⟨i, j, rfl, k⟩
theorem r_min2 {H : Hp} {Q : VK} {i j : Int} (k : Q (.int (min i j)) H) : rMin2 [.int i, .int j] H Q := ⟨i, j, rfl, k⟩
def rLenS (K : PySem.W.Frag) : List V → Hp → VK → Prop := fun xs H Q => ∃ p ys, xs = [.ref p] ∧ (SqL K H p ys ∨ SqT K H p ys) ∧ Q (.int ys.length) H
theorem cb_len {X : Cx} : CallR X (.builtin "len") (rLenS X.K) := call_len_seq
theorem r_lenL {K : PySem.W.Frag} {H : Hp} {Q : VK} {p : Addr} {ys : List V} (h : SqL K H p ys) (k : Q (.int ys.length) H) : rLenS K [.ref p] H Q := ⟨p, ys, rfl, .inl h, k⟩
theorem r_lenT {K : PySem.W.Frag} {H : Hp} {Q : VK} {p : Addr} {ys : List V} (h : SqT K H p ys) (k : Q (.int ys.length) H) : rLenS K [.ref p] H Q := ⟨p, ys, rfl, .inr h, k⟩
theorem sqT_same {K : PySem.W.Frag} {H H' : Hp} {a : Addr} {xs : List V} (e : Same H H') (h : SqT K H a xs) : SqT K H' a xs := by
  rcases h with (h | ⟨o, h⟩) | h
  · exact .inl (.inl (e _ _ h))
  · exact .inl (.inr ⟨o, e _ _ h⟩)
  · exact .inr h
/-! ends -/
theorem r_rt {n b c : L2.St → Hp → Prop} {Q : VK} {v : V} {H : Hp} (k : Q v H) : (Ends.mk n Q b c).rt v H := k
theorem r_nx {n b c : L2.St → Hp → Prop} {Q : VK} {v : L2.St} {H : Hp} (k : n v H) : (Ends.mk n Q b c).nx v H := k
theorem r_bk {n b c : L2.St → Hp → Prop} {Q : VK} {v : L2.St} {H : Hp} (k : b v H) : (Ends.mk n Q b c).bk v H := k
theorem r_ct {n b c : L2.St → Hp → Prop} {Q : VK} {v : L2.St} {H : Hp} (k : c v H) : (Ends.mk n Q b c).ct v H := k
theorem at_map {ns : List Int} {k : Nat} (h : k < ns.length) : atI (ns.map V.int) (k : Int) = some (.int ns[k]) := atI_nat (by simp [h])
end Bs

set_option Elab.async false
set_option linter.all false
set_option maxRecDepth 100000
set_option maxHeartbeats 2000000
/-! Calls of defs and classes with any binding of arguments; what is raised is wished for at the caller's slots. -/
namespace Bs
open PySem PySem.Spec PySem.Calls PyProof.Rows L2
/-- how a call with n positional values and keywords ks binds -/
def Cb (K : PySem.W.Frag) (fd : FuncData) (ps : List Str) (n : Nat) (ks : List Str) (gV : List V → List V → List V) : Prop := ∃ g, KBn K fd ps n ks g gV
def tFnS (n m : Nat) (sp : Sp) (gV : List V → List V → List V) (E : L2.St → XK) (t tk : TA) : TE := fun σ H Q => t σ H fun vs H1 => tk σ H1 fun zs H2 => vs.length = n ∧ zs.length = m ∧ sp (gV vs zs) H2 Q (E σ)
def tMkS (C : Addr) (n m : Nat) (sp : Sp) (gV : List V → List V → List V) (E : L2.St → XK) (t tk : TA) : TE := fun σ H Q => t σ H fun vs H1 => tk σ H1 fun zs H2 => vs.length = n ∧ zs.length = m ∧
  ∀ x dx, H2 x = none → H2 dx = none → dx ≠ x → sp (gV (.ref x :: vs) zs) (upd (upd H2 dx (.own x)) x (.ins C dx [])) (fun v H3 => v = .non ∧ Q (.ref x) H3) (E σ)
theorem psE0 {X : Cx} {σ : L2.St} : PassesAt CX0 X σ E0 := fun _ _ _ _ _ _ h => h.elim
theorem psL0 {X : Cx} {σ : L2.St} : PassesAt (L2.CX X.prog X.w) X σ E0 := fun pins H s e s' I c => passL pins σ H s e s' I c
section
variable {X : Cx} {CX : CXT} {k n : Nat} {f C : Addr} {fd : FuncData} {ps ks : List Str} {sp : Sp} {E : L2.St → XK} {x : Str} {p pos : Pos} {e : Expr} {es : List Expr} {kws : List Keyword} {t tk : TA} {gV : List V → List V → List V}
theorem go_fn {pins : List (Addr × Obj)} {σ : L2.St} {H : Hp} {s : Shared} {Q : VK} {us ws : List Value} {vs zs : List V} (F : FnOk X.prog X.w X.K X.mg X.base CX k f fd ps sp) (hr : Room k X.A) (hb : Cb X.K fd ps n ks gV) (hx : PassesAt CX X σ (E σ))
    (I : Inv X pins σ H s) (r : Vals vs us) (rz : Vals zs ws) (l1 : vs.length = n) (l2 : zs.length = ks.length) (h : sp (gV vs zs) H Q (E σ)) : wpAny (model X.prog X.w) X.A (call (.ref f) us (ks.zip ws)) (EP X pins σ Q) X.xe s := by
  obtain ⟨g, hb⟩ := hb
  have bt := hb.to s us ws I.kIn (by rw [← r.length, l1]) (by rw [← rz.length, l2])
  apply wpAny_call
  apply codeAny_mono (F.run X.A X.stack s H ⟨us, ks.zip ws⟩ (g us ws) (gV vs zs) Q (E σ) hr I.env0 bt (hb.rel r rz) h)
  intro rs s2 q
  cases rs with
  | error er => exact hx pins H s er s2 I q
  | ok fl =>
    cases fl with
    | ret u => exact I.after q
    | next => exact q.elim
    | brk => exact q.elim
    | cont => exact q.elim
theorem go_mk {pins : List (Addr × Obj)} {σ : L2.St} {H : Hp} {s : Shared} {Q : VK} {us ws : List Value} {vs zs : List V} (M : Mk X.K C f) (F : FnOk X.prog X.w X.K X.mg X.base CX k f fd ps sp) (hr : Room (k + 1) X.A) (hb : Cb X.K fd ps (n + 1) ks gV)
    (hx : PassesAt CX X σ (E σ)) (I : Inv X pins σ H s) (r : Vals vs us) (rz : Vals zs ws) (l1 : vs.length = n) (l2 : zs.length = ks.length)
    (h : ∀ x dx, H x = none → H dx = none → dx ≠ x → sp (gV (.ref x :: vs) zs) (upd (upd H dx (.own x)) x (.ins C dx [])) (fun v H2 => v = .non ∧ Q (.ref x) H2) (E σ)) :
    wpAny (model X.prog X.w) X.A (call (.ref C) us (ks.zip ws)) (EP X pins σ Q) X.xe s := by
  obtain ⟨g, hb⟩ := hb
  have fr1 : H (s.heap.objs.size + 1) = none := I.hok.fresh (Nat.le_succ _)
  have fr0 : H s.heap.objs.size = none := I.hok.fresh (Nat.le_refl _)
  have hs := h _ _ fr1 fr0 (Nat.ne_of_lt (Nat.lt_succ_self _))
  have J := Inv.made (C := C) I
  have rv : Vals (V.ref (s.heap.objs.size + 1) :: vs) (Value.ref (s.heap.objs.size + 1) :: us) := .cons rfl r
  have bt := hb.to _ (Value.ref (s.heap.objs.size + 1) :: us) ws J.kIn (by rw [List.length_cons, ← r.length, l1]) (by rw [← rz.length, l2])
  have run := F.run _ X.stack _ _ ⟨Value.ref (s.heap.objs.size + 1) :: us, ks.zip ws⟩ _ _ _ (E σ) (hr.make C us (ks.zip ws)) (J.env0.make C us (ks.zip ws)) bt (hb.rel rv rz) hs
  apply wpAny_call
  apply make_map (f := f) I.kIn M.makes M.init (beq_iff_eq.mp M.fn)
  apply codeAny_mono run
  intro rs s2 q
  cases rs with
  | error er => exact hx pins _ _ er s2 J q
  | ok fl =>
    cases fl with
    | next => exact q.elim
    | brk => exact q.elim
    | cont => exact q.elim
    | ret u =>
      obtain ⟨v, H2, J2, ru, ev, q2⟩ := J.after q
      subst ev
      exact ⟨ru, V.ref (s.heap.objs.size + 1), H2, J2, rfl, q2⟩
/-- f(e, .., k = v, ..) -/
theorem pe_fnS (F : FnOk X.prog X.w X.K X.mg X.base CX k f fd ps sp) (hr : Room k X.A) (hm : X.mg x = some (.ref f)) (hk : PySem.W.keepIn X.K (.ref f) = true) (hb : Cb X.K fd ps n ks gV) (hx : ∀ σ, PassesAt CX X σ (E σ))
    (ha : PA X (e :: es) t) (hkw : PK X kws tk) (hg : Gl X x := by rfl) (hall : (backToKw pos (keywordEach kws X.env)).all (·.1.isSome) = true := by rfl) (hks : (backToKw pos (keywordEach kws X.env)).filterMap (·.1) = ks := by rfl)
    (hdb : (x == ("__debug__" : Str)) = false := by decide) (he : starEach (e :: es) X.env = (false, eval e X.env) :: starEach es X.env := by rfl)
    (hpl : ((backTo pos (starEach (e :: es) X.env)).any (·.1) || (backToKw pos (keywordEach kws X.env)).any (·.1.isNone)) = false := by rfl) :
    PE X (.Call (.Name x p) (e :: es) kws pos) (tFnS n ks.length sp gV E t tk) := by
  constructor
  intro pins s σ H Q I h
  apply wpAny_Call_Name_kw
  apply ld_glob I hg hm _ hdb
  refine PySem.W.callWith_KW (h₀ := X.base) I.ok.mod.kin hk hall (thn (ha.run pos pins s σ H _ I h) ?_) hpl he
  rintro us s1 ⟨vs, H1, I1, r, q⟩
  refine thn (hkw.run pos pins s1 σ H1 _ I1 q) ?_
  rintro ws s2 ⟨zs, H2, I2, rz, l1, l2, q2⟩
  refine ⟨I2.kIn, ?_⟩
  rw [hks]
  exact go_fn F hr hb (hx σ) I2 r rz l1 l2 q2
/-- f(k = v, ..) -/
theorem pe_fnS0 (F : FnOk X.prog X.w X.K X.mg X.base CX k f fd ps sp) (hr : Room k X.A) (hm : X.mg x = some (.ref f)) (hk : PySem.W.keepIn X.K (.ref f) = true) (hb : Cb X.K fd ps 0 ks gV) (hx : ∀ σ, PassesAt CX X σ (E σ))
    (hkw : PK X kws tk) (hg : Gl X x := by rfl) (hall : (backToKw pos (keywordEach kws X.env)).all (·.1.isSome) = true := by rfl) (hks : (backToKw pos (keywordEach kws X.env)).filterMap (·.1) = ks := by rfl)
    (hdb : (x == ("__debug__" : Str)) = false := by decide) (hpl : ((backTo pos (starEach [] X.env)).any (·.1) || (backToKw pos (keywordEach kws X.env)).any (·.1.isNone)) = false := by rfl) :
    PE X (.Call (.Name x p) [] kws pos) (tFnS 0 ks.length sp gV E tNil tk) := by
  constructor
  intro pins s σ H Q I h
  apply wpAny_Call_Name_kw
  apply ld_glob I hg hm _ hdb
  refine PySem.W.callWith_KW0 (h₀ := X.base) I.ok.mod.kin hk hall ?_ hpl
  refine thn (hkw.run pos pins s σ H _ I h) ?_
  rintro ws s2 ⟨zs, H2, I2, rz, l1, l2, q2⟩
  refine ⟨I2.kIn, ?_⟩
  rw [hks]
  exact go_fn (us := []) (vs := []) F hr hb (hx σ) I2 .nil rz rfl l2 q2
/-- C(e, .., k = v, ..) -/
theorem pe_mkS (M : Mk X.K C f) (F : FnOk X.prog X.w X.K X.mg X.base CX k f fd ps sp) (hr : Room (k + 1) X.A) (hm : X.mg x = some (.ref C)) (hb : Cb X.K fd ps (n + 1) ks gV) (hx : ∀ σ, PassesAt CX X σ (E σ)) (ha : PA X (e :: es) t) (hkw : PK X kws tk)
    (hg : Gl X x := by rfl) (hall : (backToKw pos (keywordEach kws X.env)).all (·.1.isSome) = true := by rfl) (hks : (backToKw pos (keywordEach kws X.env)).filterMap (·.1) = ks := by rfl)
    (hdb : (x == ("__debug__" : Str)) = false := by decide) (he : starEach (e :: es) X.env = (false, eval e X.env) :: starEach es X.env := by rfl)
    (hpl : ((backTo pos (starEach (e :: es) X.env)).any (·.1) || (backToKw pos (keywordEach kws X.env)).any (·.1.isNone)) = false := by rfl) :
    PE X (.Call (.Name x p) (e :: es) kws pos) (tMkS C n ks.length sp gV E t tk) := by
  constructor
  intro pins s σ H Q I h
  apply wpAny_Call_Name_kw
  apply ld_glob I hg hm _ hdb
  refine PySem.W.callWith_KW (h₀ := X.base) I.ok.mod.kin M.kp hall (thn (ha.run pos pins s σ H _ I h) ?_) hpl he
  rintro us s1 ⟨vs, H1, I1, r, q⟩
  refine thn (hkw.run pos pins s1 σ H1 _ I1 q) ?_
  rintro ws s2 ⟨zs, H2, I2, rz, l1, l2, q2⟩
  refine ⟨I2.kIn, ?_⟩
  rw [hks]
  exact go_mk M F hr hb (hx σ) I2 r rz l1 l2 q2
/-- C(k = v, ..) -/
theorem pe_mkS0 (M : Mk X.K C f) (F : FnOk X.prog X.w X.K X.mg X.base CX k f fd ps sp) (hr : Room (k + 1) X.A) (hm : X.mg x = some (.ref C)) (hb : Cb X.K fd ps (0 + 1) ks gV) (hx : ∀ σ, PassesAt CX X σ (E σ)) (hkw : PK X kws tk)
    (hg : Gl X x := by rfl) (hall : (backToKw pos (keywordEach kws X.env)).all (·.1.isSome) = true := by rfl) (hks : (backToKw pos (keywordEach kws X.env)).filterMap (·.1) = ks := by rfl)
    (hdb : (x == ("__debug__" : Str)) = false := by decide) (hpl : ((backTo pos (starEach [] X.env)).any (·.1) || (backToKw pos (keywordEach kws X.env)).any (·.1.isNone)) = false := by rfl) :
    PE X (.Call (.Name x p) [] kws pos) (tMkS C 0 ks.length sp gV E tNil tk) := by
  constructor
  intro pins s σ H Q I h
  apply wpAny_Call_Name_kw
  apply ld_glob I hg hm _ hdb
  refine PySem.W.callWith_KW0 (h₀ := X.base) I.ok.mod.kin M.kp hall ?_ hpl
  refine thn (hkw.run pos pins s σ H _ I h) ?_
  rintro ws s2 ⟨zs, H2, I2, rz, l1, l2, q2⟩
  refine ⟨I2.kIn, ?_⟩
  rw [hks]
  exact go_mk (us := []) (vs := []) M F hr hb (hx σ) I2 .nil rz rfl l2 q2
end
section
variable {K : PySem.W.Frag} {x qual : Str} {params : Arguments} {body : List Stmt} {scope : Scope} {dvs : List V} {f : Addr} {fd : FuncData} {ps : List Str}
/-- every parameter is written, by position or by keyword; whatever the defaults -/
theorem cb_all (F : FunD K x qual params body scope dvs [] f fd) (n : Nat) (ks : List Str) (g : {α : Type} → List α → List α → List α) (hrel : ∀ {vs zs : List V} {us ws : List Value}, Vals vs us → Vals zs ws → Vals (g vs zs) (g us ws))
    (h : ∀ (dV kV doc pm : Value) (an : Option Addr) (cdv ct : Value) (us ws : List Value), us.length = n → ws.length = ks.length → bindArgs (PySem.W.fnOf x qual params body scope dV kV doc pm an cdv ct) ⟨us, ks.zip ws⟩ = pure (ps.zip (g us ws))) : Cb K fd ps n ks g := by
  obtain ⟨oc, od, dV, kV, doc, pm, an, cdv, ct, osl, rfl, lk, hcd, hD, hK⟩ := F.ex
  refine ⟨g, ⟨fun s us ws X l1 l2 => ?_, fun r1 r2 => hrel r1 r2⟩⟩
  exact .of_eq (h dV kV doc pm an cdv ct us ws l1 l2)
/-- some of the defaults fill up -/
theorem cb_dfl (F : FunD K x qual params body scope dvs [] f fd) (n : Nat) (ks : List Str) (g : {α : Type} → List α → List α → List α → List α) (hd : dvs ≠ [])
    (hrel : ∀ {vs ds zs : List V} {us its ws : List Value}, Vals vs us → Vals ds its → Vals zs ws → Vals (g vs ds zs) (g us its ws))
    (h : ∀ (T : Addr) (kV doc pm : Value) (an : Option Addr) (cdv ct : Value) (us its ws : List Value), us.length = n → its.length = dvs.length → ws.length = ks.length →
      ∃ k, bindArgs (PySem.W.fnOf x qual params body scope (.ref T) kV doc pm an cdv ct) ⟨us, ks.zip ws⟩ = seqItems? (.ref T) >>= k ∧ k (some its.toArray) = pure (ps.zip (g us its ws))) : Cb K fd ps n ks (fun vs zs => g vs dvs zs) := by
  obtain ⟨its, hb⟩ := F.kbindsD n ks g hd hrel h
  exact ⟨_, hb⟩
end
end Bs

set_option Elab.async false
set_option linter.all false
set_option maxRecDepth 100000
set_option maxHeartbeats 2000000
/-! Own exception classes whose __init__ stores one value: raised, caught, asked. -/
namespace Bs
open PySem PySem.Spec PySem.Calls PyProof.Rows L2
/-- BitError.__init__: the value is stored itself -/
def sp_excInit (K : PySem.W.Frag) : Sp := fun vs H Q _ => ∃ (a C : Addr) (v : V), vs = [.ref a, v] ∧ OexC K C ∧ PySem.W.findIn K (.ref C) "value" = some none ∧ H a = some (exo a C none) ∧
  ∀ dx, H dx = none → dx ≠ a → Q .non (upd (upd H dx (exd dx [("value", v)])) a (exo a C (some dx)))
/-- what the written part tells of such a class -/
structure Xc (P : Program) (w : World) (K : PySem.W.Frag) (mg : Str → Option Value) (base : Heap) (x : Str) (C : Addr) : Prop where
  gC : mg x = some (.ref C)
  T : OexC K C
  nv : PySem.W.findIn K (.ref C) "value" = some none
  xf : XfC K C
  ec : ExcC K C
  ini : ∃ (fI : Addr) (fd : FuncData), PySem.W.findIn K (.ref C) "__init__" = some (some (.ref fI)) ∧ PySem.W.typeIn K (.ref fI) = some (.type "function") ∧ FnOk P w K mg base CX0 1 fI fd ["self", "value"] (sp_excInit K) ∧ Binds K fd ["self", "value"] []
def tMkX (C : Addr) (ta : TA) : L2.St → Hp → XK → Prop := fun σ H Q => ta σ H fun vs H1 => ∃ v, vs = [v] ∧ ∀ d, H1 d = none → Q (.ref C) (some d) (upd H1 d (.xd [("value", v)]))
section
variable {X : Cx} {x : Str} {C : Addr} {p pos : Pos} {e : Expr} {ta : TA} {j : Nat} {W : WX}
theorem pmk_mono {e : Expr} {t t' : L2.St → Hp → XK → Prop} (h : PMk X e t) (hm : ∀ σ H Q, t' σ H Q → t σ H Q) : PMk X e t' := fun pins s σ H Q I q => h pins s σ H Q I (hm σ H Q q)
theorem pmk_x (c : Xc X.prog X.w X.K X.mg X.base x C) (hr : Room j X.A) (hj : 2 ≤ j) (ha : PA X [e] ta) (hmono : ∀ σ H (Q Q' : List V → Hp → Prop), (∀ vs H1, Q vs H1 → Q' vs H1) → ta σ H Q → ta σ H Q') (hg : Gl X x := by rfl) (hdb : (x == ("__debug__" : Str)) = false := by decide)
    (he : starEach (e :: []) X.env = (false, eval e X.env) :: starEach [] X.env := by rfl) (hpl : (backTo pos (starEach [] X.env)).any (·.1) = false := by rfl) : PMk X (.Call (.Name x p) [e] [] pos) (tMkX C ta) := by
  obtain ⟨fI, fd, h1, h2, F, b⟩ := c.ini
  refine pmk_mono (pmk_oex c.T h1 h2 F (hr.mono hj) b .nil pass0 hg c.gC ha hdb he hpl) ?_
  intro σ H Q h
  refine hmono σ H _ _ ?_ h
  rintro vs H1 ⟨v, rfl, q⟩
  refine ⟨by show 1 ≤ 1000; decide, fun a ha1 => ?_⟩
  refine ⟨a, C, v, rfl, c.T, c.nv, upd_same, fun dx hdx ne => ?_⟩
  rw [upd_ne ne] at hdx
  refine ⟨rfl, dx, [("value", v)], upd_same, by rw [upd_ne ne, upd_same], hdx, ?_⟩
  have eq : upd (L2.del (upd (upd (upd H1 a (exo a C none)) dx (exd dx [("value", v)])) a (exo a C (some dx))) a) dx (.xd [("value", v)]) = upd H1 dx (.xd [("value", v)]) := by
    funext b
    by_cases hb : b = dx
    · rw [hb, upd_same, upd_same]
    · rw [upd_ne hb, upd_ne hb]
      by_cases hba : b = a
      · rw [hba, L2.del_same, ha1]
      · rw [L2.del_ne hba, upd_ne hba, upd_ne hb, upd_ne hba]
  rw [eq]
  exact q dx hdx
/-- raise X(e) -/
theorem ps_rx (hc : X.calm = true) (tk : Takes X W) (c : Xc X.prog X.w X.K X.mg X.base x C) (hr : Room j X.A) (hj : 2 ≤ j) (ha : PA X [e] ta) (hmono : ∀ σ H (Q Q' : List V → Hp → Prop), (∀ vs H1, Q vs H1 → Q' vs H1) → ta σ H Q → ta σ H Q') {pos' : Pos} (hg : Gl X x := by rfl) (hdb : (x == ("__debug__" : Str)) = false := by decide)
    (he : starEach (e :: []) X.env = (false, eval e X.env) :: starEach [] X.env := by rfl) (hpl : (backTo pos (starEach [] X.env)).any (·.1) = false := by rfl) : PS X (.Raise (some (.Call (.Name x p) [e] [] pos)) none pos') (fun _ σ H => tMkX C ta σ H fun cls d H' => W cls d σ H') :=
  ps_raise hc tk (pmk_x c hr hj ha hmono hg hdb he hpl)
end
/-! monotone readings of arguments -/
def MoE (te : TE) : Prop := ∀ σ H (Q Q' : VK), (∀ v H1, Q v H1 → Q' v H1) → te σ H Q → te σ H Q'
def MoA (ta : TA) : Prop := ∀ σ H (Q Q' : List V → Hp → Prop), (∀ vs H1, Q vs H1 → Q' vs H1) → ta σ H Q → ta σ H Q'
theorem mo_var {i : Nat} : MoE (tVar i) := fun σ H Q Q' m ⟨v, e, q⟩ => ⟨v, e, m v H q⟩
theorem mo_c {v : V} : MoE (tC v) := fun σ H Q Q' m q => m v H q
theorem mo_nil : MoA tNil := fun σ H Q Q' m q => m [] H q
theorem mo_cons {te : TE} {ta : TA} (h : MoE te) (g : MoA ta) : MoA (tCons te ta) := fun σ H Q Q' m q => h σ H _ _ (fun v H1 q1 => g σ H1 _ _ (fun vs H2 q2 => m _ _ q2) q1) q
theorem mo_tup {ta : TA} (h : MoA ta) : MoE (tTup ta) := fun σ H Q Q' m q => h σ H _ _ (fun vs H1 q1 => ⟨q1.1, fun p hp => m _ _ (q1.2 p hp)⟩) q
theorem mo_lst {ta : TA} (h : MoA ta) : MoE (tLst ta) := fun σ H Q Q' m q => h σ H _ _ (fun vs H1 q1 => ⟨q1.1, fun p hp => m _ _ (q1.2 p hp)⟩) q
/-! isinstance of the exception that a suite holds -/
def rIsX (K : PySem.W.Frag) (cls : Value) (d : Option Addr) (a : Addr) : List V → Hp → VK → Prop := fun xs H Q => ∃ (D dd C : Addr) (fs : List (Str × V)) (b : Bool), cls = .ref D ∧ d = some dd ∧ xs = [.ref a, .ref C] ∧ H dd = some (.xd fs) ∧ ExcC K D ∧
  PySem.W.kitOne K (.ref D) (.ref C) = some b ∧ Q (.bl b) H
theorem call_isX {X : Cx} {a : Addr} {oe : Obj} {cls : Value} {d : Option Addr} {pn : List (Addr × Obj)} (hz : Zc cls d oe) (hf : ∃ vs, oe.data = .fields vs) : CallR (X.suite a ((a, oe) :: pn)) (.builtin "isinstance") (rIsX X.K cls d a) := by
  intro pins s σ H xs us Q I r h
  obtain ⟨D, dd, C, fs, b, rfl, rfl, rfl, hdd, ec, hk, q⟩ := h
  cases r with
  | cons rx rr =>
    cases rr with
    | cons rt rr2 =>
      cases rr2
      cases rx
      cases rt
      obtain ⟨hget, _⟩ := I.pin (a, oe) (List.mem_append_left _ List.mem_cons_self)
      obtain ⟨vs, hv⟩ := hf
      have hx : ObjOk X.prog X.w H s.heap dd (.xd fs) := I.hok dd _ hdd
      obtain ⟨mA, hns, _⟩ := hx
      obtain ⟨od, ho, _⟩ := lookIn_ns hns
      have J : PySem.W.InstAt s.heap a oe D (some od) := ⟨hget, hz.1, by unfold PySem.W.notCls; rw [hv] <;> rfl, by rw [hz.2]; exact ho⟩
      have hcl : (PySem.W.clsIn X.K D).isSome = true := by
        obtain ⟨cd, hc, _⟩ := PySem.W.any_some ec.hd
        rw [hc]
        rfl
      exact PySem.W.kia_one (PySem.W.kitx_exc hcl ec.hg ec.hk ec.hs ec.ha ec.hn ec.ht ec.hm) I.kIn J hk (fun z => nomatch z) fun tk => ⟨.bl b, H, I.kept (t' := tk) fun _ _ z => z, rfl, q⟩
end Bs

set_option Elab.async false
set_option linter.all false
set_option maxRecDepth 100000
set_option maxHeartbeats 2000000
/-! Owned objects: F what stands still, L what this body may change or has made. -/
namespace Bs
open PySem PySem.Spec PySem.Calls PyProof.Rows L2
structure Own (F H : Hp) (L : List (Addr × HO)) : Prop where
  sub : Same F H
  own : ∀ (i : Nat) (a : Addr) (o : HO), L[i]? = some (a, o) → H a = some o ∧ F a = none
  nd : (L.map (·.1)).Nodup
/-- just the object at a may have changed, to o; others may be new -/
structure Mut (a : Addr) (o : HO) (H H' : Hp) : Prop where
  here : H' a = some o
  keep : ∀ b u, b ≠ a → H b = some u → H' b = some u
theorem mem_of_get {L : List (Addr × HO)} {i : Nat} {a : Addr} {o : HO} (h : L[i]? = some (a, o)) : (a, o) ∈ L := List.mem_of_getElem? h
section
variable {F H H' : Hp} {L : List (Addr × HO)} {a p : Addr} {o u : HO}
theorem Own.start (H : Hp) : Own H H [] := ⟨Same.refl H, fun i a o h => by simp at h, List.nodup_nil⟩
theorem Own.take1 (h : H a = some o) : Own (fun b => if b = a then none else H b) H [(a, o)] := by
  refine ⟨fun b u hb => ?_, fun i b u hi => ?_, by simp⟩
  · by_cases e : b = a
    · rw [if_pos e] at hb; cases hb
    · rw [if_neg e] at hb; exact hb
  · cases i with
    | zero => simp at hi; obtain ⟨rfl, rfl⟩ := hi; exact ⟨h, if_pos rfl⟩
    | succ n => simp at hi
theorem Own.get (h : Own F H L) (i : Nat) (e : L[i]? = some (a, o)) : H a = some o := (h.own i a o e).1
theorem Own.gets (h : Own F H L) (e : F a = some o) : H a = some o := h.sub a o e
theorem Own.ne (h : Own F H L) (i j : Nat) {b : Addr} (e1 : L[i]? = some (a, o)) (e2 : L[j]? = some (b, u)) (hij : i ≠ j) : a ≠ b := by
  intro z
  have n := h.nd
  rw [List.nodup_iff_pairwise_ne, List.pairwise_iff_getElem] at n
  have l1 := (List.getElem?_eq_some_iff.mp e1)
  have l2 := (List.getElem?_eq_some_iff.mp e2)
  obtain ⟨h1, g1⟩ := l1
  obtain ⟨h2, g2⟩ := l2
  rcases Nat.lt_or_gt_of_ne hij with q | q
  · exact n i j (by simpa using h1) (by simpa using h2) q (by simp [g1, g2, z])
  · exact n j i (by simpa using h2) (by simpa using h1) q (by simp [g1, g2, z])
theorem Own.neF (h : Own F H L) (i : Nat) {b : Addr} (e : L[i]? = some (a, o)) (hb : F b = some u) : b ≠ a := fun z => by
  have := (h.own i a o e).2
  rw [← z, hb] at this
  cases this
theorem Own.same (h : Own F H L) (s : Same H H') : Own F H' L := ⟨h.sub.trans s, fun i a o e => ⟨s _ _ (h.own i a o e).1, (h.own i a o e).2⟩, h.nd⟩
theorem Own.new (h : Own F H L) (n : H p = none) : Own F (upd H p o) ((p, o) :: L) := by
  have np : ∀ {b : Addr} {u : HO}, H b = some u → b ≠ p := fun e => ne_of_none e n
  refine ⟨fun b u e => ?_, fun i b u e => ?_, ?_⟩
  · rw [upd_ne (np (h.sub b u e))]; exact h.sub b u e
  · cases i with
    | zero =>
      simp at e; obtain ⟨rfl, rfl⟩ := e
      refine ⟨upd_same, ?_⟩
      cases q : F p with
      | none => rfl
      | some v => exact absurd rfl (np (h.sub p v q))
    | succ i =>
      have e' : L[i]? = some (b, u) := by simpa using e
      exact ⟨by rw [upd_ne (np (h.own i b u e').1)]; exact (h.own i b u e').1, (h.own i b u e').2⟩
  · rw [List.map_cons, List.nodup_cons]
    refine ⟨fun m => ?_, h.nd⟩
    obtain ⟨⟨b, u⟩, hm, e⟩ := List.mem_map.mp m
    obtain ⟨i, hi⟩ := List.getElem?_of_mem hm
    exact np (h.own i b u hi).1 e
theorem Own.mut (h : Own F H L) (i : Nat) (e : L[i]? = some (a, u)) (m : Mut a o H H') : Own F H' (L.set i (a, o)) := by
  have hi : i < L.length := (List.getElem?_eq_some_iff.mp e).1
  refine ⟨fun b v hb => m.keep b v (h.neF i e hb) (h.sub b v hb), fun j b v hj => ?_, ?_⟩
  · by_cases hij : i = j
    · subst hij
      rw [List.getElem?_set_self hi] at hj
      cases hj
      exact ⟨m.here, (h.own i _ _ e).2⟩
    · rw [List.getElem?_set_ne hij] at hj
      exact ⟨m.keep b v (h.ne j i hj e (Ne.symm hij)) (h.own j b v hj).1, (h.own j b v hj).2⟩
  · have : (L.set i (a, o)).map (·.1) = L.map (·.1) := by
      rw [List.map_set]
      apply List.ext_getElem?
      intro j
      by_cases hij : i = j
      · subst hij
        rw [List.getElem?_set_self (by simpa using hi), List.getElem?_map, e]
        rfl
      · rw [List.getElem?_set_ne hij]
    rw [this]; exact h.nd
theorem mut_upd : Mut a o H (upd H a o) := ⟨upd_same, fun b u n e => by rw [upd_ne n]; exact e⟩
theorem Own.put (h : Own F H L) (i : Nat) (e : L[i]? = some (a, u)) : Own F (upd H a o) (L.set i (a, o)) := h.mut i e mut_upd
theorem Own.drop {x : Addr × HO} (h : Own F H (x :: L)) : Own F H L := ⟨h.sub, fun i a o e => h.own (i + 1) a o (by simpa using e), (List.nodup_cons.mp h.nd).2⟩
theorem Own.frz (h : Own F H ((p, o) :: L)) : Own (upd F p o) H L ∧ Same F (upd F p o) := by
  have hp := h.own 0 p o rfl
  refine ⟨⟨fun b u e => ?_, fun i b u e => ?_, (List.nodup_cons.mp h.nd).2⟩, fun b u e => ?_⟩
  · by_cases q : b = p
    · subst q; rw [upd_same] at e; cases e; exact hp.1
    · rw [upd_ne q] at e; exact h.sub b u e
  · have e' : ((p, o) :: L)[i + 1]? = some (b, u) := by simpa using e
    have nb : b ≠ p := h.ne (i + 1) 0 e' rfl (by omega)
    exact ⟨(h.own (i + 1) b u e').1, by rw [upd_ne nb]; exact (h.own (i + 1) b u e').2⟩
  · rw [upd_ne (ne_of_none e hp.2)]; exact e
theorem Own.fresh (h : Own F H L) (n : H p = none) : F p = none := by
  cases e : F p with
  | none => rfl
  | some u => rw [h.sub p u e] at n; cases n
theorem Own.toSame (h : Own F H L) : Same F H := h.sub
/-- what was ahead of the take is behind it, but for a -/
theorem Own.mut_of {H0 : Hp} {i : Nat} (h : Own (fun b => if b = a then none else H0 b) H L) (e : L[i]? = some (a, o)) : Mut a o H0 H := ⟨h.get i e, fun b u n hb => h.sub b u (by show (if b = a then none else H0 b) = some u; rw [if_neg n]; exact hb)⟩
/-! readings with owned objects -/
variable {Q : VK} {K : PySem.W.Frag} {A : Prop}
theorem o_tup {xs : List V} (h : Own F H L) (z : xs.length.ble 1000 = true) (k : ∀ p H', H p = none → Own F H' ((p, .tup xs) :: L) → Q (.ref p) H') : cTup Q xs H :=
  ⟨Nat.le_trans (Nat.le_of_ble_eq_true z) (by decide), fun p n => k p _ n (h.new n)⟩
theorem o_lst {xs : List V} (h : Own F H L) (z : xs.length.ble 1000 = true) (k : ∀ p H', H p = none → Own F H' ((p, .lst xs) :: L) → Q (.ref p) H') : cLst Q xs H :=
  ⟨Nat.le_trans (Nat.le_of_ble_eq_true z) (by decide), fun p n => k p _ n (h.new n)⟩
theorem o_ixL {i : Nat} {xs : List V} {k : Int} {v : V} (h : Own F H L) (e : L[i]? = some (a, .lst xs)) (g : atI xs k = some v) (q : Q v H) : rIxL K (.ref a) (.int k) H Q := r_ixL (SqL.of (h.get i e)) g q
theorem o_ixT {i : Nat} {xs : List V} {k : Int} {v : V} (h : Own F H L) (e : L[i]? = some (a, .tup xs)) (g : atI xs k = some v) (q : Q v H) : rIxT K (.ref a) (.int k) H Q := r_ixT (SqT.of (h.get i e)) g q
theorem o_setL {i j : Nat} {xs : List V} {k : Int} {v : V} {R : Hp → Prop} (h : Own F H L) (e : L[i]? = some (a, .lst xs)) (g : ixN xs.length k = some j) (q : ∀ H', Own F H' (L.set i (a, .lst (xs.set j v))) → R H') : rSetL (.ref a) (.int k) v H R :=
  r_setL (h.get i e) g (q _ (h.put i e))
theorem o_unp {i n : Nat} {xs : List V} {g : TGs} {σ : L2.St} {R : L2.St → Hp → Prop} (h : Own F H L) (e : L[i]? = some (a, .tup xs)) (z : xs.length = n) (q : g xs σ H R) : gTup K n g (.ref a) σ H R := ⟨a, xs, rfl, SqT.of (h.get i e), z, q⟩
theorem o_unpF {n : Nat} {xs : List V} {g : TGs} {σ : L2.St} {R : L2.St → Hp → Prop} (h : SqT K H a xs) (z : xs.length = n) (q : g xs σ H R) : gTup K n g (.ref a) σ H R := ⟨a, xs, rfl, h, z, q⟩
theorem r_gnil {σ : L2.St} {R : L2.St → Hp → Prop} (q : R σ H) : gNil [] σ H R := ⟨rfl, q⟩
theorem r_gcons {t : TG} {w : TGs} {v : V} {r : List V} {σ : L2.St} {R : L2.St → Hp → Prop} (q : t v σ H fun σ' H' => w r σ' H' R) : gCons t w (v :: r) σ H R := ⟨v, r, rfl, q⟩
theorem r_gname {i : Nat} {v : V} {σ : L2.St} {R : L2.St → Hp → Prop} (q : R (σ.set i (some v)) H) : gName i v σ H R := q
end
end Bs
namespace Bs
open PySem PySem.Spec PySem.Calls PyProof.Rows L2
section
variable {α : Type} {a b c d e f g h i j : α} {l : List α}
theorem g0 : (a :: l)[0]? = some a := rfl
theorem g1 : (a :: b :: l)[1]? = some b := rfl
theorem g2 : (a :: b :: c :: l)[2]? = some c := rfl
theorem g3 : (a :: b :: c :: d :: l)[3]? = some d := rfl
theorem g4 : (a :: b :: c :: d :: e :: l)[4]? = some e := rfl
theorem g5 : (a :: b :: c :: d :: e :: f :: l)[5]? = some f := rfl
theorem g6 : (a :: b :: c :: d :: e :: f :: g :: l)[6]? = some g := rfl
theorem g7 : (a :: b :: c :: d :: e :: f :: g :: h :: l)[7]? = some h := rfl
theorem g8 : (a :: b :: c :: d :: e :: f :: g :: h :: i :: l)[8]? = some i := rfl
theorem g9 : (a :: b :: c :: d :: e :: f :: g :: h :: i :: j :: l)[9]? = some j := rfl
variable {a1 a2 a3 a4 a5 a6 a7 a8 a9 a10 : α}
theorem g10 : (a :: b :: c :: d :: e :: f :: g :: h :: i :: j :: a1 :: l)[10]? = some a1 := rfl
theorem g11 : (a :: b :: c :: d :: e :: f :: g :: h :: i :: j :: a1 :: a2 :: l)[11]? = some a2 := rfl
theorem g12 : (a :: b :: c :: d :: e :: f :: g :: h :: i :: j :: a1 :: a2 :: a3 :: l)[12]? = some a3 := rfl
theorem g13 : (a :: b :: c :: d :: e :: f :: g :: h :: i :: j :: a1 :: a2 :: a3 :: a4 :: l)[13]? = some a4 := rfl
theorem g14 : (a :: b :: c :: d :: e :: f :: g :: h :: i :: j :: a1 :: a2 :: a3 :: a4 :: a5 :: l)[14]? = some a5 := rfl
theorem g15 : (a :: b :: c :: d :: e :: f :: g :: h :: i :: j :: a1 :: a2 :: a3 :: a4 :: a5 :: a6 :: l)[15]? = some a6 := rfl
theorem g16 : (a :: b :: c :: d :: e :: f :: g :: h :: i :: j :: a1 :: a2 :: a3 :: a4 :: a5 :: a6 :: a7 :: l)[16]? = some a7 := rfl
theorem g17 : (a :: b :: c :: d :: e :: f :: g :: h :: i :: j :: a1 :: a2 :: a3 :: a4 :: a5 :: a6 :: a7 :: a8 :: l)[17]? = some a8 := rfl
end
end Bs
namespace Bs
open PySem PySem.Spec PySem.Calls PyProof.Rows L2
theorem Own.toSame_of {H H' : Hp} {L : List (Addr × HO)} (h : Own H H' L) : Same H H' := h.sub
end Bs
namespace Bs
open PySem PySem.Spec PySem.Calls PyProof.Rows L2
section
variable {F H H' : Hp} {L : List (Addr × HO)} {a p : Addr} {o u : HO} {Q : VK} {K : PySem.W.Frag} {D : Ends} {σ : L2.St}
def cXd (C : Addr) (Q : XK) (vs : List V) (H1 : Hp) : Prop := ∃ v, vs = [v] ∧ ∀ d, H1 d = none → Q (.ref C) (some d) (upd H1 d (.xd [("value", v)]))
theorem r_mkX {C : Addr} {ta : TA} {Q : XK} (k : ta σ H (cXd C Q)) : tMkX C ta σ H Q := k
theorem o_xd {C : Addr} {v : V} {Q : XK} (h : Own F H L) (k : ∀ d H', H d = none → Own F H' ((d, .xd [("value", v)]) :: L) → Q (.ref C) (some d) H') : cXd C Q [v] H := ⟨v, rfl, fun d n => k d _ n (h.new n)⟩
def cSf (K : PySem.W.Frag) (f : Str) (D : Ends) (σ : L2.St) (y x : V) (H2 : Hp) : Prop := ∃ a C dx fs, x = .ref a ∧ H2 a = some (.ins C dx fs) ∧ Cls K C ∧ NoAttr K C f ∧ fs.length < 1000 ∧ D.nx σ (upd H2 a (.ins C dx (putF f y fs)))
theorem r_sfld {ta tv : TE} {f : Str} (k : tv σ H fun y H1 => ta σ H1 (cSf K f D σ y)) : sFld K ta tv f D σ H := k
theorem o_sfld {C dx : Addr} {fs : List (Str × V)} {f : Str} {y : V} {i : Nat} (h : Own F H L) (e : L[i]? = some (a, .ins C dx fs)) (cl : Cls K C) (n : NoAttr K C f) (z : fs.length.ble 900 = true) (k : ∀ H', Own F H' (L.set i (a, .ins C dx (putF f y fs))) → D.nx σ H') :
    cSf K f D σ y (.ref a) H := ⟨a, C, dx, fs, rfl, h.get i e, cl, n, by have := Nat.le_of_ble_eq_true z; omega, k _ (h.put i e)⟩
/-- a field of an owned instance, of one that stands still -/
theorem o_gfld {C dx : Addr} {fs : List (Str × V)} {f : Str} {v : V} {i : Nat} (h : Own F H L) (e : L[i]? = some (a, .ins C dx fs)) (cl : Cls K C) (n : NoAttr K C f) (l : fs.lookup f = some v) (k : Q v H) : cGf K f Q (.ref a) H := ⟨a, C, dx, fs, v, rfl, h.get i e, cl, n, l, k⟩
theorem o_gfldF {C dx : Addr} {fs : List (Str × V)} {f : Str} {v : V} (h : H a = some (.ins C dx fs)) (cl : Cls K C) (n : NoAttr K C f) (l : fs.lookup f = some v) (k : Q v H) : cGf K f Q (.ref a) H := ⟨a, C, dx, fs, v, rfl, h, cl, n, l, k⟩
end
theorem own_new {H H' : Hp} {p d : Addr} {o u : HO} {L : List (Addr × HO)} (h : Own (fun b => if b = p then none else H b) H' L) (i j : Nat) (e : L[i]? = some (d, u)) (e2 : L[j]? = some (p, o)) (hij : i ≠ j) : H d = none := by
  have n := h.ne i j e e2 hij
  have z := (h.own i d u e).2
  rw [if_neg n] at z
  exact z
section
variable {F H H' : Hp} {L : List (Addr × HO)} {a p d : Addr} {o u : HO}
/-- a further object, known to stand apart -/
theorem Own.newAt (h : Own F H L) (n : F d = none) (e : H d = some o) (ne : ∀ (i : Nat) (a : Addr) (u : HO), L[i]? = some (a, u) → d ≠ a) : Own F H ((d, o) :: L) := by
  refine ⟨h.sub, fun i b v hb => ?_, ?_⟩
  · cases i with
    | zero => simp at hb; obtain ⟨rfl, rfl⟩ := hb; exact ⟨e, n⟩
    | succ i => exact h.own i b v (by simpa using hb)
  · rw [List.map_cons, List.nodup_cons]
    refine ⟨fun m => ?_, h.nd⟩
    obtain ⟨⟨b, v⟩, hm, e2⟩ := List.mem_map.mp m
    obtain ⟨i, hi⟩ := List.getElem?_of_mem hm
    exact ne i b v hi e2.symm
theorem Own.newS (h : Own F H L) (n : H p = none) (s : Same H H') (e : H' p = some o) : Own F H' ((p, o) :: L) :=
  (h.same s).newAt (h.fresh n) e fun i b v hi z => by
    have := (h.own i b v hi).1
    rw [← z, n] at this
    cases this
theorem Own.mutnew {i : Nat} (h : Own F H L) (e : L[i]? = some (a, u)) (m : Mut a o H H') (n : H p = none) {v : HO} (ep : H' p = some v) : Own F H' ((p, v) :: L.set i (a, o)) := by
  have hi : i < L.length := (List.getElem?_eq_some_iff.mp e).1
  refine (h.mut i e m).newAt (h.fresh n) ep fun j b v hj z => ?_
  by_cases hij : i = j
  · subst hij
    rw [List.getElem?_set_self hi] at hj
    cases hj
    have := (h.own i _ _ e).1
    rw [← z, n] at this
    cases this
  · rw [List.getElem?_set_ne hij] at hj
    have := (h.own j b v hj).1
    rw [← z, n] at this
    cases this
end
end Bs
namespace Bs
open PySem PySem.Spec PySem.Calls PyProof.Rows L2
/-- new for the heap of the beginning, too -/
theorem Own.new0 {F H : Hp} {L : List (Addr × HO)} {p : Addr} {o : HO} {i : Nat} (h : Own F H L) (e : L[i]? = some (p, o)) : F p = none := (h.own i p o e).2
end Bs

set_option Elab.async false
set_option linter.all false
set_option maxRecDepth 100000
set_option maxHeartbeats 2000000
/-! repr of data: budgets; the caught exception's value. -/
namespace Bs
open PySem PySem.Spec PySem.Calls PyProof.Rows L2
/-- depth at most k, weight at most m -/
structure Rp (k m : Nat) (d : PyData) : Prop where
  sh : d.showable = true
  nd : d.hasDict = false
  dp : d.depth ≤ k
  lv : d.leavesShort 600 = true
  w : d.weight ≤ m
structure RpA (k m : Nat) (ds : List PyData) : Prop where
  sh : PyData.showableAll ds = true
  nd : PyData.hasDictAll ds = false
  dp : PyData.depthAll ds ≤ k
  lv : PyData.leavesShortAll 600 ds = true
  w : PyData.weightAll ds ≤ m
theorem Rp.sz {k m : Nat} {d : PyData} (h : Rp k m d) (hm : m ≤ 27000) : d.shown.length ≤ sizeLine := by
  have := PyData.shown_le 600 (by decide) d h.lv
  have w := h.w
  have e : sizeLine = 16777216 := by decide
  omega
theorem Rp.mono {k m k' m' : Nat} {d : PyData} (h : Rp k m d) (h1 : k ≤ k') (h2 : m ≤ m') : Rp k' m' d := ⟨h.sh, h.nd, Nat.le_trans h.dp h1, h.lv, Nat.le_trans h.w h2⟩
theorem RpA.mono {k m k' m' : Nat} {d : List PyData} (h : RpA k m d) (h1 : k ≤ k') (h2 : m ≤ m') : RpA k' m' d := ⟨h.sh, h.nd, Nat.le_trans h.dp h1, h.lv, Nat.le_trans h.w h2⟩
theorem pow_570 : (2 : Nat) ^ 1800 ≤ 10 ^ 570 := by decide +kernel
theorem rp_int {i : Int} (h : i.natAbs < 2 ^ 1800) : Rp 0 1802 (.int i) := by
  have h2 : i.natAbs.log2 < 1800 := PySem.Flt.log2_lt_of (by decide) h
  refine ⟨?_, ?_, ?_, ?_, ?_⟩
  · simp [PyData.showable]; omega
  · simp [PyData.hasDict]
  · simp [PyData.depth]
  · simp only [PyData.leavesShort, decide_eq_true_eq]
    have e := int_text_length_le10 (k := 570) (by decide) (Nat.lt_of_lt_of_le h pow_570)
    show (Str.ofString (toString i)).length ≤ 600
    rw [PySem.ofString_length]; omega
  · simp only [PyData.weight]; split <;> omega
theorem rp_intS {i : Int} (b : Nat) (h : i.natAbs < 2 ^ b) (h0 : 0 < b) (hb : b ≤ 1800) : Rp 0 (b + 2) (.int i) := by
  have h2 : i.natAbs.log2 < b := PySem.Flt.log2_lt_of h0 h
  have r := rp_int (i := i) (Nat.lt_of_lt_of_le h (Nat.pow_le_pow_right (by decide) hb))
  refine ⟨r.sh, r.nd, r.dp, r.lv, ?_⟩
  simp only [PyData.weight]; split <;> omega
theorem rp_bl {b : Bool} : Rp 0 1 (.bool b) := by
  refine ⟨?_, ?_, ?_, ?_, ?_⟩
  · simp [PyData.showable]
  · simp [PyData.hasDict]
  · simp [PyData.depth]
  · simp [PyData.leavesShort]
  · simp [PyData.weight]
theorem rp_non : Rp 0 1 .none := by
  refine ⟨?_, ?_, ?_, ?_, ?_⟩
  · simp [PyData.showable]
  · simp [PyData.hasDict]
  · simp [PyData.depth]
  · simp [PyData.leavesShort]
  · simp [PyData.weight]
theorem rpa_nil : RpA 0 0 [] := by
  refine ⟨?_, ?_, ?_, ?_, ?_⟩
  · simp [PyData.showableAll]
  · simp [PyData.hasDictAll]
  · simp [PyData.depthAll]
  · simp [PyData.leavesShortAll]
  · simp [PyData.weightAll]
theorem rpa_cons {k j m n : Nat} {d : PyData} {ds : List PyData} (h : Rp k m d) (g : RpA j n ds) : RpA (max k j) (m + n + 1) (d :: ds) := by
  refine ⟨?_, ?_, ?_, ?_, ?_⟩
  · simp [PyData.showableAll, h.sh, g.sh]
  · simp [PyData.hasDictAll, h.nd, g.nd]
  · have := h.dp; have := g.dp; simp only [PyData.depthAll]; omega
  · simp [PyData.leavesShortAll, h.lv, g.lv]
  · have := h.w; have := g.w; simp only [PyData.weightAll]; omega
theorem rp_list {k m : Nat} {ds : List PyData} (h : RpA k m ds) : Rp (k + 1) (m + 1) (.list ds) := by
  refine ⟨?_, ?_, ?_, ?_, ?_⟩
  · simp [PyData.showable, h.sh]
  · simp [PyData.hasDict, h.nd]
  · have := h.dp; simp only [PyData.depth]; omega
  · simp [PyData.leavesShort, h.lv]
  · have := h.w; simp only [PyData.weight]; omega
theorem rp_tup {k m : Nat} {ds : List PyData} (h : RpA k m ds) : Rp (k + 1) (m + 1) (.tuple ds) := by
  refine ⟨?_, ?_, ?_, ?_, ?_⟩
  · simp [PyData.showable, h.sh]
  · simp [PyData.hasDict, h.nd]
  · have := h.dp; simp only [PyData.depth]; omega
  · simp [PyData.leavesShort, h.lv]
  · have := h.w; simp only [PyData.weight]; omega
/-! budgets from above -/
def RpL (k m : Nat) (ds : List PyData) : Prop := ∀ d ∈ ds, Rp k m d
theorem rpl_nil {k m : Nat} : RpL k m [] := fun d h => by cases h
theorem rpl_cons {k m : Nat} {d : PyData} {ds : List PyData} (h : Rp k m d) (g : RpL k m ds) : RpL k m (d :: ds) := fun x hx => by
  rcases List.mem_cons.mp hx with e | e
  · rw [e]; exact h
  · exact g x e
theorem rpl_all {k m : Nat} : ∀ {ds : List PyData}, RpL k m ds → RpA k (ds.length * (m + 1)) ds
  | [], _ => rpa_nil.mono (Nat.zero_le _) (Nat.zero_le _)
  | d :: ds, h => by
    have a := rpa_cons (h d List.mem_cons_self) (rpl_all fun x hx => h x (List.mem_cons_of_mem _ hx))
    refine a.mono (by omega) ?_
    rw [List.length_cons, Nat.succ_mul]
    omega
theorem rq_len {n m : Nat} (h : Nat.ble (n + 1) m = true) : n * ((m - 1) / n - 1 + 1) + 1 ≤ m := by
  have h := Nat.le_of_ble_eq_true h
  by_cases z : n = 0
  · subst z; omega
  · have h1 : 1 ≤ (m - 1) / n := (Nat.le_div_iff_mul_le (by omega)).mpr (by omega)
    have h2 := Nat.mul_div_le (m - 1) n
    rw [Nat.sub_add_cancel h1]
    omega
theorem rq_list {k m : Nat} {ds : List PyData} (hk : Nat.ble 1 k = true) (hm : Nat.ble (ds.length + 1) m = true) (h : RpL (k - 1) ((m - 1) / ds.length - 1) ds) : Rp k m (.list ds) := by
  have := Nat.le_of_ble_eq_true hk
  exact (rp_list (rpl_all h)).mono (by omega) (rq_len hm)
theorem rq_tup {k m : Nat} {ds : List PyData} (hk : Nat.ble 1 k = true) (hm : Nat.ble (ds.length + 1) m = true) (h : RpL (k - 1) ((m - 1) / ds.length - 1) ds) : Rp k m (.tuple ds) := by
  have := Nat.le_of_ble_eq_true hk
  exact (rp_tup (rpl_all h)).mono (by omega) (rq_len hm)
theorem rq_int {k m : Nat} {i : Int} (h : i.natAbs < 2 ^ 70) (hm : Nat.ble 72 m = true) : Rp k m (.int i) := (rp_intS 70 h (by decide) (by decide)).mono (Nat.zero_le _) (Nat.le_of_ble_eq_true hm)
theorem rq_intW {k m : Nat} {i : Int} (h : i.natAbs < 2 ^ 110) (hm : Nat.ble 112 m = true) : Rp k m (.int i) := (rp_intS 110 h (by decide) (by decide)).mono (Nat.zero_le _) (Nat.le_of_ble_eq_true hm)
theorem rq_bl {k m : Nat} {b : Bool} (hm : Nat.ble 1 m = true) : Rp k m (.bool b) := rp_bl.mono (Nat.zero_le _) (Nat.le_of_ble_eq_true hm)
theorem rq_non {k m : Nat} (hm : Nat.ble 1 m = true) : Rp k m .none := rp_non.mono (Nat.zero_le _) (Nat.le_of_ble_eq_true hm)
theorem r_repr {K : PySem.W.Frag} {x : V} {d : PyData} {H : Hp} {Q : VK} (h : Dp K H x d) (rp : Rp 60 27000 d) (q : Q (.str d.shown) H) : rRepr K [x] H Q :=
  ⟨x, d, rfl, h, rp.sh, rp.nd, rp.dp, rp.sz (by decide), q⟩
/-! data of a heap -/
theorem dp_lst {K : PySem.W.Frag} {H : Hp} {a : Addr} {xs : List V} {ds : List PyData} (h : H a = some (.lst xs)) (g : DpAll K H xs ds) : Dp K H (.ref a) (.list ds) := .lst (SqL.of h) g
theorem dp_tup {K : PySem.W.Frag} {H : Hp} {a : Addr} {xs : List V} {ds : List PyData} (h : H a = some (.tup xs)) (g : DpAll K H xs ds) : Dp K H (.ref a) (.tuple ds) := .tup (SqT.of h) g
mutual
theorem dp_same {K : PySem.W.Frag} {H H' : Hp} (s : Same H H') : ∀ {v : V} {d : PyData}, Dp K H v d → Dp K H' v d
  | _, _, .non => .non
  | _, _, .bl b => .bl b
  | _, _, .int i => .int i
  | _, _, .str x => .str x
  | _, _, .lst h g => .lst (s.seq h) (dpa_same s g)
  | _, _, .tup h g => .tup (sqT_same s h) (dpa_same s g)
theorem dpa_same {K : PySem.W.Frag} {H H' : Hp} (s : Same H H') : ∀ {v : List V} {d : List PyData}, DpAll K H v d → DpAll K H' v d
  | _, _, .nil => .nil
  | _, _, .cons h g => .cons (dp_same s h) (dpa_same s g)
end
/-! the value of a caught exception -/
def tXv (K : PySem.W.Frag) (a : Addr) (cls : Value) (d : Option Addr) (f : Str) (te : TE) : TE := fun σ H Q => te σ H fun x H1 => x = .ref a ∧ ∃ (C dd : Addr) (fs : List (Str × V)) (v : V), cls = .ref C ∧ XfC K C ∧ PySem.W.findIn K (.ref C) f = some none ∧ d = some dd ∧ H1 dd = some (.xd fs) ∧ fs.lookup f = some v ∧ Q v H1
theorem pe_xv {X : Cx} {a : Addr} {oe : Obj} {cls : Value} {d : Option Addr} {pn : List (Addr × Obj)} {e : Expr} {te : TE} {pos : Pos} {n : Str} (mo : MoE te)
    (hz : Zc cls d oe) (hf : ∃ vs, oe.data = .fields vs) (he : PE (X.suite a ((a, oe) :: pn)) e te) (hb : attributeBase e n X.env (eval e X.env) = eval e X.env := by rfl) :
    PE (X.suite a ((a, oe) :: pn)) (.Attribute e n pos) (tXv X.K a cls d n te) := by
  refine ⟨fun pins s σ H Q I h => ?_⟩
  refine attr_of hb (thn (he.run pins s σ H _ I h) fun u s1 hh => ?_)
  obtain ⟨x, H1, I1, rx, ex, C, dd, fs, v, ec, T, hno, ed, ea, l, q⟩ := hh
  subst ex
  obtain rfl : u = Value.ref a := rx
  subst ec
  subst ed
  obtain ⟨ha, _⟩ := I1.pin (a, oe) (List.mem_append_left _ List.mem_cons_self)
  obtain ⟨vs, hd⟩ := hf
  have hx : ObjOk X.prog X.w H1 s1.heap dd (.xd fs) := I1.hok dd _ ea
  obtain ⟨mA, hns, hr⟩ := hx
  obtain ⟨od, ho, hl⟩ := lookIn_ns hns
  obtain ⟨u, hu, ru⟩ := RelO.some_of (v := v) (o := mA n) (by rw [← l]; exact hr n)
  have J : PySem.W.InstAt s1.heap a oe C (some od) := ⟨ha, hz.1, by unfold PySem.W.notCls; rw [hd] <;> rfl, by rw [hz.2]; exact ho⟩
  exact HandSPX.exc_get I1.kIn J T.ga T.gg T.exC (PySem.W.findObj_own T.hdC hno rfl (by rw [hl, hu])) (handed_of ru) ⟨v, H1, I1.tok _, ru, q⟩
theorem r_xv {K : PySem.W.Frag} {a C dd : Addr} {f : Str} {te : TE} {σ : L2.St} {H : Hp} {Q : VK} (k : te σ H fun x H1 => x = .ref a ∧ ∃ (D dd' : Addr) (fs : List (Str × V)) (v : V), Value.ref C = .ref D ∧ XfC K D ∧ PySem.W.findIn K (.ref D) f = some none ∧ some dd = some dd' ∧ H1 dd' = some (.xd fs) ∧ fs.lookup f = some v ∧ Q v H1) : tXv K a (.ref C) (some dd) f te σ H Q := k
end Bs
namespace Bs
open PySem PySem.Spec PySem.Calls PyProof.Rows L2
/-! properties -/
structure PrC (P : Program) (w : World) (K : PySem.W.Frag) (mg : Str → Option Value) (base : Heap) (CX : CXT) (C : Addr) (f : Str) (k : Nat) (sp : Sp) : Prop where
  cl : Cls K C
  ex : ∃ (p g : Addr) (fd : FuncData), PropOf K C f p g ∧ FnOk P w K mg base CX k g fd ["self"] sp ∧ Binds K fd ["self"] []
section
variable {X : Cx} {C : Addr} {f : Str} {j k : Nat} {sp : Sp} {e : Expr} {pos : Pos} {ta : TE}
theorem pe_wp (c : PrC X.prog X.w X.K X.mg X.base CX0 C f k sp) (hr : Room j X.A) (hj : k + 1 ≤ j) (he : PE X e ta) (hab : attributeBase e f X.env (eval e X.env) = eval e X.env := by rfl) : PE X (.Attribute e f pos) (tProp C sp [] E0 ta) := by
  obtain ⟨p, g, fd, hp, F, b⟩ := c.ex
  exact pe_prop he c.cl hp F (hr.mono hj) b .nil pass0 hab
end
def cPr (C : Addr) (sp : Sp) (E : XK) (Q : VK) (x : V) (H1 : Hp) : Prop := ∃ a dx fs, x = .ref a ∧ H1 a = some (.ins C dx fs) ∧ sp [.ref a] H1 Q E
section
variable {F H : Hp} {L : List (Addr × HO)} {C a dx : Addr} {fs : List (Str × V)} {Q : VK} {E : XK} {sp : Sp} {σ : L2.St} {i : Nat} {f : Str} {v : V}
theorem r_prop2 {ta : TE} (k : ta σ H (cPr C sp E Q)) : tProp C sp [] E ta σ H Q := k
theorem o_prop (h : Own F H L) (e : L[i]? = some (a, .ins C dx fs)) (k : sp [.ref a] H Q E) : cPr C sp E Q (.ref a) H := ⟨a, dx, fs, rfl, h.get i e, k⟩
theorem o_propF (e : H a = some (.ins C dx fs)) (k : sp [.ref a] H Q E) : cPr C sp E Q (.ref a) H := ⟨a, dx, fs, rfl, e, k⟩
theorem c_get (e : H a = some (.ins C dx fs)) (l : fs.lookup f = some v) (k : Q v H) : getSp C f [.ref a] H Q E := ⟨a, dx, fs, v, rfl, e, l, k⟩
end
/-! what a clause asks of a class -/
structure Xs (K : PySem.W.Frag) (B I : Addr) : Prop where
  exm : PySem.W.exmOne K (.ref I) (.ref B) = some true
  kit : PySem.W.kitOne K (.ref I) (.ref I) = some true
theorem r_wAs {K : PySem.W.Frag} {c cls : Value} {i : Nat} {ts : Addr → Value → Option Addr → TS} {Wout : WX} {D : Ends} {d : Option Addr} {σ : L2.St} {H : Hp} (h : PySem.W.exmOne K cls c = some true)
    (k : ∀ a, H a = none → ts a cls d { nx := fun σ' H' => D.nx (σ'.set i none) H', rt := D.rt, bk := fun σ' H' => D.bk (σ'.set i none) H', ct := fun σ' H' => D.ct (σ'.set i none) H' } (σ.set i (some (.ref a))) H) : wAs K c i ts Wout D cls d σ H :=
  ⟨true, h, fun _ => k, fun z => by cases z⟩
theorem r_isX {K : PySem.W.Frag} {C D dd a : Addr} {fs : List (Str × V)} {b : Bool} {H : Hp} {Q : VK} (e : H dd = some (.xd fs)) (ec : ExcC K D) (hk : PySem.W.kitOne K (.ref D) (.ref C) = some b) (k : Q (.bl b) H) : rIsX K (.ref D) (some dd) a [.ref a, .ref C] H Q :=
  ⟨D, dd, C, fs, b, rfl, rfl, rfl, e, ec, hk, k⟩
def cXv (K : PySem.W.Frag) (a : Addr) (cls : Value) (d : Option Addr) (f : Str) (Q : VK) (x : V) (H1 : Hp) : Prop := x = .ref a ∧ ∃ (C dd : Addr) (fs : List (Str × V)) (v : V), cls = .ref C ∧ XfC K C ∧ PySem.W.findIn K (.ref C) f = some none ∧ d = some dd ∧ H1 dd = some (.xd fs) ∧ fs.lookup f = some v ∧ Q v H1
theorem r_xv2 {K : PySem.W.Frag} {a : Addr} {cls : Value} {d : Option Addr} {f : Str} {te : TE} {σ : L2.St} {H : Hp} {Q : VK} (k : te σ H (cXv K a cls d f Q)) : tXv K a cls d f te σ H Q := k
theorem o_xv {K : PySem.W.Frag} {a C dd : Addr} {v : V} {H : Hp} {Q : VK} (e : H dd = some (.xd [("value", v)])) (T : XfC K C) (n : PySem.W.findIn K (.ref C) "value" = some none) (k : Q v H) : cXv K a (.ref C) (some dd) "value" Q (.ref a) H :=
  ⟨rfl, C, dd, _, v, rfl, T, n, rfl, e, by simp [List.lookup], k⟩
/-! loops: each turn's beginning by σ and H -/
theorem r_rng1 {ta : TA} {σ : L2.St} {H : Hp} {R : It → Hp → Prop} (k : ta σ H fun vs H1 => ∃ j : Int, vs = [.int j] ∧ -(2 ^ 62) ≤ j ∧ j < 2 ^ 62 ∧ R (Itr 0 j.toNat) H1) : iRng1 ta σ H R := k
theorem r_j {j : Int} {R : Int → Prop} (h1 : -(2 ^ 62) ≤ j) (h2 : j < 2 ^ 62) (k : R j) : ∃ i : Int, [V.int j] = [.int i] ∧ -(2 ^ 62) ≤ i ∧ i < 2 ^ 62 ∧ R i := ⟨j, rfl, h1, h2, k⟩
theorem r_for {wi : TI} {g : TG} {tb : TS} {D : Ends} {σ : L2.St} {H : Hp} (k : wi σ H fun J H1 => ∃ W : Nat → Nat → L2.St → Hp → Prop, (∃ m, W 0 m σ H1) ∧ ∀ i m σ H, W i m σ H →
  (J.stop i H ∧ D.nx σ H) ∨ (J.go i H ∧ ∃ N : L2.St → Hp → Prop, (∀ σ' H', N σ' H' → ∃ m', m' < m ∧ W (i + 1) m' σ' H') ∧ ∀ x H', J.yld i H x H' → g x σ H' fun σ2 H2 => tb { D with nx := N, ct := N, bk := D.nx } σ2 H2)) : tFor wi g tb D σ H := k
theorem r_nn {A : Prop} (k : A) : V.non = V.non ∧ A := ⟨rfl, k⟩
theorem i_refN {p : Addr} {A B : Prop} (k : A) : if (!decide (V.ref p = V.non)) = true then A else B := by rw [if_pos (by simp)]; exact k
theorem i_nonN {A B : Prop} (k : B) : if (!decide (V.non = V.non)) = true then A else B := by rw [if_neg (by simp)]; exact k
theorem i_ref {p : Addr} {A B : Prop} (k : B) : if decide (V.ref p = V.non) = true then A else B := by rw [if_neg (by simp)]; exact k
theorem i_nt {A B : Prop} (k : B) : if (!true) = true then A else B := by rw [if_neg (by decide)]; exact k
theorem i_nf {A B : Prop} (k : A) : if (!false) = true then A else B := by rw [if_pos (by decide)]; exact k
end Bs

set_option Elab.async false
set_option linter.all false
set_option maxRecDepth 100000
set_option maxHeartbeats 2000000
/-! try with several except clauses that name the exception alike -/
namespace Bs
open PySem PySem.Spec PyProof.Rows L2
/-- what the clauses wish, one behind the other -/
def wMany2 (K : PySem.W.Frag) (i : Nat) (Wout : WX) (D : Ends) : List (Value × (Addr → Value → Option Addr → TS)) → WX
  | [] => Wout
  | (c, ts) :: r => wAs K c i ts (wMany2 K i Wout D r) D
inductive Hds2 (X : Cx) (n : Str) : List ExceptHandler → List (Value × (Addr → Value → Option Addr → TS)) → Prop
  | nil : Hds2 X n [] []
  | cons {x : Str} {c : Value} {ts : Addr → Value → Option Addr → TS} {b₀ : Stmt} {suite : List Stmt} {np pos' : Pos} {hds : List ExceptHandler} {l : List (Value × (Addr → Value → Option Addr → TS))} (hc : Names X x c)
      (hsu : ∀ (a : Addr) (oe : Obj) (cls : Value) (d : Option Addr) (pn : List (Addr × Obj)), Zc cls d oe → (∃ vs, oe.data = .fields vs) → PSs (X.suite a ((a, oe) :: pn)) (b₀ :: suite) (ts a cls d)) (r : Hds2 X n hds l) :
      Hds2 X n (.ExceptHandler (some (.Name x np)) (some n) (b₀ :: suite) pos' :: hds) ((c, ts) :: l)
section
variable {X : Cx} {n : Str} {i : Nat} {body : List Stmt} {h₀ : ExceptHandler} {hds : List ExceptHandler} {l : List (Value × (Addr → Value → Option Addr → TS))} {pos : Pos} {tb : WX → TS} {Wout : WX}
theorem ps_try2 (hs : X.stack = X.env :: X.outer) (hf : X.env.frame = some X.env.locals) (hN : X.N.Nodup) (hi : X.N[i]? = some n) (hln : X.env.kindOf n = some .local) (tk : Takes X Wout)
    (hb : ∀ (W : WX) (pn : List (Addr × Obj)) (xe : Value → Shared → Prop), Takes (X.tr pn xe) W → PassesOwn (model X.prog X.w) X.A X.env xe → PSs (X.tr pn xe) body (tb W))
    (hh : Hds2 X n (h₀ :: hds) l) : PS X (.Try body (h₀ :: hds) [] [] pos) (fun D σ H => tb (wMany2 X.K i Wout D l) D σ H) := by
  refine ⟨fun pins s σ H D I h => ?_⟩
  have ok := I.ok
  have hfr : X.A.frames = some (X.env :: X.outer) := by rw [ok.frames, hs]
  have hloc : Loc X.env.scope n := .inl hln
  refine wpAny_Try_except ?_
  refine wpAny_mono ((hb (wMany2 X.K i Wout D l) (X.pn ++ pins) (fun e s₁ => wpAny (model X.prog X.w) X.A (noteFrame e X.env) (fun _ s₂ => wpAny (model X.prog X.w) X.A (setFlight e none) (fun _ s₃ =>
    wpAny (model X.prog X.w) X.A (handleBy e X.env (h₀ :: hds)) (SP X pins D) X.xe s₃) X.xe s₂) X.xe s₁) (fun u s' xx => ?_) PassesOwn.looking).run [] s σ H D (I.toTry _) h) (fun f s1 hsp => ?_) (fun e s1 he => he)
  · obtain ⟨a, B, sI, pins', σ', H', cls, d, rfl, J', nb, up, sky, na, os, ag, w⟩ := xx
    have J : Inv X pins σ' H' sI := J'.ofTry ok
    have sky' : Sky B (X.env :: X.outer) a (Zc cls d) X.env.locals s'.heap := by rw [← hs]; exact sky
    show wpAny (model X.prog X.w) X.A (noteFrame (.ref a) X.env) _ _ _
    refine Sky.land Zc.steady hfr hf sky' fun h3 fl3 up3 => ?_
    have J3 : Inv X pins σ' H' { s' with heap := h3 } := J.landed nb fl3.1 (up.trans up3) os ag
    obtain ⟨oe3, vs3, he3, hz3, hd3⟩ := fl3.there
    have nfr : a ∉ frs (X.env :: X.outer) := fun hm => by
      obtain ⟨_, o', e', hnf⟩ := fl3.2.2.1.mem hm
      rw [he3] at e'
      cases e'
      exact hnf _ hd3
    have nL : a ≠ X.env.locals := fun z => nfr (List.mem_filterMap.mpr ⟨X.env, List.mem_cons_self, by rw [hf, z]⟩)
    have nF : a ∉ X.fs := fun hm => by
      obtain ⟨e, he, q⟩ := List.mem_filterMap.mp hm
      exact nfr (List.mem_filterMap.mpr ⟨e, List.mem_cons_of_mem _ he, q⟩)
    have S3 := J3.suite he3 hd3 na nL nF
    have go : ∀ {hds' : List ExceptHandler} {l' : List (Value × (Addr → Value → Option Addr → TS))}, Hds2 X n hds' l' → wMany2 X.K i Wout D l' cls d σ' H' →
        wpAny (model X.prog X.w) X.A (handleBy (.ref a) X.env hds') (SP X pins D) X.xe { s' with heap := h3 } := by
      intro hds' l' hk
      induction hk with
      | nil =>
        intro w
        refine wpAny_handleBy_nil ?_
        obtain ⟨k1, k2, k3, oe, vs, T, oT, ts', he, hz, hd, h1, hr⟩ := id fl3
        unfold PySem.passOn
        refine wpAny_bind (wpAny_field he hd h1 ?_)
        rw [if_neg (show ¬ ((Value.ref T == Value.none) = true) from by simp)]
        have fin : wpAny (model X.prog X.w) X.A (setFlight (.ref a) X.env.frame) (fun _ s4 => wpAny (model X.prog X.w) X.A (throw (.ref a) : Sem Flow) (SP X pins D) X.xe s4) X.xe { s' with heap := h3 } := by
          rw [hf]
          refine HandSPX.setFlight_upZ fl3 fun h4 hh4 up4 => wpAny_throw (tk _ _ ?_)
          exact ⟨a, B, sI, pins, σ', H', cls, d, rfl, J, nb, (up.trans up3).trans up4, .inr (.inr (by rw [hs]; exact hh4)), na, os, ag, w⟩
        first
          | exact wpAny_bind (wpAny_pure (wpAny_bind fin))
          | exact wpAny_bind fin
      | @cons x c ts b₀ suite np pos' hds2 l2 hc hsu r ih =>
        intro w
        obtain ⟨b, hb1, hyes, hno⟩ := w
        refine wpAny_handleBy_cons (codeAny_handlers_test ?_) (by intro q; cases q)
        have LT : PySem.W.Looks (model X.prog X.w) h3 (typeOf (.ref a)) cls := fun A Q E s k q => wpAny_typeOf_ref (k _ _ he3) (by rw [hz3.1]; exact q)
        have LM := PySem.W.exm_one (M := model X.prog X.w) (J3.kIn) LT hb1
        have test : ∀ {Q : Value → Shared → Prop} {E : Value → Shared → Prop}, Q c { s' with heap := h3 } → wpAny (model X.prog X.w) (X.A.mark (some (.ref a))) (eval (.Name x np) X.env) Q E { s' with heap := h3 } := fun {Q E} q => by
          obtain ⟨hg, hdbg, hm | ⟨hm, hv, hnn⟩⟩ := hc
          · exact ld_glob (X := X.suite a ((a, oe3) :: (X.pn ++ pins))) S3 hg hm q hdbg
          · exact ld_blt (X := X.suite a ((a, oe3) :: (X.pn ++ pins))) S3 hg hm hv q hnn hdbg
        refine test (LM.here ?_)
        cases b with
        | true =>
          refine codeAny_handlers_suite_as ?_
          refine HandSPX.lands_againZ fl3 fun h4 fl4 up4 => ?_
          have J4 : Inv X pins σ' H' { s' with heap := h4 } := J.landed nb fl4.1 ((up.trans up3).trans up4) os ag
          obtain ⟨oe4, vs4, he4, hz4, hd4⟩ := fl4.there
          have S4 := J4.suite he4 hd4 na nL nF
          refine store_ok (X := X.suite a ((a, oe4) :: (X.pn ++ pins))) (v := .ref a) S4 hN hi hloc rfl (fun s5 S5 => ?_) (.inr hln)
          refine wpAny_mono ((hsu a oe4 cls d (X.pn ++ pins) hz4 ⟨_, hd4⟩).run [] s5 _ H' _ S5 (hyes rfl a na)) (fun f s6 hsp => ?_) (fun _ _ z => False.elim z)
          have end_ : ∀ {σ6 : L2.St} {H6 : Hp} {Q : Shared → Prop}, Inv (X.suite a ((a, oe4) :: (X.pn ++ pins))) [] σ6 H6 s6 → (∀ s7, Inv X pins (σ6.set i none) H6 s7 → Q s7) →
              wpAny (model X.prog X.w) X.A (do bindName X.env n .none; unbindBehindTheSuite X.env n pos') (fun _ s7 => Q s7) X.xe s6 := fun {σ6 H6 Q} S6 hq => gone_ok (S6.unsuite ok) hN hi hln hq
          cases f with
          | next =>
            obtain ⟨σ6, H6, S6, q6⟩ := hsp
            exact end_ S6 fun s7 J7 => ⟨_, _, J7, q6⟩
          | brk =>
            obtain ⟨σ6, H6, S6, q6⟩ := hsp
            exact end_ S6 fun s7 J7 => ⟨_, _, J7, q6⟩
          | cont =>
            obtain ⟨σ6, H6, S6, q6⟩ := hsp
            exact end_ S6 fun s7 J7 => ⟨_, _, J7, q6⟩
          | ret u =>
            obtain ⟨v6, σ6, H6, S6, r6, q6⟩ := hsp
            exact end_ S6 fun s7 J7 => ⟨_, _, _, J7, r6, q6⟩
        | false =>
          show wpAny _ X.A (handleBy (.ref a) X.env hds2) _ _ _
          exact ih (hno rfl)
    exact go hh w
  · cases f with
    | next =>
      obtain ⟨σ', H', J', q⟩ := hsp
      exact wpAny_execs_nil ⟨σ', H', J'.ofTry ok, q⟩
    | brk =>
      obtain ⟨σ', H', J', q⟩ := hsp
      exact ⟨σ', H', J'.ofTry ok, q⟩
    | cont =>
      obtain ⟨σ', H', J', q⟩ := hsp
      exact ⟨σ', H', J'.ofTry ok, q⟩
    | ret u =>
      obtain ⟨v, σ', H', J', r, q⟩ := hsp
      exact ⟨v, σ', H', J'.ofTry ok, r, q⟩
end
theorem r_wAsN {K : PySem.W.Frag} {c cls : Value} {i : Nat} {ts : Addr → Value → Option Addr → TS} {Wout : WX} {D : Ends} {d : Option Addr} {σ : L2.St} {H : Hp} (h : PySem.W.exmOne K cls c = some false) (k : Wout cls d σ H) : wAs K c i ts Wout D cls d σ H :=
  ⟨false, h, fun z => (by cases z), fun _ => k⟩
end Bs

set_option Elab.async false
set_option linter.all false
set_option maxRecDepth 100000
set_option maxHeartbeats 2000000
/-! Signs between instances of an own class, and between one and an int on either side. -/
namespace Bs
open PySem PySem.Spec PySem.Calls PyProof.Rows L2
section
variable {prog : Program} {w : World} {A : Around} {E : Value → Shared → Prop} {s : Shared} {K : PySem.W.Frag} {x C dx f g : Addr} {od : Option Obj} {ox : Obj} {nm : String} {b : Value}
theorem intBin_dn (n : String) (fn : Int → Int → Sem Fin) (r : Bool) (i : Int) (t : Tok) : GivesAt (fun s => s.heap.get? x = some (PySem.W.instObj C dx)) (Builtin.Int.intBinary n fn r ⟨[.int i t, .ref x], []⟩) (.val .notImplemented) := by
  intro prog w A R s hp h
  obtain ⟨hh, g, d, tt, os⟩ := s
  have hp' : hh.get? x = some (PySem.W.instObj C dx) := hp
  unfold Builtin.Int.intBinary
  wp_walk
  exact h
theorem intFdv_dn (i : Int) (t : Tok) : GivesAt (fun s => s.heap.get? x = some (PySem.W.instObj C dx)) (Builtin.«int.__floordiv__» ⟨[.int i t, .ref x], []⟩) (.val .notImplemented) := by
  intro prog w A R s hp h
  obtain ⟨hh, g, d, tt, os⟩ := s
  have hp' : hh.get? x = some (PySem.W.instObj C dx) := hp
  unfold Builtin.«int.__floordiv__»
  wp_walk
  exact h
/-- both of one class -/
theorem bin1_same {cd : ClassData} {rest : List Value} {Q : Value → Shared → Prop} (X : K.In s.heap) (I : PySem.W.InstAt s.heap x ox C od) (hb : PySem.W.Looks (model prog w) s.heap (typeOf b) (.ref C)) (hcd : PySem.W.clsIn K C = some cd) (hm : cd.mro = .ref C :: rest)
    (hs : PySem.W.findIn K (.ref C) (PySem.dunder nm) = some (some (.ref f))) (hf : PySem.W.isFn K (.ref f) = true) (h : wpAny (model prog w) A (call (.ref f) [.ref x, b]) (PySem.W.CmpBack Q) E s) :
    wpAny (model prog w) A (binaryOp1 nm (.ref x) b) (fun r s' => ∃ v, r = some v ∧ Q v s') E s := by
  have one := PySem.W.ksp_try X I hs hf h
  have L3 : PySem.W.Looks (model prog w) s.heap (fillsNumberSlot (.ref C) nm) true := PySem.W.fills_K X hcd hm hs
  obtain ⟨hh, g, d, tt, os⟩ := s
  unfold binaryOp1
  refine wpAny_bind (I.type.at (wpAny_bind (hb.at (wpAny_bind (L3.at ?_)))))
  simp only [beq_self_eq_true, if_true]
  ksp_lk
  refine wpAny_mono one (fun r s' hr' => ?_) fun _ _ e => e
  obtain ⟨v, rfl, hq⟩ := hr'
  ksp_lk
  exact ⟨v, rfl, hq⟩
/-- an int on the right -/
theorem bin1_left {cd : ClassData} {rest : List Value} {rc : Option Value} {Q : Value → Shared → Prop} {i : Int} {t : Tok} {fo : Value} (X : K.In s.heap) (I : PySem.W.InstAt s.heap x ox C od) (hcd : PySem.W.clsIn K C = some cd) (hm : cd.mro = .ref C :: rest)
    (hs : PySem.W.findIn K (.ref C) (PySem.dunder nm) = some (some (.ref f))) (hf : PySem.W.isFn K (.ref f) = true) (hr : PySem.W.findIn K (.ref C) (dunderR nm) = some rc) (hp : rc = none ∨ ∃ g : Addr, rc = some (.ref g)) (fi : fillsNumberSlot (.type "int") nm = pure true)
    (h2 : PySem.W.findIn K (.type "int") (dunderR nm) = some (some fo)) (hsub : PySem.W.subIn K (.type "int") (.ref C) = some false)
    (h : wpAny (model prog w) A (call (.ref f) [.ref x, .int i t]) (PySem.W.CmpBack Q) E s) : wpAny (model prog w) A (binaryOp1 nm (.ref x) (.int i t)) (fun r s' => ∃ v, r = some v ∧ Q v s') E s := by
  have one := PySem.W.ksp_try X I hs hf h
  have L1 := I.type (M := model prog w)
  have L2 : PySem.W.Looks (model prog w) s.heap (typeOf (.int i t)) (.type "int") := PySem.W.Looks.of_pure rfl
  have L3 : PySem.W.Looks (model prog w) s.heap (fillsNumberSlot (.ref C) nm) true := PySem.W.fills_K X hcd hm hs
  have L4 : PySem.W.Looks (model prog w) s.heap (fillsNumberSlot (.type "int") nm) true := PySem.W.Looks.of_pure fi
  have L5 : PySem.W.Looks (model prog w) s.heap (isSubtype (.type "int") (.ref C)) false := PySem.W.looks_subIn X hsub
  have L6 : PySem.W.Looks (model prog w) s.heap (numberSlotInPython (.ref C) nm) true := PySem.W.ksp_inPy X hs hr hp
  have L7 : PySem.W.Looks (model prog w) s.heap (numberSlotInPython (.type "int") nm) false := PySem.W.Looks.of_pure rfl
  have L8 : PySem.W.Looks (model prog w) s.heap (typeLookup (.type "int") (dunderR nm)) (some fo) := PySem.W.looks_findIn X h2
  obtain ⟨hh, g, d, tt, os⟩ := s
  have hne : (Value.ref C == Value.type "int") = false := Bool.eq_false_iff.mpr fun q => by cases beq_iff_eq.mp q
  unfold binaryOp1
  refine wpAny_bind (L1.at (wpAny_bind (L2.at (wpAny_bind (L3.at ?_)))))
  simp only [hne, Bool.false_eq_true, if_false]
  ksp_lk
  refine wpAny_mono one (fun r s' hr' => ?_) fun _ _ e => e
  obtain ⟨v, rfl, hq⟩ := hr'
  ksp_lk
  exact ⟨v, rfl, hq⟩
/-- an int on the left -/
theorem bin1_right {cd : ClassData} {rest : List Value} {Q : Value → Shared → Prop} {i : Int} {t : Tok} {id : String} {B : Builtin} (X : K.In s.heap) (I : PySem.W.InstAt s.heap x (PySem.W.instObj C dx) C od) (hcd : PySem.W.clsIn K C = some cd) (hm : cd.mro = .ref C :: rest)
    (hd : PySem.W.findIn K (.ref C) (PySem.dunder nm) = some (some (.ref g))) (hs : PySem.W.findIn K (.ref C) (dunderR nm) = some (some (.ref f))) (hf : PySem.W.isFn K (.ref f) = true) (fi : fillsNumberSlot (.type "int") nm = pure true)
    (sl : Slot "int" (dunder nm) id) (en : entryFor table id = some B) (ar : ∀ a b, argsOk id ⟨[a, b], []⟩) (dn : GivesAt (fun s => s.heap.get? x = some (PySem.W.instObj C dx)) (B ⟨[.int i t, .ref x], []⟩) (.val .notImplemented))
    (hsub : PySem.W.subIn K (.ref C) (.type "int") = some false) (h : wpAny (model prog w) A (call (.ref f) [.ref x, .int i t]) (PySem.W.CmpBack Q) E s) : wpAny (model prog w) A (binaryOp1 nm (.int i t) (.ref x)) (fun r s' => ∃ v, r = some v ∧ Q v s') E s := by
  have one := PySem.W.ksp_try X I hs hf h
  have L1 := I.type (M := model prog w)
  have L2 : PySem.W.Looks (model prog w) s.heap (typeOf (.int i t)) (.type "int") := PySem.W.Looks.of_pure rfl
  have L3 : PySem.W.Looks (model prog w) s.heap (fillsNumberSlot (.ref C) nm) true := PySem.W.fills_K X hcd hm hd
  have L4 : PySem.W.Looks (model prog w) s.heap (fillsNumberSlot (.type "int") nm) true := PySem.W.Looks.of_pure fi
  have L5 : PySem.W.Looks (model prog w) s.heap (isSubtype (.ref C) (.type "int")) false := PySem.W.looks_subIn X hsub
  have L7 : PySem.W.Looks (model prog w) s.heap (numberSlotInPython (.type "int") nm) false := PySem.W.Looks.of_pure rfl
  have two : wpAny (model prog w) A (tryMethod (.int i t) (dunder nm) (.ref x)) (fun r s' => r = none ∧ s' = s) E s := by
    refine wpAny_tryMethod_declines (typeIs_int s i t) sl ?_
    exact call_givesAt sl (typeIs_int s i t) en (ar _ _) dn I.at_ ⟨rfl, rfl, rfl⟩
  obtain ⟨hh, g, d, tt, os⟩ := s
  have hne : (Value.type "int" == Value.ref C) = false := Bool.eq_false_iff.mpr fun q => by cases beq_iff_eq.mp q
  unfold binaryOp1
  refine wpAny_bind (L2.at (wpAny_bind (L1.at (wpAny_bind (L4.at ?_)))))
  simp only [hne, Bool.false_eq_true, if_false]
  ksp_lk
  refine wpAny_mono two (fun r s' hr' => ?_) fun _ _ e => e
  obtain ⟨rfl, rfl⟩ := hr'
  ksp_lk
  refine wpAny_mono one (fun r s' hr' => ?_) fun _ _ e => e
  obtain ⟨v, rfl, hq⟩ := hr'
  ksp_lk
  exact ⟨v, rfl, hq⟩
end
end Bs
namespace Bs
open PySem PySem.Spec PySem.Calls PyProof.Rows L2
/-- a method's def of an own class, found by its name -/
structure MeC (P : Program) (w : World) (K : PySem.W.Frag) (mg : Str → Option Value) (base : Heap) (CX : CXT) (C : Addr) (m : Str) (k : Nat) (ps : List Str) (sp : Sp) (f : Addr) : Prop where
  at_ : PySem.W.findIn K (.ref C) m = some (some (.ref f))
  fn : PySem.W.isFn K (.ref f) = true
  ex : ∃ fd, FnOk P w K mg base CX k f fd ps sp ∧ Binds K fd ps []
/-- int's side of a sign -/
structure IntS (nm : String) : Prop where
  fi : fillsNumberSlot (.type "int") nm = pure true
  dn : ∃ (id : String) (B : Builtin), Slot "int" (dunder nm) id ∧ entryFor table id = some B ∧ (∀ a b, argsOk id ⟨[a, b], []⟩) ∧ ∀ (i : Int) (t : Tok) (x C dx : Addr), GivesAt (fun s => s.heap.get? x = some (PySem.W.instObj C dx)) (B ⟨[.int i t, .ref x], []⟩) (.val .notImplemented)
/-- the class's side -/
structure ClsS (K : PySem.W.Frag) (C : Addr) : Prop where
  sf : PySem.W.selfFirst K C = true
  s1 : PySem.W.subIn K (.type "int") (.ref C) = some false
  s2 : PySem.W.subIn K (.ref C) (.type "int") = some false
/-- a sign of an own class: f between, g reflected -/
structure OpS (P : Program) (w : World) (K : PySem.W.Frag) (mg : Str → Option Value) (base : Heap) (CX : CXT) (C : Addr) (nm : String) (k : Nat) (sp spR : Sp) : Prop where
  cs : ClsS K C
  is : IntS nm
  ri : ∃ fo, PySem.W.findIn K (.type "int") (dunderR nm) = some (some fo)
  ex : ∃ f g, MeC P w K mg base CX C (dunder nm) k ["self", "other"] sp f ∧ MeC P w K mg base CX C (dunderR nm) k ["self", "other"] spR g
theorem back_of {X : Cx} {pins : List (Addr × Obj)} {σ : L2.St} {Q : VK} {v : Value} {s : Shared} (h : EP X pins σ Q v s) : PySem.W.CmpBack (EP X pins σ Q) v s := by
  cases v with
  | notImplemented =>
    obtain ⟨x, H', _, r, _⟩ := h
    cases x with
    | int i => obtain ⟨t, e⟩ := r; cases e
    | str i => obtain ⟨t, e⟩ := r; cases e
    | byt i => obtain ⟨t, e⟩ := r; cases e
    | flt i => obtain ⟨t, e⟩ := r; cases e
    | _ => cases r
  | _ => exact h
section
variable {X : Cx} {CX : CXT} {C : Addr} {m : Str} {j k : Nat} {ps : List Str} {sp spR : Sp} {f : Addr} {E : XK} {nm : String}
theorem MeC.call (c : MeC X.prog X.w X.K X.mg X.base CX C m k ps sp f) (hr : Room j X.A) (hk : k ≤ j) {pins : List (Addr × Obj)} {σ : L2.St} (hx : PassesAt CX X σ E) {H : Hp} {s : Shared} {Q : VK} {us : List Value} {vs : List V} (I : Inv X pins σ H s) (r : Vals vs us) (h : sp vs H Q E) :
    wpAny (model X.prog X.w) X.A (call (.ref f) us) (EP X pins σ Q) X.xe s := by
  obtain ⟨fd, F, b⟩ := c.ex
  have l := F.len _ _ _ _ h
  have cb : Cb X.K fd ps vs.length [] (fun vs _ => vs) := ⟨fun us _ => us, by
    refine ⟨fun s us ws X l1 l2 => ?_, fun r _ => r⟩
    have e : ws = [] := List.length_eq_zero_iff.mp l2
    subst e
    have := b s us X (by simpa [l1] using l)
    simpa using this⟩
  exact go_fn (ws := []) (zs := []) (E := fun _ => E) F (hr.mono hk) cb hx I r .nil rfl rfl h
/-- x op y -/
def rOwn (C : Addr) (sp spR : Sp) (E : XK) : R2 := fun x y H Q => (∃ a dx fs, x = .ref a ∧ H a = some (.ins C dx fs) ∧ ((∃ i, y = .int i) ∨ ∃ b dx fs, y = .ref b ∧ H b = some (.ins C dx fs)) ∧ sp [x, y] H Q E) ∨
  ∃ i a dx fs, x = .int i ∧ y = .ref a ∧ H a = some (.ins C dx fs) ∧ spR [y, x] H Q E
theorem own1 (c : OpS X.prog X.w X.K X.mg X.base CX C nm k sp spR) (hr : Room j X.A) (hk : k ≤ j) {pins : List (Addr × Obj)} {σ : L2.St} (hx : PassesAt CX X σ E) {H : Hp} {s : Shared} {Q : VK} {u v : Value} {x y : V} (I : Inv X pins σ H s) (rx : RelV x u) (ry : RelV y v)
    (h : rOwn C sp spR E x y H Q) : wpAny (model X.prog X.w) X.A (binaryOp1 nm u v) (fun r s' => ∃ v, r = some v ∧ EP X pins σ Q v s') X.xe s := by
  obtain ⟨f, g, mf, mg⟩ := c.ex
  obtain ⟨cd, rest, hcd, hm⟩ := PySem.W.ksp_first c.cs.sf
  rcases h with ⟨a, dx, fs, rfl, ea, hy, q⟩ | ⟨i, a, dx, fs, rfl, rfl, ea, q⟩
  · obtain rfl : u = Value.ref a := rx
    obtain ⟨mA, O, _⟩ := ins_get I.hok ea
    obtain ⟨od, J, _⟩ := O.look
    have run : wpAny (model X.prog X.w) X.A (call (.ref f) [.ref a, v]) (PySem.W.CmpBack (EP X pins σ Q)) X.xe s :=
      wpAny_mono (mf.call (vs := [.ref a, y]) hr hk hx I (.cons rfl (.cons ry .nil)) q) (fun _ _ z => back_of z) fun _ _ z => z
    rcases hy with ⟨i, rfl⟩ | ⟨b, dy, gs, rfl, eb⟩
    · obtain ⟨t, rfl⟩ := ry
      obtain ⟨fo, hfo⟩ := c.ri
      exact bin1_left I.kIn J hcd hm mf.at_ mf.fn mg.at_ (.inr ⟨g, rfl⟩) c.is.fi hfo c.cs.s1 run
    · obtain rfl : v = Value.ref b := ry
      obtain ⟨mB, O2, _⟩ := ins_get I.hok eb
      obtain ⟨od2, J2, _⟩ := O2.look
      exact bin1_same I.kIn J J2.type hcd hm mf.at_ mf.fn run
  · obtain ⟨t, rfl⟩ := rx
    obtain rfl : v = Value.ref a := ry
    obtain ⟨mA, O, _⟩ := ins_get I.hok ea
    obtain ⟨od, J, _⟩ := O.look
    have run : wpAny (model X.prog X.w) X.A (call (.ref g) [.ref a, .int i t]) (PySem.W.CmpBack (EP X pins σ Q)) X.xe s :=
      wpAny_mono (mg.call (vs := [.ref a, .int i]) hr hk hx I (.cons rfl (.cons ⟨t, rfl⟩ .nil)) q) (fun _ _ z => back_of z) fun _ _ z => z
    obtain ⟨id, B, sl, en, ar, dn⟩ := c.is.dn
    exact bin1_right I.kIn J hcd hm mf.at_ mg.at_ mg.fn c.is.fi sl en ar (dn _ _ _ _ _) c.cs.s2 run
/-- the reading of a sign whose defs may raise: E by the slots -/
def tOwn (C : Addr) (sp spR : Sp) (E : L2.St → XK) (ta tb : TE) : TE := fun σ H Q => ta σ H fun x H1 => tb σ H1 fun y H2 => rOwn C sp spR (E σ) x y H2 Q
theorem pe_own {E : L2.St → XK} {a b : Expr} {ta tb : TE} {pos : Pos} {op : Operator} (c : OpS X.prog X.w X.K X.mg X.base CX C op.info.2 k sp spR) (hr : Room j X.A) (hk : k ≤ j) (hx : ∀ σ, PassesAt CX X σ (E σ)) (ha : PE X a ta) (hb : PE X b tb) : PE X (.BinOp a op b pos) (tOwn C sp spR E ta tb) := by
  refine ⟨fun pins s σ H Q I h => wpAny_BinOp (binT ha hb I h fun v u s2 x y H2 I2 rx ry q => ?_)⟩
  unfold binaryOp
  refine wpAny_holding (wpAny_bind (wpAny_mono (own1 c hr hk (hx σ) I2 rx ry q) (fun r s' z => ?_) fun _ _ z => z))
  obtain ⟨v', rfl, z⟩ := z
  exact wpAny_pure z
/-- no sign that sets: the class and its bases have none -/
structure NoI (K : PySem.W.Frag) (C : Addr) (nm : String) : Prop where
  ex : ∃ cd, PySem.W.clsIn K C = some cd ∧ ∀ c ∈ cd.mro, PySem.W.findIn K c (dunderI nm) = some none
theorem noI_any {K : PySem.W.Frag} {h : Heap} {M : Model} {i : Str} (X : K.In h) {F : Value → Value → Sem Bool} : ∀ {l : List Value}, (∀ c ∈ l, PySem.W.findIn K c i = some none) → PySem.W.Looks M h (l.anyM fun c => do
    let some x ← typeLookup c i | return false
    F c x) false
  | [], _ => .now
  | c :: r, e => by
    intro A Q E s k q
    have X' := X.keeps k
    rw [List.anyM_cons]
    refine wpAny_bind (wpAny_bind ((PySem.W.looks_findIn X (e c List.mem_cons_self)) A _ E s k ?_))
    refine wpAny_pure ?_
    simp only [Bool.false_eq_true, if_false]
    exact noI_any X (fun d m => e d (List.mem_cons_of_mem _ m)) A Q E s k q
theorem noI_looks {K : PySem.W.Frag} {h : Heap} {M : Model} {add : Bool} (n : NoI K C nm) (X : K.In h) : PySem.W.Looks M h (fillsInplaceSlot (.ref C) nm add) false := by
  obtain ⟨cd, e, z⟩ := n.ex
  have Lm : PySem.W.Looks M h (mroOf (.ref C)) cd.mro := (PySem.W.looks_clsIn X e).andThen (f := fun cd => pure cd.mro) .now
  intro A Q E s k q
  unfold fillsInplaceSlot
  refine wpAny_bind (Lm A _ E s k ?_)
  exact noI_any X z A Q E s k q
/-- x op= y -/
theorem ip_own {op : Operator} (c : OpS X.prog X.w X.K X.mg X.base CX C op.info.2 k sp spR) (n : NoI X.K C op.info.2) (hr : Room j X.A) (hk : k ≤ j) (hx : ∀ σ, PassesAt CX X σ E) : PIp X op (fun x y H Q => (∃ a dx fs, x = .ref a ∧ H a = some (.ins C dx fs)) ∧ rOwn C sp spR E x y H Q) := by
  intro pins s σ H x y u v Q I rx ry ⟨⟨a, dx, fs, ex, ea⟩, q⟩
  subst ex
  have one := own1 c hr hk (hx σ) I rx ry q
  obtain rfl : u = Value.ref a := rx
  obtain ⟨mA, O, _⟩ := ins_get I.hok ea
  obtain ⟨od, J, _⟩ := O.look
  have L1 := J.type (M := model X.prog X.w)
  have L2 := noI_looks (M := model X.prog X.w) (add := op == .Add) n I.kIn
  obtain ⟨hh, g, d, tt, os⟩ := s
  unfold inplaceOp
  refine wpAny_holding (wpAny_bind (L1.at (wpAny_bind (L2.at ?_))))
  simp only [Bool.false_eq_true, if_false]
  refine wpAny_bind (wpAny_mono one (fun r s' z => ?_) fun _ _ z => z)
  obtain ⟨v', rfl, z⟩ := z
  exact wpAny_pure z
/-- op x -/
def rUn (C : Addr) (sp : Sp) (E : XK) : V → Hp → VK → Prop := fun x H Q => ∃ a dx fs, x = .ref a ∧ H a = some (.ins C dx fs) ∧ sp [x] H Q E
theorem un_neg_own {f : Addr} (c : MeC X.prog X.w X.K X.mg X.base CX C "__neg__" k ["self"] sp f) (hr : Room j X.A) (hk : k ≤ j) (hx : ∀ σ, PassesAt CX X σ E) : UnR X (unaryOp .USub) (rUn C sp E) := by
  intro pins s σ H x v Q I rx ⟨a, dx, fs, ex, ea, q⟩
  subst ex
  obtain rfl : v = Value.ref a := rx
  obtain ⟨mA, O, _⟩ := ins_get I.hok ea
  obtain ⟨od, J, _⟩ := O.look
  obtain ⟨m, F⟩ := I.fr
  exact PySem.W.ksp_neg F I.ok.mod.kin J c.at_ c.fn (c.call (vs := [.ref a]) hr hk (hx σ) I (.cons rfl .nil) q)
theorem un_inv_own {f : Addr} (c : MeC X.prog X.w X.K X.mg X.base CX C "__invert__" k ["self"] sp f) (hr : Room j X.A) (hk : k ≤ j) (hx : ∀ σ, PassesAt CX X σ E) : UnR X (unaryOp .Invert) (rUn C sp E) := by
  intro pins s σ H x v Q I rx ⟨a, dx, fs, ex, ea, q⟩
  subst ex
  obtain rfl : v = Value.ref a := rx
  obtain ⟨mA, O, _⟩ := ins_get I.hok ea
  obtain ⟨od, J, _⟩ := O.look
  obtain ⟨m, F⟩ := I.fr
  exact PySem.W.ksp_inv F I.ok.mod.kin J c.at_ c.fn (c.call (vs := [.ref a]) hr hk (hx σ) I (.cons rfl .nil) q)
/-- what is never reached -/
def tDead : TS := fun _ _ _ => False
theorem ps_dead {st : Stmt} : PS X st tDead := ⟨fun _ _ _ _ _ _ h => h.elim⟩
/-! int's side of the signs -/
theorem is_add : IntS "add" := ⟨F.fills_int_add, _, _, F.slot_int_add, F.entry_int_add, F.args_int_add_2, fun _ _ _ _ _ => intBin_dn _ _ _ _ _⟩
theorem is_sub : IntS "sub" := ⟨F.fills_int_sub, _, _, F.slot_int_sub, F.entry_int_sub, F.args_int_sub_2, fun _ _ _ _ _ => intBin_dn _ _ _ _ _⟩
theorem is_mul : IntS "mul" := ⟨F.fills_int_mul, _, _, F.slot_int_mul, F.entry_int_mul, F.args_int_mul_2, fun _ _ _ _ _ => intBin_dn _ _ _ _ _⟩
theorem is_floordiv : IntS "floordiv" := ⟨F.fills_int_floordiv, _, _, F.slot_int_floordiv, F.entry_int_floordiv, F.args_int_floordiv_2, fun _ _ _ _ _ => intFdv_dn _ _⟩
theorem is_and : IntS "and" := ⟨F.fills_int_and, _, _, F.slot_int_and, F.entry_int_and, F.args_int_and_2, fun _ _ _ _ _ => intBin_dn _ _ _ _ _⟩
theorem is_or : IntS "or" := ⟨F.fills_int_or, _, _, F.slot_int_or, F.entry_int_or, F.args_int_or_2, fun _ _ _ _ _ => intBin_dn _ _ _ _ _⟩
theorem is_xor : IntS "xor" := ⟨F.fills_int_xor, _, _, F.slot_int_xor, F.entry_int_xor, F.args_int_xor_2, fun _ _ _ _ _ => intBin_dn _ _ _ _ _⟩
end
end Bs



namespace Bs
open PySem PySem.Spec PySem.Calls PyProof.Rows L2
section
variable {X : Cx} {CX : CXT} {C : Addr} {m : Str} {j k : Nat} {ps : List Str} {sp : Sp} {f : Addr} {E : XK}
theorem MeC.call1 (c : MeC X.prog X.w X.K X.mg X.base CX C m k ps sp f) (hr : Room (k + 1) X.A) {pins : List (Addr × Obj)} {σ : L2.St} (hx : PassesAt CX X σ E) {H : Hp} {s : Shared} {Q : VK} {us : List Value} {vs : List V} (I : Inv X pins σ H s) (r : Vals vs us) (h : sp vs H Q E) :
    wpAny (model X.prog X.w) X.A.in1 (PySem.call (.ref f) us) (EP X pins σ Q) X.xe s := by
  obtain ⟨fd, F, b⟩ := c.ex
  have l := F.len _ _ _ _ h
  have bt := b s us I.kIn (by rw [List.append_nil, ← r.length, l])
  rw [List.append_nil] at bt
  apply wpAny_call
  apply codeAny_mono (F.run X.A.in1 X.stack s H ⟨us, []⟩ us vs Q E hr.in1 I.env0.in1 bt r h)
  intro rs t q
  match rs, q with
  | .error er, q => exact hx pins H s er t I q
  | .ok (.ret u), q => exact I.after q
  | .ok .next, q => exact q.elim
  | .ok .brk, q => exact q.elim
  | .ok .cont, q => exact q.elim
/-- x[y] of an own class -/
def tIxOwn (C : Addr) (sp : Sp) (E : L2.St → XK) (ta tb : TE) : TE := fun σ H Q => ta σ H fun x H1 => tb σ H1 fun y H2 => ∃ a dx fs, x = .ref a ∧ H2 a = some (.ins C dx fs) ∧ sp [.ref a, y] H2 Q (E σ)
theorem pe_ixOwn {E : L2.St → XK} {e1 e2 : Expr} {ta tb : TE} {pos : Pos} (c : MeC X.prog X.w X.K X.mg X.base CX C "__getitem__" k ["self", "at"] sp f) (hf : PySem.W.fnIn X.K f = true) (hr : Room j X.A) (hk : k + 1 ≤ j) (hx : ∀ σ, PassesAt CX X σ (E σ)) (ha : PE X e1 ta) (hb : PE X e2 tb)
    (hsl : ∀ o i, subscripted e2 true o i = runValue (.builtin "lifetime.subscript" ⟨[o, i], []⟩) := by intros; with_unfolding_all rfl) : PE X (.Subscript e1 e2 pos) (tIxOwn C sp E ta tb) := by
  refine ⟨fun pins s σ H Q I h => Subscript_ (binT ha hb I h fun v u s2 x y H2 I2 rx ry q => ?_)⟩
  obtain ⟨a, dx, fs, ex, ea, q⟩ := q
  subst ex
  obtain rfl : v = Value.ref a := rx
  obtain ⟨mA, O, _⟩ := ins_get I2.hok ea
  obtain ⟨od, J, _⟩ := O.look
  obtain ⟨m, F⟩ := I2.fr
  exact PySem.W.sub_K F I2.ok.mod.kin J c.at_ hf c.fn (c.call1 (vs := [.ref a, y]) (hr.mono hk) (hx σ) I2 (.cons rfl (.cons ry .nil)) q) (hsl _ _)
end
end Bs

set_option Elab.async false
set_option linter.all false
set_option maxRecDepth 100000
set_option maxHeartbeats 2000000
/-! Signs of own classes with an int on the right alone; signs that set, by the slots. -/
namespace Bs
open PySem PySem.Spec PySem.Calls PyProof.Rows L2
/-- a sign of an own class for an int on the right; nothing reflected -/
structure OpL (P : Program) (w : World) (K : PySem.W.Frag) (mg : Str → Option Value) (base : Heap) (CX : CXT) (C : Addr) (nm : String) (k : Nat) (sp : Sp) : Prop where
  cs : ClsS K C
  fi : fillsNumberSlot (.type "int") nm = pure true
  ri : ∃ fo, PySem.W.findIn K (.type "int") (dunderR nm) = some (some fo)
  rn : PySem.W.findIn K (.ref C) (dunderR nm) = some none
  ex : ∃ f, MeC P w K mg base CX C (dunder nm) k ["self", "other"] sp f
def rOwnL (C : Addr) (sp : Sp) (E : XK) : R2 := fun x y H Q => ∃ a dx fs i, x = .ref a ∧ y = .int i ∧ H a = some (.ins C dx fs) ∧ sp [.ref a, .int i] H Q E
section
variable {X : Cx} {CX : CXT} {C : Addr} {j k : Nat} {sp spR : Sp} {E : XK} {nm : String}
theorem ownL1 (c : OpL X.prog X.w X.K X.mg X.base CX C nm k sp) (hr : Room j X.A) (hk : k ≤ j) {pins : List (Addr × Obj)} {σ : L2.St} (hx : PassesAt CX X σ E) {H : Hp} {s : Shared} {Q : VK} {u v : Value} {x y : V} (I : Inv X pins σ H s) (rx : RelV x u) (ry : RelV y v)
    (h : rOwnL C sp E x y H Q) : wpAny (model X.prog X.w) X.A (binaryOp1 nm u v) (fun r s' => ∃ v, r = some v ∧ EP X pins σ Q v s') X.xe s := by
  obtain ⟨a, dx, fs, i, rfl, rfl, ea, q⟩ := h
  obtain ⟨f, mf⟩ := c.ex
  obtain ⟨cd, rest, hcd, hm⟩ := PySem.W.ksp_first c.cs.sf
  obtain rfl : u = Value.ref a := rx
  obtain ⟨t, rfl⟩ := ry
  obtain ⟨mA, O, _⟩ := ins_get I.hok ea
  obtain ⟨od, J, _⟩ := O.look
  have run : wpAny (model X.prog X.w) X.A (call (.ref f) [.ref a, .int i t]) (PySem.W.CmpBack (EP X pins σ Q)) X.xe s :=
    wpAny_mono (mf.call (vs := [.ref a, .int i]) hr hk hx I (.cons rfl (.cons ⟨t, rfl⟩ .nil)) q) (fun _ _ z => back_of z) fun _ _ z => z
  obtain ⟨fo, hfo⟩ := c.ri
  exact bin1_left I.kIn J hcd hm mf.at_ mf.fn c.rn (.inl rfl) c.fi hfo c.cs.s1 run
def tOwnL (C : Addr) (sp : Sp) (E : L2.St → XK) (ta tb : TE) : TE := fun σ H Q => ta σ H fun x H1 => tb σ H1 fun y H2 => rOwnL C sp (E σ) x y H2 Q
theorem pe_ownL {E : L2.St → XK} {a b : Expr} {ta tb : TE} {pos : Pos} {op : Operator} (c : OpL X.prog X.w X.K X.mg X.base CX C op.info.2 k sp) (hr : Room j X.A) (hk : k ≤ j) (hx : ∀ σ, PassesAt CX X σ (E σ)) (ha : PE X a ta) (hb : PE X b tb) : PE X (.BinOp a op b pos) (tOwnL C sp E ta tb) := by
  refine ⟨fun pins s σ H Q I h => wpAny_BinOp (binT ha hb I h fun v u s2 x y H2 I2 rx ry q => ?_)⟩
  unfold binaryOp
  refine wpAny_holding (wpAny_bind (wpAny_mono (ownL1 c hr hk (hx σ) I2 rx ry q) (fun r s' z => ?_) fun _ _ z => z))
  obtain ⟨v', rfl, z⟩ := z
  exact wpAny_pure z
/-- signs that set: what they ask may hang on the slots -/
def PIpD (X : Cx) (op : Operator) (t : L2.St → TIp) : Prop :=
  ∀ (pins : List (Addr × Obj)) (s : Shared) (σ : L2.St) (H : Hp) (x y : V) (v u : Value) (Q : VK), Inv X pins σ H s → RelV x v → RelV y u → t σ x y H Q → wpAny (model X.prog X.w) X.A (inplaceOp op v u) (EP X pins σ Q) X.xe s
def tAugD (i : Nat) (te : TE) (ti : L2.St → TIp) : TS := fun D σ H => ∃ x, σ[i]? = some (some x) ∧ te σ H fun y H1 => ti σ x y H1 fun z H2 => D.nx (σ.set i (some z)) H2
theorem ps_augD {i : Nat} {x : Str} {e : Expr} {te : TE} {op : Operator} {ti : L2.St → TIp} {pos pos' : Pos} (nd : X.N.Nodup) (at_ : X.N[i]? = some x) (lx : Loc X.env.scope x) (pe : PE X e te) (po : PIpD X op ti) (fx : X.fn x = true ∨ X.env.scope.names.lookup x = some .local := by first | exact .inl rfl | exact .inr rfl | assumption) :
    PS X (.AugAssign (.Name x pos') op e pos) (tAugD i te ti) := by
  refine ⟨fun pins s σ H D I h => ?_⟩
  obtain ⟨v, ev, h⟩ := h
  obtain ⟨m, hn, hl⟩ := I.loc
  obtain ⟨u, r, l⟩ := hl i x v at_ ev (lx.elim (fun k => .inl k) fun k => .inr (.inl k))
  refine wpAny_AugAssign_Name ?_
  have both := fun (w' : Value) (s1 : Shared) (z : EP X pins σ (fun y H1 => ti σ v y H1 fun z H2 => D.nx (σ.set i (some z)) H2) w' s1) => match z with
    | ⟨y, H1, I1, r1, q1⟩ => thn (po pins s1 σ H1 v y u w' _ I1 r r1 q1) fun r' s2 (z2 : EP X pins σ (fun z H2 => D.nx (σ.set i (some z)) H2) r' s2) => match z2 with
      | ⟨zv, H2, I2, r2, q2⟩ => store_ok (M := model X.prog X.w) (A := X.A) (E := X.xe) (Q := fun _ => SP X pins D .next) I2 nd at_ lx r2 (fun s3 I3 => ⟨_, H2, I3, q2⟩) fx
  have go := thn (pe.run pins s σ H _ I h) both
  rcases l with ⟨hk, hm⟩ | ⟨hk, c, hc, hcell⟩
  · exact wpAny_loadName_local I.ok.kind hk hn hm go
  · rcases hk with hk | hk
    · exact wpAny_loadName_cell I.ok.kind hk hc hcell go
    · rcases lx with k | k <;> (rw [show X.env.scope.names.lookup x = some .free from hk] at k; cases k)
theorem inp_of {op : Operator} (n : NoI X.K C op.info.2) {pins : List (Addr × Obj)} {σ : L2.St} {H : Hp} {s : Shared} {Q : VK} {a dx : Addr} {fs : List (Str × V)} {v : Value} (I : Inv X pins σ H s) (ea : H a = some (.ins C dx fs))
    (one : wpAny (model X.prog X.w) X.A (binaryOp1 op.info.2 (.ref a) v) (fun r s' => ∃ v, r = some v ∧ EP X pins σ Q v s') X.xe s) : wpAny (model X.prog X.w) X.A (inplaceOp op (.ref a) v) (EP X pins σ Q) X.xe s := by
  obtain ⟨mA, O, _⟩ := ins_get I.hok ea
  obtain ⟨od, J, _⟩ := O.look
  have L1 := J.type (M := model X.prog X.w)
  have L2 := noI_looks (M := model X.prog X.w) (add := op == .Add) n I.kIn
  obtain ⟨hh, g, d, tt, os⟩ := s
  unfold inplaceOp
  refine wpAny_holding (wpAny_bind (L1.at (wpAny_bind (L2.at ?_))))
  simp only [Bool.false_eq_true, if_false]
  refine wpAny_bind (wpAny_mono one (fun r s' z => ?_) fun _ _ z => z)
  obtain ⟨v', rfl, z⟩ := z
  exact wpAny_pure z
def ipOwn (C : Addr) (sp spR : Sp) (E : L2.St → XK) : L2.St → TIp := fun σ x y H Q => (∃ a dx fs, x = .ref a ∧ H a = some (.ins C dx fs)) ∧ rOwn C sp spR (E σ) x y H Q
theorem ipd_own {E : L2.St → XK} {op : Operator} (c : OpS X.prog X.w X.K X.mg X.base CX C op.info.2 k sp spR) (n : NoI X.K C op.info.2) (hr : Room j X.A) (hk : k ≤ j) (hx : ∀ σ, PassesAt CX X σ (E σ)) : PIpD X op (ipOwn C sp spR E) := by
  intro pins s σ H x y u v Q I rx ry ⟨⟨a, dx, fs, ex, ea⟩, q⟩
  subst ex
  have one := own1 c hr hk (hx σ) I rx ry q
  obtain rfl : u = Value.ref a := rx
  exact inp_of n I ea one
def ipOwnL (C : Addr) (sp : Sp) (E : L2.St → XK) : L2.St → TIp := fun σ => rOwnL C sp (E σ)
theorem ipd_ownL {E : L2.St → XK} {op : Operator} (c : OpL X.prog X.w X.K X.mg X.base CX C op.info.2 k sp) (n : NoI X.K C op.info.2) (hr : Room j X.A) (hk : k ≤ j) (hx : ∀ σ, PassesAt CX X σ (E σ)) : PIpD X op (ipOwnL C sp E) := by
  intro pins s σ H x y u v Q I rx ry q
  have one := ownL1 c hr hk (hx σ) I rx ry q
  obtain ⟨a, dx, fs, i, rfl, rfl, ea, q⟩ := q
  obtain rfl : u = Value.ref a := rx
  exact inp_of n I ea one
/-! readings -/
abbrev cOwn2 (C : Addr) (sp spR : Sp) (E : XK) (x y : V) (H : Hp) (Q : VK) : Prop := rOwn C sp spR E x y H Q
variable {σ : L2.St} {H : Hp} {Q : VK} {D : Ends} {ta tb te : TE} {i : Nat} {a dx : Addr} {fs : List (Str × V)} {n : Int} {x y : V}
def cOwnL (C : Addr) (sp : Sp) (E : XK) (Q : VK) (x y : V) (H : Hp) : Prop := rOwnL C sp E x y H Q
theorem r_ownL {E : L2.St → XK} (h : ta σ H fun x H1 => tb σ H1 (cOwnL C sp (E σ) Q x)) : tOwnL C sp E ta tb σ H Q := h
theorem ownL_w (e : H a = some (.ins C dx fs)) (h : sp [.ref a, .int n] H Q E) : cOwnL C sp E Q (.ref a) (.int n) H := ⟨a, dx, fs, n, rfl, rfl, e, h⟩
theorem r_augD {ti : L2.St → TIp} (e : σ[i]? = some (some x)) (h : te σ H fun y H1 => ti σ x y H1 fun z H2 => D.nx (σ.set i (some z)) H2) : tAugD i te ti D σ H := ⟨x, e, h⟩
theorem r_ipL {E : L2.St → XK} (h : cOwnL C sp (E σ) Q x y H) : ipOwnL C sp E σ x y H Q := h
theorem r_ipO {E : L2.St → XK} (e : H a = some (.ins C dx fs)) (h : cOwn2 C sp spR (E σ) (.ref a) y H Q) : ipOwn C sp spR E σ (.ref a) y H Q := ⟨⟨a, dx, fs, rfl, e⟩, h⟩
end
end Bs

set_option Elab.async false
set_option linter.all false
set_option maxRecDepth 100000
set_option maxHeartbeats 2000000
/-! == and != between objects of an own class with an __eq__ of its own. -/
namespace Bs
open PySem PySem.Spec PySem.Calls PyProof.Rows L2
section
variable {prog : Program} {w : World} {A : Around} {R : Value → Shared → Prop} {s : Shared} {K : PySem.W.Frag} {x y C f : Addr} {ox oy : Obj} {od oe : Option Obj}
/-- object's != asks the own == -/
theorem ne_entry (X : K.In s.heap) (I : PySem.W.InstAt s.heap x ox C od) (hs : PySem.W.findIn K (.ref C) "__eq__" = some (some (.ref f))) (hf : PySem.W.isFn K (.ref f) = true) (hu : A.units < cLine) {Q : Fin → Shared → Prop}
    (h : wpAny (model prog w) A (call (.ref f) [.ref x, .ref y]) (fun v s' => ∃ b, v = .bool b ∧ Q (.done (.ret (.bool (!b)))) s') R s) : wpAny (model prog w) A (Builtin.«object.__ne__» ⟨[.ref x, .ref y], []⟩) Q R s := by
  unfold Builtin.«object.__ne__»
  repeat (first
    | (with_reducible refine wpAny_cRoomFor hu ?_)
    | (refine wpAny_bind (m := callSpecialIfBound? (.ref x) (Str.ofString "__eq__") [.ref y]) (PySem.W.ifBound_K X I hs hf (wpAny_mono h (fun r s' z => by
        obtain ⟨b, rfl, q⟩ := z
        repeat (first | exact q | exact wpAny_pure q | exact wpAny_truthy_bool q | (refine wpAny_bind (m := truthy (.bool _)) (wpAny_truthy_bool ?_)) | wp_step)) fun _ _ z => z)))
    | wp_step)
theorem ne_bound (X : K.In s.heap) (I : PySem.W.InstAt s.heap x ox C od) (hn : PySem.W.findIn K (.ref C) "__ne__" = some (some (.builtin "object.__ne__"))) {args : List Value} {Q : Option Value → Shared → Prop}
    (h : wpAny (model prog w) A (call (.builtin "object.__ne__") (.ref x :: args)) (fun v => Q (some v)) R s) : wpAny (model prog w) A (callSpecialIfBound? (.ref x) "__ne__" args) Q R s := by
  have last : wpAny (model prog w) A (call (.builtin "object.__ne__") ([.ref x] ++ args) >>= fun v => pure (some v)) Q R s := wpAny_bind (wpAny_mono h (fun _ _ z => wpAny_pure z) fun _ _ z => z)
  simp only [callSpecialIfBound?, bindSpecialIfBound?]
  refine wpAny_holding (wpAny_bind (wpAny_bind (wpAny_bind (I.type.here ((PySem.W.looks_findIn X hn).here (wpAny_bind (wpAny_askSetting (wpAny_ite ?_))))))))
  split
  · exact wpAny_bind (wpAny_of_eq (F.cmp_object.ne.bind _) (wpAny_pure (by exact last)))
  · exact wpAny_tryCatch (wpAny_bind (wpAny_of_eq (F.cmp_object.ne.bind _) (wpAny_pure (by exact last))))
theorem ne_try (X : K.In s.heap) (I : PySem.W.InstAt s.heap x ox C od) (hs : PySem.W.findIn K (.ref C) "__eq__" = some (some (.ref f))) (hf : PySem.W.isFn K (.ref f) = true) (hn : PySem.W.findIn K (.ref C) "__ne__" = some (some (.builtin "object.__ne__"))) (hm : PySem.W.mroIn K C (.type "object") = some true)
    (hu : A.units + 1 < cLine) {Q : Option Value → Shared → Prop} (h : wpAny (model prog w) A.in1 (call (.ref f) [.ref x, .ref y]) (fun v s' => ∃ b, v = .bool b ∧ Q (some (.bool (!b))) s') R s) : wpAny (model prog w) A (tryCompare (.ref x) "__ne__" (.ref y)) Q R s := by
  unfold tryCompare
  have e := ne_entry (A := A.in1) (y := y) (Q := fun r s' => ∃ b, r = .done (.ret (.bool b)) ∧ Q (some (.bool b)) s') X I hs hf hu (wpAny_mono h (fun v s' z => by obtain ⟨b, hb, q⟩ := z; exact ⟨b, hb, _, rfl, q⟩) fun _ _ z => z)
  refine wpAny_bind (ne_bound X I hn (wpAny_call (codeAny_call_builtin F.cmp_object.ne.plain F.cmpEntry_ne (PySem.W.check_slot F.cmpKind_ne F.cmpSplit_ne (I.type.andThen (PySem.W.looks_mroIn X hm)) (F.cmpArgs_ne _ _) (wpAny_mono e (fun r s' z => ?_) fun _ _ z => z)))))
  obtain ⟨b, rfl, q⟩ := z
  first | exact wpAny_pure q | exact q
theorem ne_rich (X : K.In s.heap) (I : PySem.W.InstAt s.heap x ox C od) (J : PySem.W.InstAt s.heap y oy C oe) (hs : PySem.W.findIn K (.ref C) "__eq__" = some (some (.ref f))) (hf : PySem.W.isFn K (.ref f) = true) (hn : PySem.W.findIn K (.ref C) "__ne__" = some (some (.builtin "object.__ne__"))) (hm : PySem.W.mroIn K C (.type "object") = some true)
    (hu : A.units + 1 < cLine) {Q : Value → Shared → Prop} (h : wpAny (model prog w) A.in1 (call (.ref f) [.ref x, .ref y]) (fun v s' => ∃ b, v = .bool b ∧ Q (.bool (!b)) s') R s) : wpAny (model prog w) A (richCompare .NotEq (.ref x) (.ref y)) Q R s := by
  unfold richCompare
  simp only [oneThing_ref]
  refine wpAny_holding (wpAny_bind (wpAny_cRoomFor (Nat.lt_of_succ_lt hu) (wpAny_bind (I.type.here (wpAny_bind (J.type.here ?_))))))
  rw [show (Value.ref C != Value.ref C) = false from by simp]
  simp only [Bool.false_eq_true, if_false]
  refine wpAny_bind (wpAny_pure ?_)
  simp only [Bool.false_eq_true, if_false]
  refine wpAny_bind (ne_try X I hs hf hn hm hu (wpAny_mono h (fun v s' z => ?_) fun _ _ z => z))
  obtain ⟨b, rfl, q⟩ := z
  first | exact ⟨b, rfl, wpAny_pure q⟩ | exact ⟨b, rfl, wpAny_pure (wpAny_pure q)⟩ | exact ⟨b, rfl, q⟩
end
/-- what == and != of an own class lean on -/
structure EqO (P : Program) (w : World) (K : PySem.W.Frag) (mg : Str → Option Value) (base : Heap) (C : Addr) (k : Nat) (sp : Sp) : Prop where
  nf : PySem.W.notFirst K C (.ref C) = true
  hn : PySem.W.findIn K (.ref C) "__ne__" = some (some (.builtin "object.__ne__"))
  hm : PySem.W.mroIn K C (.type "object") = some true
  ex : ∃ f, MeC P w K mg base CX0 C "__eq__" k ["self", "other"] sp f
def rEqO (C : Addr) (sp : Sp) : R2 := fun x y H Q => ∃ a b dx dy fs gs, x = .ref a ∧ y = .ref b ∧ H a = some (.ins C dx fs) ∧ H b = some (.ins C dy gs) ∧ sp [.ref a, .ref b] H Q fun _ _ _ => False
def rNeO (C : Addr) (sp : Sp) : R2 := fun x y H Q => ∃ a b dx dy fs gs, x = .ref a ∧ y = .ref b ∧ H a = some (.ins C dx fs) ∧ H b = some (.ins C dy gs) ∧ sp [.ref a, .ref b] H (fun v H' => ∃ c, v = .bl c ∧ Q (.bl (!c)) H') fun _ _ _ => False
section
variable {X : Cx} {C : Addr} {j k : Nat} {sp : Sp}
theorem op_eqO (c : EqO X.prog X.w X.K X.mg X.base C k sp) (hr : Room j X.A) (hk : k + 1 ≤ j) : OpR X (compareOp .Eq) (rEqO C sp) := by
  intro pins s σ H x y v u Q I rx ry ⟨a, b, dx, dy, fs, gs, ex, ey, ea, eb, q⟩
  subst ex ey
  obtain rfl : v = Value.ref a := rx
  obtain rfl : u = Value.ref b := ry
  obtain ⟨f, mf⟩ := c.ex
  obtain ⟨mA, O, _⟩ := ins_get I.hok ea
  obtain ⟨mB, O', _⟩ := ins_get I.hok eb
  obtain ⟨oa, J, _⟩ := O.look
  obtain ⟨ob, J', _⟩ := O'.look
  obtain ⟨m, hF⟩ := I.fr
  show wpAny (model X.prog X.w) X.A (richCompare .Eq (.ref a) (.ref b)) (EP X pins σ Q) X.xe s
  exact PySem.W.cmp_K (op := .Eq) (tb := .ref C) hr.units0 hF I.ok.mod.kin J J'.type c.nf mf.at_ mf.fn (wpAny_mono (mf.call (vs := [.ref a, .ref b]) hr (Nat.le_trans (Nat.le_succ _) hk) psE0 I (.cons rfl (.cons rfl .nil)) q) (fun _ _ z => back_of z) fun _ _ z => z)
theorem op_neO (c : EqO X.prog X.w X.K X.mg X.base C k sp) (hr : Room j X.A) (hk : k + 1 ≤ j) : OpR X (compareOp .NotEq) (rNeO C sp) := by
  intro pins s σ H x y v u Q I rx ry ⟨a, b, dx, dy, fs, gs, ex, ey, ea, eb, q⟩
  subst ex ey
  obtain rfl : v = Value.ref a := rx
  obtain rfl : u = Value.ref b := ry
  obtain ⟨f, mf⟩ := c.ex
  obtain ⟨mA, O, _⟩ := ins_get I.hok ea
  obtain ⟨mB, O', _⟩ := ins_get I.hok eb
  obtain ⟨oa, J, _⟩ := O.look
  obtain ⟨ob, J', _⟩ := O'.look
  have hu : X.A.units + 1 < cLine := hu_of hr
  show wpAny (model X.prog X.w) X.A (richCompare .NotEq (.ref a) (.ref b)) (EP X pins σ Q) X.xe s
  refine ne_rich I.kIn J J' mf.at_ mf.fn c.hn c.hm hu (wpAny_mono (mf.call1 (vs := [.ref a, .ref b]) (hr.mono hk) psE0 I (.cons rfl (.cons rfl .nil)) q) (fun r s' z => ?_) fun _ _ z => z)
  obtain ⟨x, H', I', r1, c, rfl, q1⟩ := z
  obtain rfl : r = Value.bool c := r1
  exact ⟨c, rfl, .bl (!c), H', I', rfl, q1⟩
end
end Bs

set_option Elab.async false
set_option linter.all false
set_option maxRecDepth 100000
set_option maxHeartbeats 2000000
/-! == and != of an own class with an __eq__ of its own, beside anything. -/
namespace Bs
open PySem PySem.Spec PySem.Calls PyProof.Rows L2
section
variable {prog : Program} {w : World} {A : Around} {R : Value → Shared → Prop} {s : Shared} {K : PySem.W.Frag} {x y C f : Addr} {ox oy : Obj} {od oe : Option Obj} {b u : Value}
theorem ne_entryV (X : K.In s.heap) (I : PySem.W.InstAt s.heap x ox C od) (hs : PySem.W.findIn K (.ref C) "__eq__" = some (some (.ref f))) (hf : PySem.W.isFn K (.ref f) = true) (hu : A.units < cLine) {Q : Fin → Shared → Prop}
    (h : wpAny (model prog w) A (call (.ref f) [.ref x, b]) (fun v s' => ∃ c, v = .bool c ∧ Q (.done (.ret (.bool (!c)))) s') R s) : wpAny (model prog w) A (Builtin.«object.__ne__» ⟨[.ref x, b], []⟩) Q R s := by
  unfold Builtin.«object.__ne__»
  repeat (first
    | (with_reducible refine wpAny_cRoomFor hu ?_)
    | (refine wpAny_bind (m := callSpecialIfBound? (.ref x) (Str.ofString "__eq__") [b]) (PySem.W.ifBound_K X I hs hf (wpAny_mono h (fun r s' z => by
        obtain ⟨c, rfl, q⟩ := z
        repeat (first | exact q | exact wpAny_pure q | exact wpAny_truthy_bool q | (refine wpAny_bind (m := truthy (.bool _)) (wpAny_truthy_bool ?_)) | wp_step)) fun _ _ z => z)))
    | wp_step)
theorem ne_tryV (X : K.In s.heap) (I : PySem.W.InstAt s.heap x ox C od) (hs : PySem.W.findIn K (.ref C) "__eq__" = some (some (.ref f))) (hf : PySem.W.isFn K (.ref f) = true) (hn : PySem.W.findIn K (.ref C) "__ne__" = some (some (.builtin "object.__ne__"))) (hm : PySem.W.mroIn K C (.type "object") = some true)
    (hu : A.units + 1 < cLine) {Q : Option Value → Shared → Prop} (h : wpAny (model prog w) A.in1 (call (.ref f) [.ref x, b]) (fun v s' => ∃ c, v = .bool c ∧ Q (some (.bool (!c))) s') R s) : wpAny (model prog w) A (tryCompare (.ref x) "__ne__" b) Q R s := by
  unfold tryCompare
  have e := ne_entryV (A := A.in1) (b := b) (Q := fun r s' => ∃ c, r = .done (.ret (.bool c)) ∧ Q (some (.bool c)) s') X I hs hf hu (wpAny_mono h (fun v s' z => by obtain ⟨c, hb, q⟩ := z; exact ⟨c, hb, _, rfl, q⟩) fun _ _ z => z)
  refine wpAny_bind (ne_bound X I hn (wpAny_call (codeAny_call_builtin F.cmp_object.ne.plain F.cmpEntry_ne (PySem.W.check_slot F.cmpKind_ne F.cmpSplit_ne (I.type.andThen (PySem.W.looks_mroIn X hm)) (F.cmpArgs_ne _ _) (wpAny_mono e (fun r s' z => ?_) fun _ _ z => z)))))
  obtain ⟨c, rfl, q⟩ := z
  first | exact wpAny_pure q | exact q
/-- own on the left, a built-in type's on the right -/
theorem ne_left {T : String} (X : K.In s.heap) (I : PySem.W.InstAt s.heap x ox C od) (ht : s.TypeIs b T) (hb : PySem.W.subIn K (.type T) (.ref C) = some false) (hs : PySem.W.findIn K (.ref C) "__eq__" = some (some (.ref f))) (hf : PySem.W.isFn K (.ref f) = true) (hn : PySem.W.findIn K (.ref C) "__ne__" = some (some (.builtin "object.__ne__"))) (hm : PySem.W.mroIn K C (.type "object") = some true)
    (hu : A.units + 1 < cLine) {Q : Value → Shared → Prop} (h : wpAny (model prog w) A.in1 (call (.ref f) [.ref x, b]) (fun v s' => ∃ c, v = .bool c ∧ Q (.bool (!c)) s') R s) : wpAny (model prog w) A (richCompare .NotEq (.ref x) b) Q R s := by
  unfold richCompare
  simp only [oneThing_ref]
  refine wpAny_holding (wpAny_bind (wpAny_cRoomFor (Nat.lt_of_succ_lt hu) (wpAny_bind (I.type.here (wpAny_bind (wpAny_typeOf ht ?_))))))
  rw [show (Value.ref C != Value.type T) = true from by simp]
  simp only [if_true]
  refine wpAny_bind ((PySem.W.looks_subIn X hb).here ?_)
  simp only [Bool.false_eq_true, if_false]
  refine wpAny_bind (ne_tryV X I hs hf hn hm hu (wpAny_mono h (fun v s' z => ?_) fun _ _ z => z))
  obtain ⟨c, rfl, q⟩ := z
  first | exact ⟨c, rfl, wpAny_pure q⟩ | exact ⟨c, rfl, wpAny_pure (wpAny_pure q)⟩ | exact ⟨c, rfl, q⟩
/-- a built-in type's on the left, own on the right -/
theorem rich_right {T id : String} {op : CmpOp} {Q : Value → Shared → Prop} (X : K.In s.heap) (J : PySem.W.InstAt s.heap y oy C oe) (ht : s.TypeIs u T) (hs : PySem.W.subIn K (.ref C) (.type T) = some false) (hu : A.units < cLine)
    (h1 : Slot T (cmpInfo op).2.1 id) (hc1 : ∀ Q' : Value → Shared → Prop, Q' .notImplemented s → wpAny (model prog w) A (call (.builtin id) [u, .ref y]) Q' R s)
    (own : wpAny (model prog w) A (tryCompare (.ref y) (cmpInfo op).2.2 u) (fun r s' => ∃ v, r = some v ∧ Q v s') R s) : wpAny (model prog w) A (richCompare op u (.ref y)) Q R s := by
  rcases hi : cmpInfo op with ⟨sym, ff, rr⟩
  rw [hi] at h1 own
  simp only [richCompare, hi, ht.oneThing_none]
  try with_reducible refine wpAny_holding ?_
  refine wpAny_bind (wpAny_cRoomFor hu ?_)
  refine wpAny_bind (wpAny_typeOf ht (wpAny_bind (J.type.here ?_)))
  rw [show (Value.type T != Value.ref C) = true from by simp]
  simp only [if_true]
  refine wpAny_bind ((PySem.W.looks_subIn X hs).here ?_)
  simp only [Bool.false_eq_true, if_false, Bool.not_false, if_true]
  refine wpAny_bind (m := tryCompare u _ _) (wpAny_tryCompare_declines ht h1 (hc1 _ ⟨rfl, ?_⟩))
  refine wpAny_bind (m := tryCompare (.ref y) _ u) (wpAny_mono own (fun r s' z => ?_) fun _ _ z => z)
  obtain ⟨v, rfl, q⟩ := z
  exact wpAny_pure q
theorem eq_tryV (X : K.In s.heap) (I : PySem.W.InstAt s.heap x ox C od) (hs : PySem.W.findIn K (.ref C) "__eq__" = some (some (.ref f))) (hf : PySem.W.isFn K (.ref f) = true) {Q : Value → Shared → Prop} (h : wpAny (model prog w) A (call (.ref f) [.ref x, b]) (PySem.W.CmpBack Q) R s) :
    wpAny (model prog w) A (tryCompare (.ref x) "__eq__" b) (fun r s' => ∃ v, r = some v ∧ Q v s') R s := by
  unfold tryCompare
  refine wpAny_bind (PySem.W.ifBound_K X I hs hf (wpAny_mono h (fun v s' hv => ?_) fun _ _ e => e))
  cases v <;> first | exact hv.elim | exact wpAny_pure ⟨_, rfl, hv⟩
/-- own on the left, a built-in type's on the right, == -/
theorem eq_left {T : String} (X : K.In s.heap) (I : PySem.W.InstAt s.heap x ox C od) (ht : s.TypeIs b T) (hb : PySem.W.subIn K (.type T) (.ref C) = some false) (hs : PySem.W.findIn K (.ref C) "__eq__" = some (some (.ref f))) (hf : PySem.W.isFn K (.ref f) = true)
    (hu : A.units < cLine) {Q : Value → Shared → Prop} (h : wpAny (model prog w) A (call (.ref f) [.ref x, b]) (PySem.W.CmpBack Q) R s) : wpAny (model prog w) A (richCompare .Eq (.ref x) b) Q R s := by
  unfold richCompare
  simp only [oneThing_ref]
  refine wpAny_holding (wpAny_bind (wpAny_cRoomFor hu (wpAny_bind (I.type.here (wpAny_bind (wpAny_typeOf ht ?_))))))
  rw [show (Value.ref C != Value.type T) = true from by simp]
  simp only [if_true]
  refine wpAny_bind ((PySem.W.looks_subIn X hb).here ?_)
  simp only [Bool.false_eq_true, if_false]
  refine wpAny_bind (wpAny_mono (eq_tryV X I hs hf h) (fun r s' z => ?_) fun _ _ z => z)
  obtain ⟨c, rfl, q⟩ := z
  first | exact wpAny_pure q | exact wpAny_pure (wpAny_pure q) | exact q
/-! built-in types' == and != decline an own object -/
theorem int_eq_dn (i : Int) (t : Tok) (dx : Addr) : Meets (Builtin.«int.__eq__» ⟨[.int i t, .ref x], []⟩) (fun _ R s => s.heap.get? x = some (PySem.W.instObj C dx) ∧ R (.ok (.ret .notImplemented)) s) :=
  .of_wp fun prog w A R s h => by obtain ⟨hp, g, d, tk, os⟩ := s; obtain ⟨hl, h⟩ := h; wp_walk using wpAny_loadPart' hl, wpAny_load hl; exact ⟨_, rfl, h⟩
theorem int_ne_dn (i : Int) (t : Tok) (dx : Addr) : Meets (Builtin.«int.__ne__» ⟨[.int i t, .ref x], []⟩) (fun _ R s => s.heap.get? x = some (PySem.W.instObj C dx) ∧ R (.ok (.ret .notImplemented)) s) :=
  .of_wp fun prog w A R s h => by obtain ⟨hp, g, d, tk, os⟩ := s; obtain ⟨hl, h⟩ := h; wp_walk using wpAny_loadPart' hl, wpAny_load hl; exact ⟨_, rfl, h⟩
theorem bool_eq_dn (i : Bool) (dx : Addr) : Meets (Builtin.«int.__eq__» ⟨[.bool i, .ref x], []⟩) (fun _ R s => s.heap.get? x = some (PySem.W.instObj C dx) ∧ R (.ok (.ret .notImplemented)) s) :=
  .of_wp fun prog w A R s h => by obtain ⟨hp, g, d, tk, os⟩ := s; obtain ⟨hl, h⟩ := h; wp_walk using wpAny_loadPart' hl, wpAny_load hl; exact ⟨_, rfl, h⟩
theorem bool_ne_dn (i : Bool) (dx : Addr) : Meets (Builtin.«int.__ne__» ⟨[.bool i, .ref x], []⟩) (fun _ R s => s.heap.get? x = some (PySem.W.instObj C dx) ∧ R (.ok (.ret .notImplemented)) s) :=
  .of_wp fun prog w A R s h => by obtain ⟨hp, g, d, tk, os⟩ := s; obtain ⟨hl, h⟩ := h; wp_walk using wpAny_loadPart' hl, wpAny_load hl; exact ⟨_, rfl, h⟩
theorem str_eq_dn (i : Str) (t : Tok) (dx : Addr) : Meets (Builtin.«str.__eq__» ⟨[.str i t, .ref x], []⟩) (fun _ R s => s.heap.get? x = some (PySem.W.instObj C dx) ∧ R (.ok (.ret .notImplemented)) s) :=
  .of_wp fun prog w A R s h => by obtain ⟨hp, g, d, tk, os⟩ := s; obtain ⟨hl, h⟩ := h; wp_walk using wpAny_loadPart' hl, wpAny_load hl; exact ⟨_, rfl, h⟩
theorem str_ne_dn (i : Str) (t : Tok) (dx : Addr) : Meets (Builtin.«str.__ne__» ⟨[.str i t, .ref x], []⟩) (fun _ R s => s.heap.get? x = some (PySem.W.instObj C dx) ∧ R (.ok (.ret .notImplemented)) s) :=
  .of_wp fun prog w A R s h => by obtain ⟨hp, g, d, tk, os⟩ := s; obtain ⟨hl, h⟩ := h; wp_walk using wpAny_loadPart' hl, wpAny_load hl; exact ⟨_, rfl, h⟩
theorem non_eq_dn (dx : Addr) : Meets (Builtin.«NoneType.__eq__» ⟨[.none, .ref x], []⟩) (fun _ R s => s.heap.get? x = some (PySem.W.instObj C dx) ∧ R (.ok (.ret .notImplemented)) s) :=
  .of_wp fun prog w A R s h => by obtain ⟨hp, g, d, tk, os⟩ := s; obtain ⟨hl, h⟩ := h; wp_walk using wpAny_loadPart' hl, wpAny_load hl; exact ⟨_, rfl, h⟩
theorem non_ne_dn (dx : Addr) : Meets (Builtin.«NoneType.__ne__» ⟨[.none, .ref x], []⟩) (fun _ R s => s.heap.get? x = some (PySem.W.instObj C dx) ∧ R (.ok (.ret .notImplemented)) s) :=
  .of_wp fun prog w A R s h => by obtain ⟨hp, g, d, tk, os⟩ := s; obtain ⟨hl, h⟩ := h; wp_walk using wpAny_loadPart' hl, wpAny_load hl; exact ⟨_, rfl, h⟩
theorem lst_eq_dn (l : Addr) (items : Array Value) (n : Nat) (dd : Option Addr) (sl : Array (Option Value)) (dx : Addr) (hs : PySem.W.subIn K (.ref C) (.type "list") = some false) : Meets (Builtin.«list.__eq__» ⟨[.ref l, .ref x], []⟩) (fun _ R s => (s.heap.get? l = some { cls := .type "list", dict := dd, data := .seq items n, slots := sl } ∧ s.heap.get? x = some (PySem.W.instObj C dx) ∧ K.In s.heap) ∧ R (.ok (.ret .notImplemented)) s) :=
  .of_wp fun prog w A R s h => by
    obtain ⟨hp, g, d, tk, os⟩ := s
    obtain ⟨⟨hl, hx, X⟩, h⟩ := h
    wp_walk using wpAny_loadPart' hl, wpAny_load hl, wpAny_loadPart' hx, wpAny_load hx
    refine (PySem.W.looks_subIn X hs).here ?_
    simp only [Bool.not_false, if_true]
    wp_walk
    exact ⟨_, rfl, h⟩
theorem lst_ne_dn (l : Addr) (items : Array Value) (n : Nat) (dd : Option Addr) (sl : Array (Option Value)) (dx : Addr) (hs : PySem.W.subIn K (.ref C) (.type "list") = some false) : Meets (Builtin.«list.__ne__» ⟨[.ref l, .ref x], []⟩) (fun _ R s => (s.heap.get? l = some { cls := .type "list", dict := dd, data := .seq items n, slots := sl } ∧ s.heap.get? x = some (PySem.W.instObj C dx) ∧ K.In s.heap) ∧ R (.ok (.ret .notImplemented)) s) :=
  .of_wp fun prog w A R s h => by
    obtain ⟨hp, g, d, tk, os⟩ := s
    obtain ⟨⟨hl, hx, X⟩, h⟩ := h
    wp_walk using wpAny_loadPart' hl, wpAny_load hl, wpAny_loadPart' hx, wpAny_load hx
    refine (PySem.W.looks_subIn X hs).here ?_
    simp only [Bool.not_false, if_true]
    wp_walk
    exact ⟨_, rfl, h⟩
theorem tup_eq_dn (l : Addr) (items : Array Value) (n : Nat) (dd : Option Addr) (sl : Array (Option Value)) (dx : Addr) (hs : PySem.W.subIn K (.ref C) (.type "tuple") = some false) : Meets (Builtin.«tuple.__eq__» ⟨[.ref l, .ref x], []⟩) (fun _ R s => (s.heap.get? l = some { cls := .type "tuple", dict := dd, data := .seq items n, slots := sl } ∧ s.heap.get? x = some (PySem.W.instObj C dx) ∧ K.In s.heap) ∧ R (.ok (.ret .notImplemented)) s) :=
  .of_wp fun prog w A R s h => by
    obtain ⟨hp, g, d, tk, os⟩ := s
    obtain ⟨⟨hl, hx, X⟩, h⟩ := h
    wp_walk using wpAny_loadPart' hl, wpAny_load hl, wpAny_loadPart' hx, wpAny_load hx
    refine (PySem.W.looks_subIn X hs).here ?_
    simp only [Bool.not_false, if_true]
    wp_walk
    exact ⟨_, rfl, h⟩
theorem tup_ne_dn (l : Addr) (items : Array Value) (n : Nat) (dd : Option Addr) (sl : Array (Option Value)) (dx : Addr) (hs : PySem.W.subIn K (.ref C) (.type "tuple") = some false) : Meets (Builtin.«tuple.__ne__» ⟨[.ref l, .ref x], []⟩) (fun _ R s => (s.heap.get? l = some { cls := .type "tuple", dict := dd, data := .seq items n, slots := sl } ∧ s.heap.get? x = some (PySem.W.instObj C dx) ∧ K.In s.heap) ∧ R (.ok (.ret .notImplemented)) s) :=
  .of_wp fun prog w A R s h => by
    obtain ⟨hp, g, d, tk, os⟩ := s
    obtain ⟨⟨hl, hx, X⟩, h⟩ := h
    wp_walk using wpAny_loadPart' hl, wpAny_load hl, wpAny_loadPart' hx, wpAny_load hx
    refine (PySem.W.looks_subIn X hs).here ?_
    simp only [Bool.not_false, if_true]
    wp_walk
    exact ⟨_, rfl, h⟩
end
end Bs

namespace Bs
open PySem PySem.Spec PySem.Calls PyProof.Rows L2
def EqT : List String := ["NoneType", "bool", "int", "str", "list", "tuple"]
/-- a value of one of the built-in types that know no own class -/
def Oth (K : PySem.W.Frag) (H : Hp) (y : V) : Prop := ∃ T ∈ EqT, TyOf K H y (.type T)
structure EqA (P : Program) (w : World) (K : PySem.W.Frag) (mg : Str → Option Value) (base : Heap) (C : Addr) (k : Nat) (sp : Sp) : Prop where
  o : EqO P w K mg base C k sp
  sb : ∀ T ∈ EqT, PySem.W.subIn K (.type T) (.ref C) = some false ∧ PySem.W.subIn K (.ref C) (.type T) = some false
def FalX : XK := fun _ _ _ => False
def rEqA (K : PySem.W.Frag) (C : Addr) (sp : Sp) : R2 := fun x y H Q =>
  (∃ a dx fs, x = .ref a ∧ H a = some (.ins C dx fs) ∧ ((∃ b dy gs, y = .ref b ∧ H b = some (.ins C dy gs)) ∨ Oth K H y) ∧ sp [x, y] H Q FalX) ∨ (∃ b dy gs, y = .ref b ∧ H b = some (.ins C dy gs) ∧ Oth K H x ∧ sp [y, x] H Q FalX)
def rNeA (K : PySem.W.Frag) (C : Addr) (sp : Sp) : R2 := fun x y H Q => rEqA K C sp x y H fun v H' => ∃ c, v = .bl c ∧ Q (.bl (!c)) H'
section
variable {X : Cx} {C : Addr} {j k : Nat} {sp : Sp}
/-- such a value's type declines an own object -/
theorem oth_dn {pins : List (Addr × Obj)} {σ : L2.St} {H : Hp} {s : Shared} {x : V} {u : Value} {y dx : Addr} (op : CmpOp) (hop : op = .Eq ∨ op = .NotEq) (I : Inv X pins σ H s) (rx : RelV x u) (o : Oth X.K H x) (hy : s.heap.get? y = some (PySem.W.instObj C dx)) (hs : ∀ T ∈ EqT, PySem.W.subIn X.K (.ref C) (.type T) = some false) :
    ∃ (T id : String), T ∈ EqT ∧ s.TypeIs u T ∧ Slot T (cmpInfo op).2.1 id ∧ ∀ (A : Around) (E Q' : Value → Shared → Prop), Q' .notImplemented s → wpAny (model X.prog X.w) A (call (.builtin id) [u, .ref y]) Q' E s := by
  obtain ⟨T, hT, t⟩ := o
  have seqL : ∀ (a : Addr) (xs : List V), SqL X.K H a xs → x = .ref a → T = "list" → ∃ (T id : String), T ∈ EqT ∧ s.TypeIs u T ∧ Slot T (cmpInfo op).2.1 id ∧ ∀ (A : Around) (E Q' : Value → Shared → Prop), Q' .notImplemented s → wpAny (model X.prog X.w) A (call (.builtin id) [u, .ref y]) Q' E s := by
    intro a xs sq ex eT
    subst ex eT
    obtain rfl : u = Value.ref a := rx
    obtain ⟨its, r, pl, hz⟩ := I.list sq
    obtain ⟨⟨cls, dd, data, sl⟩, ho, hc, n, hd⟩ := id pl.isList
    simp only at hc hd
    subst hc hd
    rcases hop with rfl | rfl
    · exact ⟨"list", _, hT, ⟨_, ho, rfl⟩, F.slot_list_eq, fun A E Q' q => call_meets F.slot_list_eq ⟨_, ho, rfl⟩ F.entry_list_eq (F.args_list_eq_2 _ _) (lst_eq_dn a _ n dd sl dx (hs _ hT)) ⟨⟨ho, hy, I.kIn⟩, q⟩⟩
    · exact ⟨"list", _, hT, ⟨_, ho, rfl⟩, F.slot_list_ne, fun A E Q' q => call_meets F.slot_list_ne ⟨_, ho, rfl⟩ F.entry_list_ne (F.args_list_ne_2 _ _) (lst_ne_dn a _ n dd sl dx (hs _ hT)) ⟨⟨ho, hy, I.kIn⟩, q⟩⟩
  generalize hV : (Value.type T) = tv at t
  cases t with
  | non =>
    cases hV
    cases (show u = Value.none from rx)
    rcases hop with rfl | rfl
    · exact ⟨"NoneType", _, hT, rfl, F.slot_NoneType_eq, fun A E Q' q => call_meets F.slot_NoneType_eq rfl F.entry_NoneType_eq (F.args_NoneType_eq_2 _ _) (non_eq_dn dx) ⟨hy, q⟩⟩
    · exact ⟨"NoneType", _, hT, rfl, F.slot_NoneType_ne, fun A E Q' q => call_meets F.slot_NoneType_ne rfl F.entry_NoneType_ne (F.args_NoneType_ne_2 _ _) (non_ne_dn dx) ⟨hy, q⟩⟩
  | bl b =>
    cases hV
    cases (show u = Value.bool b from rx)
    rcases hop with rfl | rfl
    · exact ⟨"bool", _, hT, rfl, F.slot_bool_eq, fun A E Q' q => call_meets F.slot_bool_eq rfl F.entry_int_eq (F.args_int_eq_2 _ _) (bool_eq_dn b dx) ⟨hy, q⟩⟩
    · exact ⟨"bool", _, hT, rfl, F.slot_bool_ne, fun A E Q' q => call_meets F.slot_bool_ne rfl F.entry_int_ne (F.args_int_ne_2 _ _) (bool_ne_dn b dx) ⟨hy, q⟩⟩
  | int i =>
    cases hV
    obtain ⟨t, q⟩ := (show ∃ t, u = Value.int i t from rx)
    subst q
    rcases hop with rfl | rfl
    · exact ⟨"int", _, hT, typeIs_int _ _ _, F.slot_int_eq, fun A E Q' q => call_meets F.slot_int_eq (typeIs_int _ _ _) F.entry_int_eq (F.args_int_eq_2 _ _) (int_eq_dn i t dx) ⟨hy, q⟩⟩
    · exact ⟨"int", _, hT, typeIs_int _ _ _, F.slot_int_ne, fun A E Q' q => call_meets F.slot_int_ne (typeIs_int _ _ _) F.entry_int_ne (F.args_int_ne_2 _ _) (int_ne_dn i t dx) ⟨hy, q⟩⟩
  | str z =>
    cases hV
    obtain ⟨t, q⟩ := (show ∃ t, u = Value.str z t from rx)
    subst q
    rcases hop with rfl | rfl
    · exact ⟨"str", _, hT, typeIs_str _ _ _, F.slot_str_eq, fun A E Q' q => call_meets F.slot_str_eq (typeIs_str _ _ _) F.entry_str_eq (F.args_str_eq_2 _ _) (str_eq_dn z t dx) ⟨hy, q⟩⟩
    · exact ⟨"str", _, hT, typeIs_str _ _ _, F.slot_str_ne, fun A E Q' q => call_meets F.slot_str_ne (typeIs_str _ _ _) F.entry_str_ne (F.args_str_ne_2 _ _) (str_ne_dn z t dx) ⟨hy, q⟩⟩
  | flt z => cases hV; exact absurd hT (by decide)
  | lst e => cases hV; exact seqL _ _ (SqL.of e) rfl rfl
  | frz e => cases hV; exact seqL _ _ (.inl (.inr ⟨_, e⟩)) rfl rfl
  | @tup a xs e =>
    cases hV
    cases (show u = Value.ref a from rx)
    obtain ⟨its, r, pl, hz⟩ := I.tuple (SqT.of e)
    obtain ⟨⟨cls, dd, data, sl⟩, ho, hc, n, hd⟩ := id pl
    simp only at hc hd
    subst hc hd
    rcases hop with rfl | rfl
    · exact ⟨"tuple", _, hT, ⟨_, ho, rfl⟩, F.slot_tuple_eq, fun A E Q' q => call_meets F.slot_tuple_eq ⟨_, ho, rfl⟩ F.entry_tuple_eq (F.args_tuple_eq_2 _ _) (tup_eq_dn a _ n dd sl dx (hs _ hT)) ⟨⟨ho, hy, I.kIn⟩, q⟩⟩
    · exact ⟨"tuple", _, hT, ⟨_, ho, rfl⟩, F.slot_tuple_ne, fun A E Q' q => call_meets F.slot_tuple_ne ⟨_, ho, rfl⟩ F.entry_tuple_ne (F.args_tuple_ne_2 _ _) (tup_ne_dn a _ n dd sl dx (hs _ hT)) ⟨⟨ho, hy, I.kIn⟩, q⟩⟩
  | dK e => cases hV; exact absurd hT (by decide)
  | dT e => cases hV; exact absurd hT (by decide)
  | ins e => cases hV
theorem op_eqA (c : EqA X.prog X.w X.K X.mg X.base C k sp) (hr : Room j X.A) (hk : k + 1 ≤ j) : OpR X (compareOp .Eq) (rEqA X.K C sp) := by
  intro pins s σ H x y v u Q I rx ry h
  obtain ⟨f, mf⟩ := c.o.ex
  obtain ⟨m, hF⟩ := I.fr
  rcases h with ⟨a, dx, fs, rfl, ea, hy, q⟩ | ⟨b, dy, gs, rfl, eb, ox, q⟩
  · obtain rfl : v = Value.ref a := rx
    obtain ⟨mA, O, _⟩ := ins_get I.hok ea
    obtain ⟨oa, J, _⟩ := O.look
    have run := mf.call (vs := [.ref a, y]) hr (Nat.le_trans (Nat.le_succ _) hk) psE0 I (.cons rfl (.cons ry .nil)) q
    show wpAny (model X.prog X.w) X.A (richCompare .Eq (.ref a) u) (EP X pins σ Q) X.xe s
    rcases hy with ⟨b, dy, gs, rfl, eb⟩ | o
    · obtain rfl : u = Value.ref b := ry
      obtain ⟨mB, O', _⟩ := ins_get I.hok eb
      obtain ⟨ob, J', _⟩ := O'.look
      exact PySem.W.cmp_K (op := .Eq) (tb := .ref C) hr.units0 hF I.ok.mod.kin J J'.type c.o.nf mf.at_ mf.fn (wpAny_mono run (fun _ _ z => back_of z) fun _ _ z => z)
    · obtain ⟨T, id, hT, ht, _, _⟩ := oth_dn (y := a) (dx := dx) .Eq (.inl rfl) I ry o O.obj (fun T hT => (c.sb T hT).2)
      exact eq_left I.kIn J ht (c.sb T hT).1 mf.at_ mf.fn hr.units0 (wpAny_mono run (fun _ _ z => back_of z) fun _ _ z => z)
  · obtain rfl : u = Value.ref b := ry
    obtain ⟨mB, O, _⟩ := ins_get I.hok eb
    obtain ⟨ob, J, _⟩ := O.look
    obtain ⟨T, id, hT, ht, sl, dn⟩ := oth_dn (y := b) (dx := dy) .Eq (.inl rfl) I rx ox O.obj (fun T hT => (c.sb T hT).2)
    have run := mf.call (vs := [.ref b, x]) hr (Nat.le_trans (Nat.le_succ _) hk) psE0 I (.cons rfl (.cons rx .nil)) q
    show wpAny (model X.prog X.w) X.A (richCompare .Eq v (.ref b)) (EP X pins σ Q) X.xe s
    exact rich_right I.kIn J ht (c.sb T hT).2 hr.units0 sl (fun Q' q => dn _ _ Q' q) (eq_tryV I.kIn J mf.at_ mf.fn (wpAny_mono run (fun _ _ z => back_of z) fun _ _ z => z))
theorem op_neA (c : EqA X.prog X.w X.K X.mg X.base C k sp) (hr : Room j X.A) (hk : k + 1 ≤ j) : OpR X (compareOp .NotEq) (rNeA X.K C sp) := by
  intro pins s σ H x y v u Q I rx ry h
  obtain ⟨f, mf⟩ := c.o.ex
  obtain ⟨m, hF⟩ := I.fr
  have hu : X.A.units + 1 < cLine := hu_of hr
  rcases h with ⟨a, dx, fs, rfl, ea, hy, q⟩ | ⟨b, dy, gs, rfl, eb, ox, q⟩
  · obtain rfl : v = Value.ref a := rx
    obtain ⟨mA, O, _⟩ := ins_get I.hok ea
    obtain ⟨oa, J, _⟩ := O.look
    have run := mf.call1 (vs := [.ref a, y]) (hr.mono hk) psE0 I (.cons rfl (.cons ry .nil)) q
    have fin : ∀ (r : Value) (s' : Shared), EP X pins σ (fun v H' => ∃ c, v = .bl c ∧ Q (.bl (!c)) H') r s' → ∃ c, r = Value.bool c ∧ EP X pins σ Q (Value.bool (!c)) s' := fun r s' z => by
      obtain ⟨x, H', I', r1, c, rfl, q1⟩ := z
      obtain rfl : r = Value.bool c := r1
      exact ⟨c, rfl, .bl (!c), H', I', rfl, q1⟩
    show wpAny (model X.prog X.w) X.A (richCompare .NotEq (.ref a) u) (EP X pins σ Q) X.xe s
    rcases hy with ⟨b, dy, gs, rfl, eb⟩ | o
    · obtain rfl : u = Value.ref b := ry
      obtain ⟨mB, O', _⟩ := ins_get I.hok eb
      obtain ⟨ob, J', _⟩ := O'.look
      exact ne_rich I.kIn J J' mf.at_ mf.fn c.o.hn c.o.hm hu (wpAny_mono run (fun r s' z => fin r s' z) fun _ _ z => z)
    · obtain ⟨T, id, hT, ht, _, _⟩ := oth_dn (y := a) (dx := dx) .NotEq (.inr rfl) I ry o O.obj (fun T hT => (c.sb T hT).2)
      exact ne_left I.kIn J ht (c.sb T hT).1 mf.at_ mf.fn c.o.hn c.o.hm hu (wpAny_mono run (fun r s' z => fin r s' z) fun _ _ z => z)
  · obtain rfl : u = Value.ref b := ry
    obtain ⟨mB, O, _⟩ := ins_get I.hok eb
    obtain ⟨ob, J, _⟩ := O.look
    obtain ⟨T, id, hT, ht, sl, dn⟩ := oth_dn (y := b) (dx := dy) .NotEq (.inr rfl) I rx ox O.obj (fun T hT => (c.sb T hT).2)
    have run := mf.call1 (vs := [.ref b, x]) (hr.mono hk) psE0 I (.cons rfl (.cons rx .nil)) q
    show wpAny (model X.prog X.w) X.A (richCompare .NotEq v (.ref b)) (EP X pins σ Q) X.xe s
    refine rich_right I.kIn J ht (c.sb T hT).2 hr.units0 sl (fun Q' q => dn _ _ Q' q) (ne_tryV I.kIn J mf.at_ mf.fn c.o.hn c.o.hm hu (wpAny_mono run (fun r s' z => ?_) fun _ _ z => z))
    obtain ⟨x', H', I', r1, c', rfl, q1⟩ := z
    obtain rfl : r = Value.bool c' := r1
    exact ⟨c', rfl, _, rfl, .bl (!c'), H', I', rfl, q1⟩
end
end Bs

set_option Elab.async false
set_option linter.all false
set_option maxRecDepth 100000
set_option maxHeartbeats 2000000
/-! enumerate over a tuple -/
namespace Bs
open PySem PySem.Spec PyProof.Rows L2
theorem meets_enumT (t : Addr) (items : Array Value) :
    Meets (Builtin.«enumerate.__new__» ⟨[.type "enumerate", .ref t], []⟩) (fun _ R s => s.heap.IsTuple t items ∧
      R (.ok (.ret (.ref (s.heap.push { cls := .type "tuple_iterator", data := .fields #[.ref t, .int 0 0] }).objs.size)))
        { s with heap := (s.heap.push { cls := .type "tuple_iterator", data := .fields #[.ref t, .int 0 0] }).push { cls := .type "enumerate", data := .fields #[.none, .bool false, .ref s.heap.objs.size, rawInt 0, .none, .none] } }) :=
  .of_wp fun prog w A R s h => by
    obtain ⟨hp, g, d, tk, os⟩ := s; obtain ⟨h1, h⟩ := h
    have hsub := sub_enumerate
    have q1 : ∀ {A' : Around} {E : Value → Shared → Prop} {Q : Value → Shared → Prop}, Q (.ref hp.objs.size) ⟨hp.push { cls := .type "tuple_iterator", data := .fields #[.ref t, .int 0 0] }, g, d, tk, os⟩ → wpAny (model prog w) A' (pyIter (.ref t)) Q E ⟨hp, g, d, tk, os⟩ :=
      fun q => (begins_tuple t items).iter prog w _ _ ⟨hp, g, d, tk, os⟩ _ h1 q
    wp_walk using q1
    refine wpAny_stack_any fun st => wpAny_pure ?_
    split
    · rename_i c _ _ _ _ _
      cases (c == Value.type "enumerate")
      · wp_walk using q1
        exact ⟨_, rfl, h⟩
      · wp_walk using q1
        exact ⟨_, rfl, h⟩
    · wp_walk using q1
      exact ⟨_, rfl, h⟩
theorem call_enumT {prog : Program} {w : World} {A : Around} {E : Value → Shared → Prop} {s : Shared} {l : Addr} {items : Array Value} {Q : Value → Shared → Prop} (hL : s.heap.IsTuple l items)
    (h : ∀ h', IsEnum h' (s.heap.objs.size + 1) s.heap.objs.size 0 .none → h'.IsTupleIter s.heap.objs.size l 0 → h'.objs.size = s.heap.objs.size + 2 →
      (∀ b o, s.heap.get? b = some o → h'.get? b = some o) → Q (.ref (s.heap.objs.size + 1)) { s with heap := h' }) :
    wpAny (model prog w) A (call (.type "enumerate") [.ref l]) Q E s := by
  refine callType_new F.called_enumerate (by decide) (F.typeCall_enumerate_1 _) (F.newCall_enumerate_1 _) (fun obj => F.args_object_init_2 obj _) F.entry_enumerate_new
    (meets_enumT l items) ⟨hL, ?_⟩
  have hz : (s.heap.push { cls := .type "tuple_iterator", data := .fields #[.ref l, .int 0 0] }).objs.size = s.heap.objs.size + 1 := Heap.size_push ..
  show _ ∧ _
  rw [hz]
  have he : IsEnum ((s.heap.push { cls := .type "tuple_iterator", data := .fields #[.ref l, .int 0 0] }).push
      { cls := .type "enumerate", data := .fields #[.none, .bool false, .ref s.heap.objs.size, rawInt 0, .none, .none] }) (s.heap.objs.size + 1) s.heap.objs.size 0 .none := by
    have := Heap.get?_push_size (s.heap.push { cls := .type "tuple_iterator", data := .fields #[.ref l, .int 0 0] })
      (o := { cls := .type "enumerate", data := .fields #[.none, .bool false, .ref s.heap.objs.size, rawInt 0, .none, .none] }) rfl
    rw [hz] at this; exact this
  refine ⟨⟨_, he, rfl⟩, h _ he ⟨_, Heap.get?_push_of_some _ (Heap.get?_push_size _ rfl), rfl, rfl⟩ (by rw [Heap.size_push, hz]) fun b o x => Heap.get?_push_of_some _ (Heap.get?_push_of_some _ x)⟩
/-- the tuple at a as it stands at each turn, each item in a new pair -/
def IteT (K : PySem.W.Frag) (a : Addr) : It :=
  ⟨fun i H => ∃ (xs : List V) (x : V), SqT K H a xs ∧ xs[i]? = some x, fun i H v H' => ∃ T x, v = .ref T ∧ H T = none ∧ H' = upd H T (.tup [.int (i : Nat), x]) ∧ ∀ xs, SqT K H a xs → xs[i]? = some x, fun i H => ∃ xs : List V, SqT K H a xs ∧ xs.length ≤ i⟩
theorem turn_enumT {P : Program} {w : World} {K : PySem.W.Frag} {elts : List Expr} {kk : Nat} {tpos : Pos} (a e it : Addr) :
    Turn P w K (.Tuple elts kk tpos) (IteT K a) [e, it] e (fun i h => (∃ old, IsEnum h e it ((i : Nat) : Int) old) ∧ h.IsTupleIter it a i ∧ e ≠ it) where
  mem := by simp
  obj := fun i h st b hb => by
    obtain ⟨⟨old, he⟩, ⟨o, ho, hc, hd⟩, _⟩ := st
    have e' : b = e ∨ b = it := by simpa using hb
    rcases e' with z | z
    · rw [z]; exact ⟨_, he, fun v q => nomatch q⟩
    · rw [z]; exact ⟨o, ho, fun v q => by rw [hd] at q; cases q⟩
  keep := fun i h h' st k => let ⟨⟨old, he⟩, hi, hne⟩ := st; ⟨⟨old, k e (by simp) _ he⟩, hi.at fun o q => k it (by simp) o q, hne⟩
  item := by
    intro X hP hw hK hc i pins s σ H E I hf st hg
    subst hP hw hK
    obtain ⟨⟨old, he⟩, hit, hne⟩ := st
    obtain ⟨xs, x, hq, hx⟩ := hg
    obtain ⟨its, rv, p, hz⟩ := I.tuple hq
    have p : s.heap.IsTuple a its.toArray := p
    obtain ⟨u, hu, ru⟩ := rv.get hx
    have hel : e < s.heap.objs.size := Heap.lt_size he
    have hil : it < s.heap.objs.size := by obtain ⟨_, q, _⟩ := hit; exact Heap.lt_size q
    have hea : e ≠ a := fun z => by
      obtain ⟨o, ho, hc1, _⟩ := p
      subst z
      have he2 : s.heap.get? e = _ := he
      rw [ho] at he2
      rw [Option.some.inj he2] at hc1
      exact absurd (Value.type.inj (show Value.type "enumerate" = Value.type "tuple" from hc1)) (by decide)
    have hai : a ≠ it := fun z => by
      obtain ⟨o, ho, hc1, _⟩ := p
      obtain ⟨o2, ho2, hc2, _⟩ := hit
      rw [z, ho2] at ho
      rw [Option.some.inj ho, hc1] at hc2
      exact absurd hc2 (by decide)
    have hlt : i < its.toArray.size := by
      have := (List.getElem?_eq_some_iff.mp hu).1
      simpa using this
    refine wpAny_pyNext_enum_itemD (Draws.tuple (A := X.A.in1) (I.ok.hd hc) it a hai its.toArray) he ⟨hit, p⟩ hlt hne (by simp [hne, hea]) fun v h' tk hP ho st' hT hsz hk => ?_
    have ev : v = u := by
      have h1 : its.toArray[i]? = some u := by simpa using hu
      rw [h1] at hP
      exact (Option.some.inj hP).symm
    subst ev
    refine ⟨_, rfl, wpAny_letOwnedTupleGo_enum (s := { s with heap := h', toks := tk + 1 }) ho fun h'' he' sb => ?_⟩
    have hT2 : h''.get? s.heap.objs.size = some { cls := .type "tuple", data := .seq #[.int i tk, v] } := (sb.2 _ (Nat.ne_of_gt hel)).trans hT
    have new : ObjOk X.prog X.w (upd H s.heap.objs.size (.tup [.int (i : Nat), x])) h'' s.heap.objs.size (.tup [.int (i : Nat), x]) :=
      ⟨by show 2 ≤ sizeLine; decide, [.int i tk, v], .cons ⟨_, rfl⟩ (.cons ru .nil), ⟨_, hT2, rfl, _, rfl⟩⟩
    have I1 : Inv X pins σ (upd H s.heap.objs.size (.tup [.int (i : Nat), x])) { s with heap := h'', toks := tk + 1 } :=
      I.turnedNew (ch := [e, it]) (fun b ob hb q => (sb.2 b (fun z => hb (by simp [z]))).trans (hk b ob (fun z => hb (by simp [z])) (fun z => hb (by simp [z])) q)) hf (Nat.le_refl _) new
    refine ⟨.ref s.heap.objs.size, _, I1, rfl, ⟨_, x, rfl, I.hok.fresh (Nat.le_refl _), rfl, fun ys hy => by rw [I.tuple_inj hy hq]; exact hx⟩, ⟨⟨v, ?_⟩, st'.1.at fun o q => (sb.2 it (Ne.symm hne)).trans q, hne⟩, fun b hb => ?_⟩
    · have e1 : ((i + 1 : Nat) : Int) = (i : Int) + 1 := by omega
      rw [e1]; exact he'
    · have hb' : b < s.heap.objs.size := by
        have e' : b = e ∨ b = it := by simpa using hb
        rcases e' with z | z
        · rw [z]; exact hel
        · rw [z]; exact hil
      rw [upd_ne (Nat.ne_of_lt hb')]
      exact (hf b hb).1
  done := by
    intro X hP hw hK hc i pins s σ H E I hf st hg
    subst hP hw hK
    obtain ⟨⟨old, he⟩, hit, hne⟩ := st
    obtain ⟨xs, hq, hx⟩ := hg
    obtain ⟨its, rv, p, hz⟩ := I.tuple hq
    have p : s.heap.IsTuple a its.toArray := p
    obtain ⟨f0, f1, f2, f3, f4, f5⟩ := hf it (by simp)
    have hl := rv.length
    have D : Draws X.prog X.w X.A.in1 it [it, a] i (fun _ _ => True) (fun j h => j = i ∧ h.IsTupleIter it a i ∧ h.IsTuple a its.toArray) :=
      { live := fun _ _ st => let ⟨o, ho, _⟩ := st.2.1; ⟨o, ho⟩
        frame := fun _ _ _ st hk => ⟨st.1, st.2.1.at fun o e => hk it (by simp) o e, st.2.2.at fun o e => hk a (by simp) o e⟩
        item := fun j s Q E hj st => absurd st.1 (Nat.ne_of_lt hj)
        done := fun s Q E st hE => wpAny_nextOf_tuple_end (I.ok.hd hc) st.2.1 st.2.2 (by simp; omega) hE }
    exact wpAny_pyNext_enum_endD D he ⟨rfl, hit, p⟩ fun h' eb => ⟨rfl, I.turned (t' := s.toks) (fun b o hb q => eb b o hb q) f0 f1 f3 f4 f5⟩
  self := fun A i s Q E st h => let ⟨⟨_, he⟩, _⟩ := st; wpAny_pyIter_enum he h
def iEnumT (K : PySem.W.Frag) (ta : TA) : TI := fun σ H R => ta σ H fun vs H1 => ∃ a xs, vs = [.ref a] ∧ SqT K H1 a xs ∧ R (IteT K a) H1
theorem pi_enumT {X : Cx} {e : Expr} {ta : TA} {p pos tpos : Pos} {elts : List Expr} {kk : Nat} (hg : Gl X "enumerate") (hm : X.mg "enumerate" = none) (ha : PA X [e] ta) (hs : starEach [e] X.env = [(false, eval e X.env)] := by rfl) :
    PI X (.Tuple elts kk tpos) (.Call (.Name "enumerate" p) [e] [] pos) (iEnumT X.K ta) := by
  refine ⟨fun pins s σ H R I h => ?_⟩
  refine Call_ (ld_blt I hg hm boot_enumerate (PyProof.Rows.callWith_type1 (thn (ha.run pos pins s σ H _ I h) fun us s1 ⟨vs, H1, I1, r1, q1⟩ => ?_) hs rfl))
  obtain ⟨a, xs, ex, hq, q⟩ := q1
  subst ex
  cases r1 with
  | cons r rr =>
    cases rr
    cases r
    obtain ⟨its, rv, p', hz⟩ := I1.tuple hq
    refine call_enumT (show s1.heap.IsTuple a its.toArray from p') fun h' he hit hsz hk => wpAny_pyIter_enum he ?_
    have I2 : Inv X pins σ H1 { s1 with heap := h' } := I1.kept (t' := s1.toks) hk
    refine ⟨s1.heap.objs.size + 1, [s1.heap.objs.size + 1, s1.heap.objs.size], _, _, H1, rfl, I2, turn_enumT a (s1.heap.objs.size + 1) s1.heap.objs.size, ⟨⟨.none, he⟩, hit, Nat.succ_ne_self _⟩, fun b hb => ?_, q⟩
    have e' : b = s1.heap.objs.size + 1 ∨ b = s1.heap.objs.size := by simpa using hb
    have hle : s1.heap.objs.size ≤ b := by
      rcases e' with z | z
      · rw [z]; exact Nat.le_add_right _ _
      · rw [z]; exact Nat.le_refl _
    exact I1.fpOk hle (I1.hok.fresh hle)
/-- enumerate over a list or a tuple -/
def iEnumA (K : PySem.W.Frag) (ta : TA) : TI := fun σ H R => ta σ H fun vs H1 => ∃ a xs, vs = [.ref a] ∧ ((SqL K H1 a xs ∧ R (Ite K a) H1) ∨ (SqT K H1 a xs ∧ R (IteT K a) H1))
theorem pi_enumA {X : Cx} {e : Expr} {ta : TA} {p pos tpos : Pos} {elts : List Expr} {kk : Nat} (hg : Gl X "enumerate") (hm : X.mg "enumerate" = none) (ha : PA X [e] ta) (hs : starEach [e] X.env = [(false, eval e X.env)] := by rfl) :
    PI X (.Tuple elts kk tpos) (.Call (.Name "enumerate" p) [e] [] pos) (iEnumA X.K ta) := by
  refine ⟨fun pins s σ H R I h => ?_⟩
  refine Call_ (ld_blt I hg hm boot_enumerate (PyProof.Rows.callWith_type1 (thn (ha.run pos pins s σ H _ I h) fun us s1 ⟨vs, H1, I1, r1, q1⟩ => ?_) hs rfl))
  obtain ⟨a, xs, ex, q⟩ := q1
  subst ex
  cases r1 with
  | cons r rr =>
    cases rr
    cases r
    have fp : ∀ b ∈ [s1.heap.objs.size + 1, s1.heap.objs.size], FpOk X pins H1 b := fun b hb => by
      have e' : b = s1.heap.objs.size + 1 ∨ b = s1.heap.objs.size := by simpa using hb
      have hle : s1.heap.objs.size ≤ b := by
        rcases e' with z | z
        · rw [z]; exact Nat.le_add_right _ _
        · rw [z]; exact Nat.le_refl _
      exact I1.fpOk hle (I1.hok.fresh hle)
    rcases q with ⟨hq, q⟩ | ⟨hq, q⟩
    · obtain ⟨its, rv, p', hz⟩ := I1.list hq
      refine call_enumerate_list p'.isList fun h' he hit hsz hk => wpAny_pyIter_enum he ?_
      have I2 : Inv X pins σ H1 { s1 with heap := h' } := I1.kept (t' := s1.toks) hk
      exact ⟨s1.heap.objs.size + 1, [s1.heap.objs.size + 1, s1.heap.objs.size], _, _, H1, rfl, I2, turn_enum a (s1.heap.objs.size + 1) s1.heap.objs.size, ⟨⟨.none, he⟩, hit, Nat.succ_ne_self _⟩, fp, q⟩
    · obtain ⟨its, rv, p', hz⟩ := I1.tuple hq
      refine call_enumT (show s1.heap.IsTuple a its.toArray from p') fun h' he hit hsz hk => wpAny_pyIter_enum he ?_
      have I2 : Inv X pins σ H1 { s1 with heap := h' } := I1.kept (t' := s1.toks) hk
      exact ⟨s1.heap.objs.size + 1, [s1.heap.objs.size + 1, s1.heap.objs.size], _, _, H1, rfl, I2, turn_enumT a (s1.heap.objs.size + 1) s1.heap.objs.size, ⟨⟨.none, he⟩, hit, Nat.succ_ne_self _⟩, fp, q⟩
/-- a loop over enumerate of a tuple -/
theorem for_enumT {K : PySem.W.Frag} {a : Addr} {xs : List V} {g : TG} {tb : TS} {D : Ends} {σ : L2.St} {H : Hp} (Pv : Nat → L2.St → Hp → Prop) (h0 : Pv 0 σ H) (hl : ∀ i σ H, i ≤ xs.length → Pv i σ H → SqT K H a xs)
    (hs : ∀ i x σ H p, xs[i]? = some x → Pv i σ H → H p = none → g (.ref p) σ (upd H p (.tup [.int (i : Nat), x])) fun σ2 H2 => tb { D with nx := Pv (i + 1), ct := Pv (i + 1), bk := D.nx } σ2 H2) (hd : ∀ σ H, Pv xs.length σ H → D.nx σ H) :
    ∃ W : Nat → Nat → L2.St → Hp → Prop, (∃ m, W 0 m σ H) ∧ ∀ i m σ H, W i m σ H →
      ((IteT K a).stop i H ∧ D.nx σ H) ∨ ((IteT K a).go i H ∧ ∃ N : L2.St → Hp → Prop, (∀ σ' H', N σ' H' → ∃ m', m' < m ∧ W (i + 1) m' σ' H') ∧ ∀ y H', (IteT K a).yld i H y H' → g y σ H' fun σ2 H2 => tb { D with nx := N, ct := N, bk := D.nx } σ2 H2) := by
  refine ⟨fun i m σ H => m = xs.length - i ∧ i ≤ xs.length ∧ Pv i σ H, ⟨xs.length, by simp, Nat.zero_le _, h0⟩, ?_⟩
  rintro i m σ H ⟨rfl, hi, p⟩
  have sq := hl i σ H hi p
  by_cases hlt : i < xs.length
  · refine .inr ⟨⟨xs, xs[i], sq, List.getElem?_eq_getElem hlt⟩, Pv (i + 1), fun σ' H' p' => ⟨xs.length - (i + 1), by omega, rfl, hlt, p'⟩, fun y H' z => ?_⟩
    obtain ⟨T, x, rfl, nT, rfl, hx⟩ := z
    exact hs i x σ H T (hx xs sq) p nT
  · have e : i = xs.length := by omega
    subst e
    exact .inl ⟨⟨xs, sq, Nat.le_refl _⟩, hd σ H p⟩
end Bs

set_option Elab.async false
set_option linter.all false
set_option maxRecDepth 100000
set_option maxHeartbeats 4000000
/-! The end of a law whose def must know that no repr is under way; the head's facts. -/
namespace Bs
open PySem PySem.Spec PySem.Calls PyProof.Rows L2
theorem toV_ints : ∀ {vs : List Value} {ns : List Int}, IntsAre vs ns → vs.map toV = ns.map V.int ∧ ∀ u ∈ vs, ∀ A, OkU A u
  | _, _, .nil => ⟨rfl, fun u h => by cases h⟩
  | _, _, .cons n t h => by
    obtain ⟨e, g⟩ := toV_ints h
    refine ⟨?_, fun u hu A => ?_⟩
    · show V.int n :: _ = V.int n :: _
      rw [e]
    · rcases List.mem_cons.mp hu with q | q
      · rw [q]; exact trivial
      · exact g u q A
section
variable {P : Program} {w : World} {K : PySem.W.Frag} {mg mb : Str → Option Value} {k : Nat} {fa a : Addr} {fd : FuncData} {x : Str} {sp : Sp} {s : Shared} {vs : List Value} {ns : List Int}
theorem law_callG (X : K.In s.heap) (G : s.heap.Ns mainGlobals mg) (GB : s.heap.Ns builtinsNs mb) (bb : ∀ x : Str, x ≠ "__name__" → mb x = bootBuiltins x) (nl : s.heap.NoLimit) (ng : s.gens = #[]) (la : s.heap.get? a = some { cls := .type "list", data := .seq vs.toArray })
    (ia : IntsAre vs ns) (le : ns.length ≤ sizeLine) (rm : Room k callerA) (F : ∀ b : Heap, K.In b → b.Ns mainGlobals mg → FnG P w K mg b CX0 k fa fd [x] sp) (bi : ∀ (s : Shared) (u : Value), BindsTo s fd ⟨[u], []⟩ [(x, u)])
    (wish : ∀ H : Hp, SqL K H a (ns.map V.int) → sp [.ref a] H (fun v _ => v = .bl true) E0) :
    codeAny (model P w) callerA (.call (.ref fa) ⟨[.ref a], []⟩) (fun r t => r = .ok (.ret (.bool true)) ∧ OldK s.heap t.heap ∧ t.os = s.os ∧ AllBare t.gens) s := by
  obtain ⟨ev, eu⟩ := toV_ints ia
  have ar : ∀ b ∈ [a], ArgOb s.heap [a] b := fun b m => by
    obtain rfl := List.mem_singleton.mp m
    exact ⟨vs, by rw [ia.length]; exact le, fun u m => eu u m _, .inl la⟩
  generalize hH : argH K s.heap [a] = H
  have ok : HOk P w H s.heap := hH ▸ argH_ok ar
  have on : OnlyF H := hH ▸ argH_only ar
  have sq : SqL K H a (ns.map V.int) := ev ▸ (hH ▸ (argL X ar (List.mem_singleton_self a) la).2)
  have at_ : ∀ {b : Addr} {u : HO}, H b = some u → b = a ∧ K.lookup b = none := fun {b u} e => by
    rw [← hH] at e
    exact ⟨List.mem_singleton.mp (of_argH e).1, (of_argH e).2⟩
  have lo : ∀ {b : Addr} {o : Obj}, s.heap.get? b = some o → (b = a → K.lookup b ≠ none) → (hidT s.heap H).get? b = some o := fun {b o} e n => by
    refine hidT_get e ?_
    cases q : H b with
    | none => rfl
    | some u => exact absurd (at_ q).2 (n (at_ q).1)
  have kb : K.In (hidT s.heap H) := fun b o e => lo (X b o e) fun _ z => by rw [z] at e; cases e
  have nsb : ∀ {b : Addr} {m : Str → Option Value}, s.heap.Ns b m → (hidT s.heap H).Ns b m := by
    rintro b m ⟨o, es, p, e, d, r⟩
    refine ⟨o, es, p, lo e fun z => ?_, d, r⟩
    subst z
    rw [la] at e
    cases e
    exact nomatch d
  have md : Mod K mg (hidT s.heap H) := by
    obtain ⟨mc, c1, c2⟩ := nl
    exact ⟨kb, nsb G, ⟨mb, nsb GB, bb⟩, ⟨mc, nsb c1, c2⟩⟩
  have en : Env0 P w K mg (hidT s.heap H) callerA [] s H := ⟨rfl, md, fun b o => of_hidT, Nat.le_of_eq (hidT_size _ _), trivial, fun b m => (nomatch (show b ∈ ([] : List Addr) from m)), ok, .of_eq ng⟩
  refine codeAny_mono ((F _ kb (nsb G)).go callerA [] s H ⟨[.ref a], []⟩ [.ref a] [.ref a] _ _ rfl rm en (bi s (.ref a)) (.cons rfl .nil) (wish H sq)) ?_
  intro r t post
  match r, post with
  | .error _, p => exact p.elim
  | .ok .next, p => exact p.elim
  | .ok .brk, p => exact p.elim
  | .ok .cont, p => exact p.elim
  | .ok (.ret u), ⟨v, H', eos, br, un, ok', rv, ev⟩ =>
    have ev2 : v = .bl true := ev
    rw [ev2] at rv
    have eu2 : u = Value.bool true := rv
    refine ⟨by rw [eu2], OldK.of_keep fun b o e => ?_, eos, br⟩
    rcases on b with n | ⟨o', y, f⟩
    · exact un.keep b o e n (fun z => (nomatch (show b ∈ ([] : List Addr) from z))) (by simp)
    · have g1 := (ok b _ f).1
      have g2 := (ok' b _ (un.frzs b o' y f)).1
      rw [e] at g1
      rw [Option.some.inj g1]
      exact g2
/-- a law: F gives the written part, the function object, the promise over every base; the script's bits are told -/
theorem walk_G {l : PySem.W.OpenLaw} {n k : Nat} {q : Program} {loose : List Str} {XP : (Str → Option Value) → Heap → Prop} {YP : World → Heap → Prop} {d : DefRec} {x : Str} (mo : l.most = some n) (mo2 : n ≤ sizeLine) (nd : d.params.defaults = []) (rm : Room k callerA)
    (F : ∀ (w : World) (mg : Str → Option Value) (fa : Addr) (h : Heap), YP w h → h.Ns mainGlobals mg → mg d.name = some (.ref fa) → ∃ (K : PySem.W.Frag) (fd : FuncData) (sp : Sp), K.In h ∧ (∀ (s : Shared) (u : Value), BindsTo s fd ⟨[u], []⟩ [(x, u)]) ∧
      (∀ (H : Hp) (a : Addr) (ns : List Int), ns.length ≤ n → (∀ z ∈ ns, Builtin.Int.intBits z ≤ 1048576) → SqL K H a (ns.map V.int) → sp [.ref a] H (fun v _ => v = .bl true) E0) ∧ ∀ b : Heap, K.In b → b.Ns mainGlobals mg → FnG l.prog w K mg b CX0 k fa fd [x] sp) :
    PySem.W.WalkO q loose XP YP l.row.toRowW d [] (fun f vs => PySem.call f vs) := by
  refine Att.attach_callB mo nd fun w s₀ s mg mb fa o pm cd doc a vs ns G Y _ _ _ em la ia le bits ng => ?_
  obtain ⟨K, fd, sp, X, bi, wi, go⟩ := F w mg fa _ Y G.T.g em
  exact law_callG X G.T.g G.T.b G.T.builtins G.T.nolimit ng la ia (Nat.le_trans le mo2) rm go bi fun H S => wi H a ns le bits S
end
/-! ### the head: facts as questions to the written part -/
abbrev Qn : Type := PySem.W.Frag → Bool
def obsM (fa : List Qn) (fn : List He5.DefA) (K : PySem.W.Frag) : He.AlD := ((fa.all fun f => f K) && fn.all fun d => d.ok K, fn.map fun d => He5.fnA K (d.at_ K))
def SaysM (fa : List Qn) (fn : List He5.DefA) (K : PySem.W.Frag) : Prop := obsM fa fn K = He5.valA fn
/-! what the module's names reach in n steps: each object is looked at once -/
def hasA (a : Addr) : List Addr → Bool
  | [] => false
  | b :: r => match Nat.beq a b with
    | true => true
    | false => hasA a r
def addA (seen : List Addr) : List Addr → List Addr → List Addr
  | [], out => out.reverse
  | a :: r, out => match hasA a seen with
    | true => addA seen r out
    | false => match hasA a out with
      | true => addA seen r out
      | false => addA seen r (a :: out)
def bfsA (g : Addr → Option Obj) : Nat → List Addr → List Addr → List Addr
  | 0, s, _ => s
  | n + 1, s, f => (fun new => bfsA g n (s ++ new) new) (addA s (f.flatMap fun a => match g a with
    | some o => He.refsD o
    | none => []) [])
def obsMG (n : Nat) (fa : List Qn) (fn : List He5.DefA) (g : Addr → Option Obj) : He.AlD := obsM fa fn (He.frG g (bfsA g n [mainGlobals] [mainGlobals] ++ [PySem.cStatics]))
def hookM (n : Nat) (fa : List Qn) (fn : List He5.DefA) : PySem.W.Hook where
  α := He.AlD
  obs := fun s => obsMG n fa fn s.heap.get?
  val := fun _ => He5.valA fn
  says := fun _ h => ∃ K : PySem.W.Frag, K.In h ∧ SaysM fa fn K
  of := fun _ _ e => ⟨_, He.frG_in, e⟩
  keeps := fun _ _ _ ⟨K, hK, c⟩ k => ⟨K, PySem.W.Frag.In.keeps hK k, c⟩
theorem obsMG_eq {n : Nat} {fa : List Qn} {fn : List He5.DefA} {g : Addr → Option Obj} {s : Shared} (h : ∀ a, g a = s.heap.get? a) : obsMG n fa fn g = (hookM n fa fn).obs s := by
  obtain rfl : g = s.heap.get? := funext h
  rfl
section
variable {fa : List Qn} {fn : List He5.DefA} {K : PySem.W.Frag}
theorem SaysM.q (c : SaysM fa fn K) (i : Nat) {f : Qn} (h : fa[i]? = some f := by rfl) : f K = true :=
  List.all_eq_true.mp (Bool.and_eq_true_iff.mp (congrArg (fun z : He.AlD => z.1) c : ((fa.all fun f => f K) && fn.all fun d => d.ok K) = true)).1 f (List.mem_of_getElem? h)
theorem SaysM.d (c : SaysM fa fn K) (i : Nat) {d : He5.DefA} (h : fn[i]? = some d := by rfl) : ∃ fd, FunD K d.name d.qual d.params d.body d.scope (d.dvs K) (d.kws K) (d.at_ K) fd := by
  have all := (Bool.and_eq_true_iff.mp (congrArg (fun z : He.AlD => z.1) c : ((fa.all fun f => f K) && fn.all fun d => d.ok K) = true)).2
  have vals : (fn.map fun d => He5.fnA K (d.at_ K))[i]? = (fn.map He5.DefA.val)[i]? := congrArg (fun z : He.AlD => z.2[i]?) c
  simp only [List.getElem?_map, h, Option.map_some, Option.some.injEq] at vals
  exact He5.DefA.funD vals (List.all_eq_true.mp all d (List.mem_of_getElem? h))
end
/-! questions -/
def qGlo (x : Str) : Qn := fun K => (He.Fa.glo x).ok K
def qFree (x : Str) : Qn := fun K => (He.Fa.free x).ok K
def qCls (x : Str) : Qn := fun K => (He.Fa.cls x).ok K
def qNoat (x f : Str) : Qn := fun K => (He.Fa.noat x f).ok K
def qMkr (x : Str) : Qn := fun K => (He.Fa.mkr x).ok K
def prp (K : PySem.W.Frag) (C : Addr) (f : Str) : Addr := match PySem.W.recIn K (He.ma K C f) "property" with
  | some (.ref g :: _) => g
  | _ => 0
def propB (K : PySem.W.Frag) (C : Addr) (f : Str) : Bool := decide (PySem.W.findIn K (.ref C) f = some (some (.ref (He.ma K C f)))) && (decide (PySem.W.specialIn K (.ref (He.ma K C f)) "__get__" = some (some (.builtin "property.__get__"))) &&
  (decide (PySem.W.takesIn K (.ref (He.ma K C f)) = some true) && (match PySem.W.recIn K (He.ma K C f) "property" with
    | some (.ref _ :: _) => true
    | _ => false)))
theorem ban {a b : Bool} (h : (a && b) = true) : a = true ∧ b = true := Bool.and_eq_true_iff.mp h
theorem propB_ok {K : PySem.W.Frag} {C : Addr} {f : Str} (h : propB K C f = true) : PropOf K C f (He.ma K C f) (prp K C f) := by
  obtain ⟨h1, h⟩ := ban h
  obtain ⟨h2, h⟩ := ban h
  obtain ⟨h3, h4⟩ := ban h
  refine ⟨of_decide_eq_true h1, of_decide_eq_true h2, of_decide_eq_true h3, ?_⟩
  unfold prp
  split at h4
  · rename_i g r e
    exact ⟨r, by rw [e]⟩
  · cases h4
def qProp (x f : Str) : Qn := fun K => propB K (He.ga K x) f
/-! exception classes -/
def oexB (K : PySem.W.Frag) (C : Addr) : Bool := (match K.lookup C with
  | some ⟨.type t, _, .cls cd, sl⟩ => (match cd.mro, sl.toList with
    | .ref C' :: bm, [_, _, _, _, some (.builtin n), _] => t == "type" && (C' == C && (n == "ValueError.__new__" && (!cd.hasDel && (cd.hasDict && PySem.HandSPX.refsVE bm))))
    | _, _ => false)
  | _ => false) && (decide (PySem.W.findIn K (.ref C) "__setattr__" = some (some (.builtin "object.__setattr__"))) && (decide (PySem.W.subIn K (.ref C) (.type "BaseException") = some true) && (decide (PySem.W.typeIn K (.ref C) = some (.type "type")) && PySem.W.keepIn K (.ref C))))
theorem oexB_ok {K : PySem.W.Frag} {C : Addr} (h : oexB K C = true) : OexC K C := by
  obtain ⟨h1, h⟩ := ban h
  obtain ⟨h2, h⟩ := ban h
  obtain ⟨h3, h⟩ := ban h
  obtain ⟨h4, h5⟩ := ban h
  refine ⟨?_, of_decide_eq_true h2, of_decide_eq_true h3, of_decide_eq_true h4, h5⟩
  clear h h2 h3 h4 h5
  split at h1
  · rename_i t dd cd sl e
    split at h1
    · rename_i C' bm k0 k1 k2 k3 n k5 e1 e2
      obtain ⟨c0, h1⟩ := ban h1
      obtain ⟨c1, h1⟩ := ban h1
      obtain ⟨c2, h1⟩ := ban h1
      obtain ⟨c3, h1⟩ := ban h1
      obtain ⟨c4, c5⟩ := ban h1
      obtain rfl := beq_iff_eq.mp c0
      obtain rfl := beq_iff_eq.mp c1
      obtain rfl := beq_iff_eq.mp c2
      obtain ⟨n1, n2, n3, n4, n5, n6, n7, n8, n9, n10, n11⟩ := cd
      dsimp only at e1 c3 c4
      subst e1
      have c3' : n11 = false := by simpa using c3
      subst c3' c4
      obtain ⟨l⟩ := sl
      have e2' : l = _ := e2
      subst e2'
      exact ⟨n1, _, _, _, bm, _, _, _, _, dd, k0, k1, k2, k3, k5, e, c5⟩
    · cases h1
  · cases h1
def excB (K : PySem.W.Frag) (D : Addr) : Bool := decide (PySem.W.findIn K (.ref D) "__getattribute__" = some (some (.builtin "BaseException.__getattribute__"))) && (decide (PySem.W.findIn K (.ref D) "__getattr__" = some none) && (decide (PySem.W.subIn K (.ref D) (.type "BaseException") = some true) &&
  (PySem.W.hasDictIn K D && (decide (PySem.W.findIn K (.ref D) "__class__" = some (some (.builtin "object.__class__"))) && (decide (PySem.W.specialIn K (.builtin "object.__class__") "__get__" = some (some (.builtin "getset_descriptor.__get__"))) &&
  (decide (PySem.W.takesIn K (.builtin "object.__class__") = some true) && decide (PySem.W.mroIn K D (.type "object") = some true)))))))
theorem excB_ok {K : PySem.W.Frag} {D : Addr} (h : excB K D = true) : ExcC K D := by
  obtain ⟨h1, h⟩ := ban h
  obtain ⟨h2, h⟩ := ban h
  obtain ⟨h3, h⟩ := ban h
  obtain ⟨h4, h⟩ := ban h
  obtain ⟨h5, h⟩ := ban h
  obtain ⟨h6, h⟩ := ban h
  obtain ⟨h7, h8⟩ := ban h
  exact ⟨of_decide_eq_true h1, of_decide_eq_true h2, of_decide_eq_true h3, h4, of_decide_eq_true h5, of_decide_eq_true h6, of_decide_eq_true h7, of_decide_eq_true h8⟩
def xcB (K : PySem.W.Frag) (C f : Addr) : Bool := oexB K C && (decide (PySem.W.findIn K (.ref C) "value" = some none) && (xfB K C && (excB K C && (decide (PySem.W.findIn K (.ref C) "__init__" = some (some (.ref f))) && decide (PySem.W.typeIn K (.ref f) = some (.type "function"))))))
/-- an exception class of the module whose __init__ is that of BitError -/
def qXc (x : Str) : Qn := fun K => xcB K (He.ga K x) (He.ma K (He.ga K "BitError") "__init__")
theorem xc_of {P : Program} {w : World} {K : PySem.W.Frag} {h base : Heap} {mg : Str → Option Value} {x : Str} {fd : FuncData} (X : K.In h) (G : h.Ns mainGlobals mg) (g : qGlo x K = true) (q : qXc x K = true)
    (F : FnOk P w K mg base CX0 1 (He.ma K (He.ga K "BitError") "__init__") fd ["self", "value"] (sp_excInit K)) (b : Binds K fd ["self", "value"] []) : Xc P w K mg base x (He.ga K x) := by
  obtain ⟨h1, q⟩ := ban q
  obtain ⟨h2, q⟩ := ban q
  obtain ⟨h3, q⟩ := ban q
  obtain ⟨h4, q⟩ := ban q
  obtain ⟨h5, h6⟩ := ban q
  exact ⟨He.glo_ok X G g, oexB_ok h1, of_decide_eq_true h2, xfB_ok h3, excB_ok h4, _, fd, of_decide_eq_true h5, of_decide_eq_true h6, F, b⟩
def qXs (y x : Str) : Qn := fun K => decide (PySem.W.exmOne K (.ref (He.ga K x)) (.ref (He.ga K y)) = some true) && decide (PySem.W.kitOne K (.ref (He.ga K x)) (.ref (He.ga K x)) = some true)
theorem xs_of {K : PySem.W.Frag} {x y : Str} (h : qXs y x K = true) : Xs K (He.ga K y) (He.ga K x) := ⟨of_decide_eq_true (ban h).1, of_decide_eq_true (ban h).2⟩
/-- the built-in names, in this sequence -/
def bis : List Str := ["abs", "len", "max", "min", "int", "range", "isinstance", "repr", "tuple", "sum", "enumerate", "zip", "sorted", "set", "str", "divmod", "any", "all", "list", "bool", "ValueError", "TypeError", "dict", "next"]
def qBi : Qn := fun K => bis.all fun x => qFree x K
theorem bi_of {K : PySem.W.Frag} {h : Heap} {mg : Str → Option Value} (X : K.In h) (G : h.Ns mainGlobals mg) (q : qBi K = true) : Bi mg := by
  have g : ∀ x ∈ bis, mg x = none := fun x m => He.free_ok X G (List.all_eq_true.mp q x m)
  have t : ∀ (i : Nat) (x : Str), bis[i]? = some x → mg x = none := fun i x e => g x (List.mem_of_getElem? e)
  exact ⟨t 0 _ rfl, t 1 _ rfl, t 2 _ rfl, t 3 _ rfl, t 4 _ rfl, t 5 _ rfl, t 6 _ rfl, t 7 _ rfl, t 8 _ rfl, t 9 _ rfl, t 10 _ rfl, t 11 _ rfl, t 12 _ rfl, t 13 _ rfl, t 14 _ rfl, t 15 _ rfl, t 16 _ rfl, t 17 _ rfl, t 18 _ rfl, t 19 _ rfl, t 20 _ rfl, t 21 _ rfl, t 22 _ rfl, t 23 _ rfl⟩
theorem room30 : Room 30 callerA := ⟨rfl, by decide, by decide⟩
theorem fo_of {P : Program} {w : World} {K : PySem.W.Frag} {h base : Heap} {mg : Str → Option Value} {CX : CXT} {k : Nat} {x : Str} {ps : List Str} {sp : Sp} {fd : FuncData} (X : K.In h) (G : h.Ns mainGlobals mg) (g : qGlo x K = true) (F : FnOk P w K mg base CX k (He.ga K x) fd ps sp) (kp : PySem.W.keepIn K (.ref (He.ga K x)) = true)
    (b : Binds K fd ps []) : Fo P w K mg base CX k x ps sp := ⟨_, fd, F, He.glo_ok X G g, kp, b⟩
theorem foG_of {P : Program} {w : World} {K : PySem.W.Frag} {h base : Heap} {mg : Str → Option Value} {CX : CXT} {k : Nat} {x : Str} {ps : List Str} {sp : Sp} {fd : FuncData} (X : K.In h) (G : h.Ns mainGlobals mg) (g : qGlo x K = true) (F : FnG P w K mg base CX k (He.ga K x) fd ps sp) (kp : PySem.W.keepIn K (.ref (He.ga K x)) = true)
    (b : Binds K fd ps []) : FoG P w K mg base CX k x ps sp := ⟨_, fd, F, He.glo_ok X G g, kp, b⟩
theorem prc_of {P : Program} {w : World} {K : PySem.W.Frag} {base : Heap} {mg : Str → Option Value} {CX : CXT} {k : Nat} {x f : Str} {sp : Sp} {fd : FuncData} (cl : qCls x K = true) (q : qProp x f K = true) (F : FnOk P w K mg base CX k (prp K (He.ga K x) f) fd ["self"] sp) (b : Binds K fd ["self"] []) : PrC P w K mg base CX (He.ga K x) f k sp :=
  ⟨He.cls_ok cl, _, _, fd, propB_ok q, F, b⟩
theorem vals_app : ∀ {a b : List V} {c d : List Value}, Vals a c → Vals b d → Vals (a ++ b) (c ++ d)
  | _, _, _, _, .nil, h => h
  | _, _, _, _, .cons r g, h => .cons r (vals_app g h)
/-! methods, signs -/
def qMe (x m : Str) : Qn := fun K => decide (PySem.W.findIn K (.ref (He.ga K x)) m = some (some (.ref (He.ma K (He.ga K x) m)))) && PySem.W.isFn K (.ref (He.ma K (He.ga K x) m))
theorem me_of {P : Program} {w : World} {K : PySem.W.Frag} {base : Heap} {mg : Str → Option Value} {CX : CXT} {k : Nat} {x m : Str} {ps : List Str} {sp : Sp} {fd : FuncData} (q : qMe x m K = true) (F : FnOk P w K mg base CX k (He.ma K (He.ga K x) m) fd ps sp) (b : Binds K fd ps []) :
    MeC P w K mg base CX (He.ga K x) m k ps sp (He.ma K (He.ga K x) m) := ⟨of_decide_eq_true (ban q).1, (ban q).2, fd, F, b⟩
def qMeF (x m : Str) : Qn := fun K => PySem.W.fnIn K (He.ma K (He.ga K x) m)
def qCs (x : Str) : Qn := fun K => PySem.W.selfFirst K (He.ga K x) && (decide (PySem.W.subIn K (.type "int") (.ref (He.ga K x)) = some false) && decide (PySem.W.subIn K (.ref (He.ga K x)) (.type "int") = some false))
theorem cs_of {K : PySem.W.Frag} {x : Str} (h : qCs x K = true) : ClsS K (He.ga K x) := ⟨(ban h).1, of_decide_eq_true (ban (ban h).2).1, of_decide_eq_true (ban (ban h).2).2⟩
def qRi (nm : String) : Qn := fun K => match PySem.W.findIn K (.type "int") (dunderR nm) with
  | some (some _) => true
  | _ => false
theorem ri_of {K : PySem.W.Frag} {nm : String} (h : qRi nm K = true) : ∃ fo, PySem.W.findIn K (.type "int") (dunderR nm) = some (some fo) := by
  unfold qRi at h
  split at h
  · rename_i fo e
    exact ⟨fo, e⟩
  · cases h
def qNoI (x : Str) (nm : String) : Qn := fun K => match PySem.W.clsIn K (He.ga K x) with
  | some cd => cd.mro.all fun c => decide (PySem.W.findIn K c (dunderI nm) = some none)
  | _ => false
theorem noI_of {K : PySem.W.Frag} {x : Str} {nm : String} (h : qNoI x nm K = true) : NoI K (He.ga K x) nm := by
  unfold qNoI at h
  split at h
  · rename_i cd e
    exact ⟨cd, e, fun c m => of_decide_eq_true (List.all_eq_true.mp h c m)⟩
  · cases h
end Bs

set_option Elab.async false
set_option linter.all false
set_option maxRecDepth 100000
set_option maxHeartbeats 2000000
/-! lists that grow, dicts with int keys: owned. -/
namespace Bs
open PySem PySem.Spec PySem.Calls PyProof.Rows L2
section
variable {F H : Hp} {L : List (Addr × HO)} {K : PySem.W.Frag} {a : Addr} {i : Nat} {xs : List V} {v : V} {Q : VK} {σ : L2.St} {t : TA} {D : Ends}
def cBM (K : PySem.W.Frag) (T : String) (r : V → List V → Hp → VK → Prop) (t : TA) (σ : L2.St) (Q : VK) (x : V) (H1 : Hp) : Prop := tyV K T x H1 ∧ t σ H1 fun xs H2 => r x xs H2 Q
def cAp (x : V) (vs : List V) (H : Hp) (Q : VK) : Prop := rAppend x vs H Q
theorem r_bm {T : String} {r : V → List V → Hp → VK → Prop} {to : TE} (k : to σ H (cBM K T r t σ Q)) : tBM K T r to t σ H Q := k
theorem o_bmL (h : Own F H L) (e : L[i]? = some (a, .lst xs)) (k : t σ H fun vs H2 => cAp (.ref a) vs H2 Q) : cBM K "list" rAppend t σ Q (.ref a) H := ⟨Or.inl ⟨rfl, xs, SqL.of (h.get i e)⟩, k⟩
theorem o_app (h : Own F H L) (e : L[i]? = some (a, .lst xs)) (z : xs.length < 1000000) (k : ∀ H', Own F H' (L.set i (a, .lst (xs ++ [v]))) → Q .non H') : cAp (.ref a) [v] H Q :=
  ⟨a, xs, v, rfl, rfl, h.get i e, Nat.lt_of_lt_of_le z (by decide), k _ (h.put i e)⟩
theorem o_dnew (h : Own F H L) (k : ∀ p H', H p = none → Own F H' ((p, .dK []) :: L) → Q (.ref p) H') : tDNewK σ H Q := fun p n => k p _ n (h.new n)
def cDn (Q : VK) (y x : V) (H2 : Hp) : Prop := ∃ a o, x = .ref a ∧ DGet H2 a y o ∧ Q (.bl (!o.isSome)) H2
theorem r_dnotin {ty td : TE} (k : ty σ H fun y H1 => td σ H1 (cDn Q y)) : tDNotIn ty td σ H Q := k
theorem o_dn {kvs : List (Key × V)} {n : Int} (h : Own F H L) (e : L[i]? = some (a, .dK kvs)) (q : Q (.bl (!(valV kvs (.inl n)).isSome)) H) : cDn Q (.int n) (.ref a) H := ⟨a, _, rfl, DGet.k (k := .inl n) (h.get i e), q⟩
def cDg (Q : VK) (x y : V) (H2 : Hp) : Prop := ∃ a v, x = .ref a ∧ DGet H2 a y (some v) ∧ Q v H2
theorem r_dget {ty td : TE} (k : td σ H fun x H1 => ty σ H1 (cDg Q x)) : tDGet td ty σ H Q := k
theorem o_dg {kvs : List (Key × V)} {n : Int} (h : Own F H L) (e : L[i]? = some (a, .dK kvs)) (g : valV kvs (.inl n) = some v) (q : Q v H) : cDg Q (.ref a) (.int n) H := ⟨a, v, rfl, g ▸ DGet.k (k := .inl n) (h.get i e), q⟩
theorem o_dset {kvs : List (Key × V)} {n : Int} {R : Hp → Prop} (h : Own F H L) (e : L[i]? = some (a, .dK kvs)) (z : kvs.length < 1000000) (q : ∀ H', Own F H' (L.set i (a, .dK (putK kvs (.inl n) v))) → R H') : rSetD (.ref a) (.int n) v H R :=
  ⟨a, _, rfl, DPut.k (k := .inl n) (h.get i e) (Nat.lt_of_lt_of_le z (by decide)), q _ (h.put i e)⟩
def rLenD : List V → Hp → VK → Prop := fun xs H Q => ∃ a kvs, xs = [V.ref a] ∧ H a = some (.dK kvs) ∧ Q (.int kvs.length) H
theorem cb_lenD {X : Cx} : CallR X (.builtin "len") rLenD := call_lenD
theorem o_lenD {kvs : List (Key × V)} (h : Own F H L) (e : L[i]? = some (a, .dK kvs)) (q : Q (.int kvs.length) H) : rLenD [.ref a] H Q := ⟨a, kvs, rfl, h.get i e, q⟩
end
end Bs

set_option Elab.async false
set_option linter.all false
set_option maxRecDepth 100000
set_option maxHeartbeats 2000000
/-! {t: v} with a tuple of ints and texts as its only key -/
namespace Bs
open PySem PySem.Spec PySem.Calls PyProof.Rows L2
def tDispT (tk tv : TE) : TE := fun σ H Q => ∀ p, H p = none → tk σ (upd H p (.dT [])) fun x H1 => tv σ H1 fun y H2 => H2 p = some (.dT []) ∧ ∃ (b : Addr) (k : List Key), x = .ref b ∧ H2 b = some (.tup (k.map kV)) ∧ Q (.ref p) (upd H2 p (.dT [(k, y)]))
theorem pe_dispT {X : Cx} {pos : Pos} {k v : Expr} {tk tv : TE} (hu : X.A.units + 1 < cLine) (hk : PE X k tk) (hv : PE X v tv) : PE X (.Dict [some k] [v] pos) (tDispT tk tv) := by
  refine ⟨fun pins s σ H Q I q => ?_⟩
  have hn := I.hok.fresh (Nat.le_refl s.heap.objs.size)
  have I1 := I.laid (a := s.heap.objs.size) (o := .dT []) (h' := s.heap.push { cls := .type "dict", data := .dict #[] }) (t' := s.toks) (fun _ _ q => Heap.get?_push_of_some _ q) (Nat.le_refl _) (dt_empty s.heap I.big)
  rw [arm_eval_Dict, zip_pairTrees [some k] [v] X.env pos rfl rfl, dictDisplay_pairs _ (by simp [pairTrees]) (by simp [pairTrees])]
  refine wpAny_bind (wpAny_standAt (wpAny_bind (wpAny_subDictH (knd := tupleKind (mixKind X.prog X.w)) (Q := fun d s' => wpAny (model X.prog X.w) X.A (pure (Value.ref d)) (EP X pins σ Q) X.xe s') (show X.A.units < cLine from Nat.lt_of_succ_lt hu) (by simp [pairTrees]) ?_)))
  refine pairTrees_cons_walk (thn (hk.run pins _ σ _ _ I1 (q _ hn)) fun u s2 ⟨x, H1, I2, rx, q2⟩ => thn (hv.run pins s2 σ H1 _ I2 q2) fun w2 s3 ⟨y, H2, I3, ry, e, b, ks, ex, eb, q3⟩ => pairTrees_nil_walk ?_)
  subst ex
  cases (show u = Value.ref b from rx)
  obtain ⟨z, hd, xs, rel, dd⟩ := dt_of I3.hok e
  cases rel
  refine ⟨[(ks, b, w2)], ⟨rfl, rfl, key_of I3.hok eb, trivial⟩, dd, fun h' tk dd' hs => wpAny_pure ⟨.ref s.heap.objs.size, _, ?_, rfl, q3⟩⟩
  obtain ⟨o, es, ep, hq, h2, h3, h4, _, h5⟩ := dd'
  refine d_write I3 (by rw [e]; exact True.intro) hs ⟨o, hq⟩ ⟨Nat.le_trans (Nat.le_of_ble_eq_true rfl) (show 15 ≤ sizeLine by decide), hd, [(ks, b, w2)], ?_, o, es, ep, hq, h2, h3, h4, h5⟩
  refine .cons ⟨rfl, ?_, ry⟩ .nil
  rw [upd_ne (ne_of eb e (fun z => nomatch z))]
  exact eb
end Bs

set_option Elab.async false
set_option linter.all false
set_option maxRecDepth 100000
set_option maxHeartbeats 2000000
/-! a list comprehension over a range, owned. -/
namespace Bs
open PySem PySem.Spec PySem.Calls PyProof.Rows L2
section
variable {F H : Hp} {L : List (Addr × HO)} {σ : L2.St} {Q : VK} {te : TE} {i : Nat}
/-- [e for x in range(n)]: f what it gives at each turn; j the slot of x -/
theorem o_lcR {n : Nat} (f : Nat → V) {j : Nat} (h : Own F H L) (hn : n ≤ 1000000) (hj : ∀ v : V, wipe ((wipe σ [j]).set j (some v)) [j] = wipe σ [j])
    (step : ∀ i D H' (R : VK), i < n → Own F H' ((D, .lst ((List.range i).map f)) :: L) → (∀ H4, Own F H4 ((D, .lst ((List.range i).map f)) :: L) → R (f i) H4) → te ((wipe σ [j]).set j (some (.int (0 + (i : Int))))) H' R)
    (k : ∀ D H', H D = none → Own F H' ((D, .lst ((List.range n).map f)) :: L) → Q (.ref D) H') :
    ∀ D, H D = none → ∃ W : Nat → Nat → Hp → Prop, (∃ m, W 0 m (upd H D (.lst []))) ∧ ∀ i m H, W i m H →
      ((Itr 0 n).stop i H ∧ Q (.ref D) H) ∨ ((Itr 0 n).go i H ∧ ∃ Nx : Hp → Prop, (∀ H', Nx H' → ∃ m', m' < m ∧ W (i + 1) m' H') ∧ ∀ x H', (Itr 0 n).yld i H x H' → gName j x (wipe σ [j]) H' fun σ2 H2 => wipe σ2 [j] = wipe σ [j] ∧ tYes σ2 H2 fun b H3 =>
        if b = true then te σ2 H3 fun y H4 => ∃ acc, H4 D = some (.lst acc) ∧ acc.length < sizeLine ∧ Nx (upd H4 D (.lst (acc ++ [y]))) else Nx H3) := by
  intro D hD
  refine ⟨fun i m H' => m = n - i ∧ i ≤ n ∧ Own F H' ((D, .lst ((List.range i).map f)) :: L), ⟨n, by simp, Nat.zero_le _, h.new hD⟩, ?_⟩
  rintro i m H1 ⟨rfl, hi, ow⟩
  by_cases hlt : i < n
  · refine .inr ⟨hlt, fun H' => Own F H' ((D, .lst ((List.range (i + 1)).map f)) :: L), fun H' o => ⟨n - (i + 1), by omega, rfl, hlt, o⟩, fun x H' y => ?_⟩
    obtain ⟨e, y⟩ := y
    subst e y
    refine ⟨hj _, ?_⟩
    simp only [tYes, if_true]
    refine step i D _ _ hlt ow fun H4 o => ?_
    refine ⟨_, o.get 0 rfl, by rw [List.length_map, List.length_range]; exact Nat.lt_of_lt_of_le hlt (Nat.le_trans hn (by decide)), ?_⟩
    rw [List.range_succ, List.map_append]
    exact o.put 0 rfl
  · have e : i = n := by omega
    subst e
    exact .inl ⟨Nat.le_refl _, k D _ hD ow⟩
end
end Bs
namespace Bs
open PySem PySem.Spec PySem.Calls PyProof.Rows L2
def cLc (g : TG) (tt : TT) (te : TE) (vs : List Nat) (σ : L2.St) (Q : VK) (J : It) (H1 : Hp) : Prop := ∀ D, H1 D = none → ∃ W : Nat → Nat → Hp → Prop, (∃ m, W 0 m (upd H1 D (.lst []))) ∧ ∀ i m H, W i m H →
  (J.stop i H ∧ Q (.ref D) H) ∨ (J.go i H ∧ ∃ Nx : Hp → Prop, (∀ H', Nx H' → ∃ m', m' < m ∧ W (i + 1) m' H') ∧ ∀ x H', J.yld i H x H' → g x (wipe σ vs) H' fun σ2 H2 => wipe σ2 vs = wipe σ vs ∧ tt σ2 H2 fun b H3 =>
    if b = true then te σ2 H3 fun y H4 => ∃ acc, H4 D = some (.lst acc) ∧ acc.length < sizeLine ∧ Nx (upd H4 D (.lst (acc ++ [y]))) else Nx H3)
theorem r_lc {wi : TI} {g : TG} {tt : TT} {te : TE} {vs : List Nat} {σ : L2.St} {H : Hp} {Q : VK} (k : wi σ H (cLc g tt te vs σ Q)) : tLc wi g tt te vs σ H Q := k
theorem c_lcR {F H : Hp} {L : List (Addr × HO)} {σ : L2.St} {Q : VK} {te : TE} {n : Nat} (f : Nat → V) {j : Nat} (h : Own F H L) (hn : n ≤ 1000000) (hj : ∀ v : V, wipe ((wipe σ [j]).set j (some v)) [j] = wipe σ [j])
    (step : ∀ i D H' (R : VK), i < n → Own F H' ((D, .lst ((List.range i).map f)) :: L) → (∀ H4, Own F H4 ((D, .lst ((List.range i).map f)) :: L) → R (f i) H4) → te ((wipe σ [j]).set j (some (.int (0 + (i : Int))))) H' R)
    (k : ∀ D H', H D = none → Own F H' ((D, .lst ((List.range n).map f)) :: L) → Q (.ref D) H') : cLc (gName j) tYes te [j] σ Q (Itr 0 n) H := o_lcR f h hn hj step k
end Bs
namespace Bs
open PySem PySem.Spec PySem.Calls PyProof.Rows L2
def cIl (K : PySem.W.Frag) (R : It → Hp → Prop) (x : V) (H1 : Hp) : Prop := ∃ a, x = .ref a ∧ (∃ xs, SqL K H1 a xs) ∧ R (Itl K a) H1
theorem r_il {K : PySem.W.Frag} {tl : TE} {σ : L2.St} {H : Hp} {R : It → Hp → Prop} (k : tl σ H (cIl K R)) : iList K tl σ H R := k
theorem o_il {K : PySem.W.Frag} {F H : Hp} {L : List (Addr × HO)} {i : Nat} {a : Addr} {xs : List V} {R : It → Hp → Prop} (h : Own F H L) (e : L[i]? = some (a, .lst xs)) (k : R (Itl K a) H) : cIl K R (.ref a) H := ⟨a, rfl, ⟨xs, SqL.of (h.get i e)⟩, k⟩
end Bs
namespace Bs
open PySem PySem.Spec PySem.Calls PyProof.Rows L2
/-- list(x), tuple(x) of a list or a tuple -/
def rLof (K : PySem.W.Frag) : List V → Hp → VK → Prop := fun xs H Q => ∃ p ys, xs = [.ref p] ∧ (SqL K H p ys ∨ SqT K H p ys) ∧ ∀ l, H l = none → Q (.ref l) (upd H l (.lst ys))
theorem cb_listof {X : Cx} : CallR X (.type "list") (rLof X.K) := call_list_of
section
variable {K : PySem.W.Frag} {F H : Hp} {L : List (Addr × HO)} {p : Addr} {ys : List V} {Q : VK}
theorem o_lofT (h : Own F H L) (s : SqT K H p ys) (k : ∀ l H', H l = none → Own F H' ((l, .lst ys) :: L) → Q (.ref l) H') : rLof K [.ref p] H Q := ⟨p, ys, rfl, .inr s, fun l n => k l _ n (h.new n)⟩
theorem o_lofL (h : Own F H L) (s : SqL K H p ys) (k : ∀ l H', H l = none → Own F H' ((l, .lst ys) :: L) → Q (.ref l) H') : rLof K [.ref p] H Q := ⟨p, ys, rfl, .inl s, fun l n => k l _ n (h.new n)⟩
end
end Bs

set_option Elab.async false
set_option linter.all false
set_option maxRecDepth 100000
set_option maxHeartbeats 2000000
/-! x[::-1]; comprehensions over anything; calls of defs that raise, by position and by name. -/
namespace Bs
open PySem PySem.Spec PySem.Calls PyProof.Rows L2
/-- [True, i] of an int -/
def tlD : V → PyData
  | .int i => .list [.bool true, .int i]
  | _ => .none
section
variable {X : Cx} {e : Expr} {st : Option Expr} {te : TE} {ts : TO} {pos p2 : Pos}
/-- x[::-1] of a list -/
def cRv (K : PySem.W.Frag) (Q : VK) (x : V) (i : Option Int) (H : Hp) : Prop := i = some (-1) ∧ ∃ a xs, x = .ref a ∧ SqL K H a xs ∧ ∀ p, H p = none → Q (.ref p) (upd H p (.lst xs.reverse))
def tRv (K : PySem.W.Frag) (te : TE) (ts : TO) : TE := fun σ H Q => te σ H fun x H1 => ts σ H1 fun i H2 => cRv K Q x i H2
theorem pe_rev {uo : UnaryOp} {se : Expr} {p5 : Pos} (he : PE X e te) (hs : PO X (some (.UnaryOp uo se p5)) ts) : PE X (.Subscript e (.Slice none none (some (.UnaryOp uo se p5)) p2) pos) (tRv X.K te ts) := by
  refine ⟨fun pins s σ H Q I h => ?_⟩
  refine Subscript_ (thn (he.run pins s σ H _ I h) fun v s1 ⟨x, H1, I1, r1, q1⟩ => ?_)
  refine wpAny_Slice ?_
  rw [evalPart_none]
  refine wpAny_pure (wpAny_pure (thn (hs.run pins s1 σ H1 _ I1 q1) fun vk s3 ⟨i, H3, I3, pk, q3⟩ => ?_))
  obtain ⟨rfl, a, xs, rfl, hx, q⟩ := q3
  cases r1
  let so : Obj := { cls := .type "slice", data := .fields #[Value.none, Value.none, vk] }
  have I4 : Inv X pins σ H3 { s3 with heap := s3.heap.push so } := I3.kept (t' := s3.toks) fun b ob z => Heap.get?_push_of_some _ z
  obtain ⟨its, r, hl, hz⟩ := I4.list hx
  have sl : ({ s3 with heap := s3.heap.push so } : Shared).heap.IsSliceOf s3.heap.objs.size .none .none vk := Heap.IsSliceOf.new ..
  have len := r.length
  refine tail_any (T := "list") (ops := [.ref a, .ref s3.heap.objs.size]) hl.isList.typeIs slot_list_getitem.lookup (wpAny_getItem_list_slice hl.isList sl .none .none pk (by decide) ?_ (by rw [List.size_toArray]; omega)) (by with_unfolding_all rfl)
  rw [PySem.W.krv_pick]
  refine ⟨.ref _, _, I4.laid (t' := s3.toks) (o := .lst xs.reverse) (fun b ob z => Heap.get?_push_of_some _ z) (Nat.le_refl _) ?_, rfl, q _ (I4.hok.fresh (Nat.le_refl _))⟩
  refine ⟨by rw [List.length_reverse]; exact hz, _, 0, r.reverse, Heap.get?_push_size _ rfl⟩
end
section
variable {K : PySem.W.Frag} {F H : Hp} {L : List (Addr × HO)} {a : Addr} {xs : List V} {Q : VK} {σ : L2.St} {te : TE} {ts : TO} {i : Nat}
theorem r_rv (k : te σ H fun x H1 => ts σ H1 fun i H2 => cRv K Q x i H2) : tRv K te ts σ H Q := k
theorem r_part {te : TE} {R : Option Int → Hp → Prop} (k : te σ H fun x H1 => ∃ i, x = .int i ∧ R (some i) H1) : tPart te σ H R := k
theorem o_rv (h : Own F H L) (s : SqL K H a xs) (k : ∀ p H', H p = none → Own F H' ((p, .lst xs.reverse) :: L) → Q (.ref p) H') : cRv K Q (.ref a) (some (-1)) H := ⟨rfl, a, xs, rfl, s, fun p n => k p _ n (h.new n)⟩
end
/-- a comprehension over anything: P holds of what is made, the turn, the items so far, the heap -/
theorem c_lcJ {te : TE} {j : Nat} {σ : L2.St} {Q : VK} {J : It} {H : Hp} (n : Nat) (hn : n ≤ 1000000) (hj : ∀ v : V, wipe ((wipe σ [j]).set j (some v)) [j] = wipe σ [j]) (Pv : Addr → Nat → List V → Hp → Prop) (h0 : ∀ D, H D = none → Pv D 0 [] (upd H D (.lst [])))
    (hgo : ∀ D i acc H, Pv D i acc H → i < n → J.go i H) (hst : ∀ D acc H, Pv D n acc H → J.stop n H)
    (step : ∀ D i acc H x H' (R : VK), i < n → acc.length = i → Pv D i acc H → J.yld i H x H' → (∀ y H4, H4 D = some (.lst acc) → Pv D (i + 1) (acc ++ [y]) (upd H4 D (.lst (acc ++ [y]))) → R y H4) → te ((wipe σ [j]).set j (some x)) H' R)
    (k : ∀ D acc H', H D = none → Pv D n acc H' → acc.length = n → Q (.ref D) H') : cLc (gName j) tYes te [j] σ Q J H := by
  intro D hD
  refine ⟨fun i m H' => m = n - i ∧ i ≤ n ∧ ∃ acc, acc.length = i ∧ Pv D i acc H', ⟨n, by simp, Nat.zero_le _, [], rfl, h0 D hD⟩, ?_⟩
  rintro i m H1 ⟨rfl, hi, acc, la, p⟩
  by_cases hlt : i < n
  · refine .inr ⟨hgo D i acc H1 p hlt, fun H' => ∃ acc, acc.length = i + 1 ∧ Pv D (i + 1) acc H', fun H' ⟨acc, la, p⟩ => ⟨n - (i + 1), by omega, rfl, hlt, acc, la, p⟩, fun x H' y => ?_⟩
    refine ⟨hj _, ?_⟩
    simp only [tYes, if_true]
    refine step D i acc H1 x H' _ hlt la p y fun y H4 eD q => ?_
    exact ⟨acc, eD, Nat.lt_of_le_of_lt (Nat.le_of_eq la) (Nat.lt_of_lt_of_le hlt (Nat.le_trans hn (by decide))), acc ++ [y], by simp; omega, q⟩
  · have e : i = n := by omega
    subst e
    exact .inl ⟨hst D acc H1 p, k D acc H1 hD p la⟩
/-- with a condition -/
theorem c_lcF {tt : TT} {te : TE} {j : Nat} {σ : L2.St} {Q : VK} {J : It} {H : Hp} (n : Nat) (hn : n ≤ 1000000) (hj : ∀ v : V, wipe ((wipe σ [j]).set j (some v)) [j] = wipe σ [j]) (Pv : Addr → Nat → List V → Hp → Prop) (h0 : ∀ D, H D = none → Pv D 0 [] (upd H D (.lst [])))
    (hgo : ∀ D i acc H, Pv D i acc H → i < n → J.go i H) (hst : ∀ D acc H, Pv D n acc H → J.stop n H)
    (step : ∀ D i acc H x H' (R : VK) (Z : Hp → Prop), i < n → acc.length ≤ i → Pv D i acc H → J.yld i H x H' → (∀ y H4, H4 D = some (.lst acc) → Pv D (i + 1) (acc ++ [y]) (upd H4 D (.lst (acc ++ [y]))) → R y H4) → (∀ H3, Pv D (i + 1) acc H3 → Z H3) →
      tt ((wipe σ [j]).set j (some x)) H' fun b H3 => if b = true then te ((wipe σ [j]).set j (some x)) H3 R else Z H3)
    (k : ∀ D acc H', H D = none → Pv D n acc H' → acc.length ≤ n → Q (.ref D) H') : cLc (gName j) tt te [j] σ Q J H := by
  intro D hD
  refine ⟨fun i m H' => m = n - i ∧ i ≤ n ∧ ∃ acc, acc.length ≤ i ∧ Pv D i acc H', ⟨n, by simp, Nat.zero_le _, [], Nat.le_refl _, h0 D hD⟩, ?_⟩
  rintro i m H1 ⟨rfl, hi, acc, la, p⟩
  by_cases hlt : i < n
  · refine .inr ⟨hgo D i acc H1 p hlt, fun H' => ∃ acc, acc.length ≤ i + 1 ∧ Pv D (i + 1) acc H', fun H' ⟨acc, la, p⟩ => ⟨n - (i + 1), by omega, rfl, hlt, acc, la, p⟩, fun x H' y => ?_⟩
    refine ⟨hj _, ?_⟩
    refine step D i acc H1 x H' _ _ hlt la p y (fun y H4 eD q => ?_) (fun H3 q => ⟨acc, by omega, q⟩)
    exact ⟨acc, eD, Nat.lt_of_le_of_lt la (Nat.lt_of_lt_of_le hlt (Nat.le_trans hn (by decide))), acc ++ [y], by simp; omega, q⟩
  · have e : i = n := by omega
    subst e
    exact .inl ⟨hst D acc H1 p, k D acc H1 hD p la⟩
section
variable {K : PySem.W.Frag} {F H : Hp} {L : List (Addr × HO)} {σ : L2.St} {Q : VK} {te : TE} {j m : Nat} {a : Addr} {xs : List V}
theorem itl_go {i : Nat} (s : SqL K H a xs) (h : i < xs.length) : (Itl K a).go i H := ⟨xs, xs[i], s, List.getElem?_eq_getElem h⟩
theorem itl_stop {xs : List V} (s : SqL K H a xs) : (Itl K a).stop xs.length H := ⟨xs, s, Nat.le_refl _⟩
theorem dpAll_app {v : V} {d : PyData} : ∀ {vs : List V} {ds : List PyData}, DpAll K H vs ds → Dp K H v d → DpAll K H (vs ++ [v]) (ds ++ [d])
  | _, _, .nil, h => .cons h .nil
  | _, _, .cons a b, h => .cons a (dpAll_app (v := v) (d := d) b h)
theorem Own.weak {F' : Hp} (s : Same F F') (h : Own F' H L) : Own F H L := ⟨s.trans h.sub, fun i a o e => ⟨(h.own i a o e).1, by
    cases z : F a with
    | none => rfl
    | some u => exact absurd (h.own i a o e).2 (by rw [s a u z]; simp)⟩, h.nd⟩
/-- a comprehension over a list whose items become data -/
theorem c_lcD (h : Own F H L) (e : L[m]? = some (a, .lst xs)) (hn : xs.length ≤ 1000) (ds : List PyData) (hd : ds.length = xs.length) (hj : ∀ v : V, wipe ((wipe σ [j]).set j (some v)) [j] = wipe σ [j])
    (step : ∀ (F' : Hp) (D : Addr) (acc : List V) (i : Nat) (x : V) (d : PyData) (H' : Hp) (R : VK), xs[i]? = some x → ds[i]? = some d → Same F F' → Own F' H' ((D, .lst acc) :: L) → (∀ F'' y H4, Same F' F'' → Own F'' H4 ((D, .lst acc) :: L) → Dp K F'' y d → R y H4) → te ((wipe σ [j]).set j (some x)) H' R)
    (k : ∀ F' D acc H', Same F F' → H D = none → Own F' H' ((D, .lst acc) :: L) → DpAll K F' acc ds → Q (.ref D) H') : cLc (gName j) tYes te [j] σ Q (Itl K a) H := by
  refine c_lcJ xs.length (by omega) hj (fun D i acc H' => ∃ F', Same F F' ∧ Own F' H' ((D, .lst acc) :: L) ∧ DpAll K F' acc (ds.take i)) (fun D nD => ⟨F, Same.refl F, h.new nD, by rw [List.take_zero]; exact .nil⟩) ?_ ?_ ?_ ?_
  · rintro D i acc H1 ⟨F', s, ow, dp⟩ hi
    exact itl_go (SqL.of (ow.get (m + 1) (by simpa using e))) hi
  · rintro D acc H1 ⟨F', s, ow, dp⟩
    exact itl_stop (SqL.of (ow.get (m + 1) (by simpa using e)))
  · rintro D i acc H1 x H2 R hi la ⟨F', s, ow, dp⟩ ⟨rfl, hy⟩ hR
    have hx := hy xs (SqL.of (ow.get (m + 1) (by simpa using e)))
    have hdi : ds[i]? = some ds[i] := by simp [hd, hi]
    refine step F' D acc i x ds[i] H2 R hx hdi s ow fun F'' y H4 s2 ow2 dp2 => ?_
    refine hR y H4 (ow2.get 0 rfl) ⟨F'', s.trans s2, ow2.put 0 rfl, ?_⟩
    rw [List.take_succ, hdi]
    exact dpAll_app (dpa_same s2 dp) dp2
  · rintro D acc H1 nD ⟨F', s, ow, dp⟩ la
    refine k F' D acc H1 s nD ow ?_
    rw [← hd, List.take_length] at dp
    exact dp
theorem c_lcM (fd : V → PyData) (h : Own F H L) (e : L[m]? = some (a, .lst xs)) (hn : xs.length ≤ 1000) (hj : ∀ v : V, wipe ((wipe σ [j]).set j (some v)) [j] = wipe σ [j])
    (step : ∀ (F' : Hp) (D : Addr) (acc : List V) (i : Nat) (x : V) (H' : Hp) (R : VK), xs[i]? = some x → Same F F' → Own F' H' ((D, .lst acc) :: L) → (∀ F'' y H4, Same F' F'' → Own F'' H4 ((D, .lst acc) :: L) → Dp K F'' y (fd x) → R y H4) → te ((wipe σ [j]).set j (some x)) H' R)
    (k : ∀ F' D acc H', Same F F' → H D = none → Own F' H' ((D, .lst acc) :: L) → DpAll K F' acc (xs.map fd) → Q (.ref D) H') : cLc (gName j) tYes te [j] σ Q (Itl K a) H := by
  refine c_lcD h e hn (xs.map fd) (by simp) hj ?_ k
  intro F' D acc i x d H' R hx hd s ow hR
  rw [List.getElem?_map, hx] at hd
  cases hd
  exact step F' D acc i x H' R hx s ow hR
end
/-! calls -/
section
variable {X : Cx} {CX : CXT} {j k : Nat} {ps ks : List Str} {sp : Sp} {x : Str} {p pos : Pos} {e : Expr} {es : List Expr} {kws : List Keyword} {t tk : TA} {gV : List V → List V → List V}
/-- a def by its name and promise, all parameters by keyword -/
structure FoK (P : Program) (w : World) (K : PySem.W.Frag) (mg : Str → Option Value) (base : Heap) (CX : CXT) (k : Nat) (x : Str) (ps : List Str) (sp : Sp) (ks : List Str) (gV : List V → List V → List V) : Prop where
  ex : ∃ (f : Addr) (fd : FuncData), FnOk P w K mg base CX k f fd ps sp ∧ mg x = some (.ref f) ∧ PySem.W.keepIn K (.ref f) = true ∧ Cb K fd ps 0 ks gV
def gPos (vs _zs : List V) : List V := vs
theorem cb_pos {K : PySem.W.Frag} {fd : FuncData} (b : Binds K fd ps []) : Cb K fd ps ps.length [] gPos := ⟨fun us _ => us, by
  refine ⟨fun s us ws X l1 l2 => ?_, fun r _ => r⟩
  have e : ws = [] := List.length_eq_zero_iff.mp l2
  subst e
  have := b s us X (by simpa using l1)
  simpa using this⟩
theorem pe_fx {E : L2.St → XK} (c : Fo X.prog X.w X.K X.mg X.base CX k x ps sp) (hr : Room j X.A) (hk : k ≤ j) (hx : ∀ σ, PassesAt CX X σ (E σ)) (ha : PA X (e :: es) t) (hg : Gl X x := by rfl)
    (hall : (backToKw pos (keywordEach [] X.env)).all (·.1.isSome) = true := by rfl) (hks : (backToKw pos (keywordEach [] X.env)).filterMap (·.1) = [] := by rfl)
    (hdb : (x == ("__debug__" : Str)) = false := by decide) (he : starEach (e :: es) X.env = (false, eval e X.env) :: starEach es X.env := by rfl)
    (hpl : ((backTo pos (starEach (e :: es) X.env)).any (·.1) || (backToKw pos (keywordEach [] X.env)).any (·.1.isNone)) = false := by rfl) :
    PE X (.Call (.Name x p) (e :: es) [] pos) (tFnS ps.length 0 sp gPos E t tNil) := by
  obtain ⟨f, fd, F, hm, kp, hb⟩ := c.ex
  exact pe_fnS F (hr.mono hk) hm kp (cb_pos hb) hx ha pk_nil hg hall hks hdb he hpl
theorem pe_fk {E : L2.St → XK} (c : FoK X.prog X.w X.K X.mg X.base CX k x ps sp ks gV) (hr : Room j X.A) (hk : k ≤ j) (hx : ∀ σ, PassesAt CX X σ (E σ)) (hkw : PK X kws tk) (hg : Gl X x := by rfl)
    (hall : (backToKw pos (keywordEach kws X.env)).all (·.1.isSome) = true := by rfl) (hks : (backToKw pos (keywordEach kws X.env)).filterMap (·.1) = ks := by rfl)
    (hdb : (x == ("__debug__" : Str)) = false := by decide) (hpl : ((backTo pos (starEach [] X.env)).any (·.1) || (backToKw pos (keywordEach kws X.env)).any (·.1.isNone)) = false := by rfl) :
    PE X (.Call (.Name x p) [] kws pos) (tFnS 0 ks.length sp gV E tNil tk) := by
  obtain ⟨f, fd, F, hm, kp, hb⟩ := c.ex
  exact pe_fnS0 F (hr.mono hk) hm kp hb hx hkw hg hall hks hdb hpl
end
section
variable {H : Hp} {Q : VK} {σ : L2.St} {n m : Nat} {sp : Sp} {gV : List V → List V → List V} {t tk : TA} {v w u : V} {vs : List V}
def cFx (n m : Nat) (sp : Sp) (gV : List V → List V → List V) (Q : VK) (E : XK) (vs zs : List V) (H : Hp) : Prop := vs.length = n ∧ zs.length = m ∧ sp (gV vs zs) H Q E
theorem r_fx {E : L2.St → XK} (k : t σ H fun vs H1 => tk σ H1 fun zs H2 => cFx n m sp gV Q (E σ) vs zs H2) : tFnS n m sp gV E t tk σ H Q := k
theorem fx_pos {E : XK} (l : vs.length = n) (k : sp (vs ++ []) H Q E) : cFx n 0 sp gPos Q E vs [] H := ⟨l, rfl, by rw [List.append_nil] at k; exact k⟩
/-- two parameters, the second one first -/
def gKB {α : Type} (_vs zs : List α) : List α := zs.reverse
theorem fx_kb2 {E : XK} (k : sp ([w, v] ++ []) H Q E) : cFx 0 2 sp gKB Q E [] [v, w] H := ⟨rfl, rfl, k⟩
end
theorem gKB_rel {vs zs : List V} {us ws : List Value} (_ : Vals vs us) (h : Vals zs ws) : Vals (gKB vs zs) (gKB us ws) := h.reverse
theorem foK_of {P : Program} {w : World} {K : PySem.W.Frag} {h base : Heap} {mg : Str → Option Value} {CX : CXT} {k : Nat} {x : Str} {ps ks : List Str} {sp : Sp} {fd : FuncData} {f : Addr} {gV : List V → List V → List V} (hm : mg x = some (.ref f)) (F : FnOk P w K mg base CX k f fd ps sp) (kp : PySem.W.keepIn K (.ref f) = true)
    (b : Cb K fd ps 0 ks gV) : FoK P w K mg base CX k x ps sp ks gV := ⟨f, fd, F, hm, kp, b⟩
end Bs
namespace Bs
section
variable {α : Type} {l : List α}
variable {x0 x1 x2 x3 x4 x5 x6 x7 x8 x9 x10 x11 x12 x13 x14 x15 x16 x17 x18 x19 x20 x21 x22 x23 x24 x25 x26 x27 x28 x29 x30 x31 x32 x33 x34 x35 x36 x37 x38 x39 x40 : α}
theorem g18 : (x0 :: x1 :: x2 :: x3 :: x4 :: x5 :: x6 :: x7 :: x8 :: x9 :: x10 :: x11 :: x12 :: x13 :: x14 :: x15 :: x16 :: x17 :: x18 :: l)[18]? = some x18 := rfl
theorem g19 : (x0 :: x1 :: x2 :: x3 :: x4 :: x5 :: x6 :: x7 :: x8 :: x9 :: x10 :: x11 :: x12 :: x13 :: x14 :: x15 :: x16 :: x17 :: x18 :: x19 :: l)[19]? = some x19 := rfl
theorem g20 : (x0 :: x1 :: x2 :: x3 :: x4 :: x5 :: x6 :: x7 :: x8 :: x9 :: x10 :: x11 :: x12 :: x13 :: x14 :: x15 :: x16 :: x17 :: x18 :: x19 :: x20 :: l)[20]? = some x20 := rfl
theorem g21 : (x0 :: x1 :: x2 :: x3 :: x4 :: x5 :: x6 :: x7 :: x8 :: x9 :: x10 :: x11 :: x12 :: x13 :: x14 :: x15 :: x16 :: x17 :: x18 :: x19 :: x20 :: x21 :: l)[21]? = some x21 := rfl
theorem g22 : (x0 :: x1 :: x2 :: x3 :: x4 :: x5 :: x6 :: x7 :: x8 :: x9 :: x10 :: x11 :: x12 :: x13 :: x14 :: x15 :: x16 :: x17 :: x18 :: x19 :: x20 :: x21 :: x22 :: l)[22]? = some x22 := rfl
theorem g23 : (x0 :: x1 :: x2 :: x3 :: x4 :: x5 :: x6 :: x7 :: x8 :: x9 :: x10 :: x11 :: x12 :: x13 :: x14 :: x15 :: x16 :: x17 :: x18 :: x19 :: x20 :: x21 :: x22 :: x23 :: l)[23]? = some x23 := rfl
theorem g24 : (x0 :: x1 :: x2 :: x3 :: x4 :: x5 :: x6 :: x7 :: x8 :: x9 :: x10 :: x11 :: x12 :: x13 :: x14 :: x15 :: x16 :: x17 :: x18 :: x19 :: x20 :: x21 :: x22 :: x23 :: x24 :: l)[24]? = some x24 := rfl
theorem g25 : (x0 :: x1 :: x2 :: x3 :: x4 :: x5 :: x6 :: x7 :: x8 :: x9 :: x10 :: x11 :: x12 :: x13 :: x14 :: x15 :: x16 :: x17 :: x18 :: x19 :: x20 :: x21 :: x22 :: x23 :: x24 :: x25 :: l)[25]? = some x25 := rfl
theorem g26 : (x0 :: x1 :: x2 :: x3 :: x4 :: x5 :: x6 :: x7 :: x8 :: x9 :: x10 :: x11 :: x12 :: x13 :: x14 :: x15 :: x16 :: x17 :: x18 :: x19 :: x20 :: x21 :: x22 :: x23 :: x24 :: x25 :: x26 :: l)[26]? = some x26 := rfl
theorem g27 : (x0 :: x1 :: x2 :: x3 :: x4 :: x5 :: x6 :: x7 :: x8 :: x9 :: x10 :: x11 :: x12 :: x13 :: x14 :: x15 :: x16 :: x17 :: x18 :: x19 :: x20 :: x21 :: x22 :: x23 :: x24 :: x25 :: x26 :: x27 :: l)[27]? = some x27 := rfl
theorem g28 : (x0 :: x1 :: x2 :: x3 :: x4 :: x5 :: x6 :: x7 :: x8 :: x9 :: x10 :: x11 :: x12 :: x13 :: x14 :: x15 :: x16 :: x17 :: x18 :: x19 :: x20 :: x21 :: x22 :: x23 :: x24 :: x25 :: x26 :: x27 :: x28 :: l)[28]? = some x28 := rfl
theorem g29 : (x0 :: x1 :: x2 :: x3 :: x4 :: x5 :: x6 :: x7 :: x8 :: x9 :: x10 :: x11 :: x12 :: x13 :: x14 :: x15 :: x16 :: x17 :: x18 :: x19 :: x20 :: x21 :: x22 :: x23 :: x24 :: x25 :: x26 :: x27 :: x28 :: x29 :: l)[29]? = some x29 := rfl
theorem g30 : (x0 :: x1 :: x2 :: x3 :: x4 :: x5 :: x6 :: x7 :: x8 :: x9 :: x10 :: x11 :: x12 :: x13 :: x14 :: x15 :: x16 :: x17 :: x18 :: x19 :: x20 :: x21 :: x22 :: x23 :: x24 :: x25 :: x26 :: x27 :: x28 :: x29 :: x30 :: l)[30]? = some x30 := rfl
theorem g31 : (x0 :: x1 :: x2 :: x3 :: x4 :: x5 :: x6 :: x7 :: x8 :: x9 :: x10 :: x11 :: x12 :: x13 :: x14 :: x15 :: x16 :: x17 :: x18 :: x19 :: x20 :: x21 :: x22 :: x23 :: x24 :: x25 :: x26 :: x27 :: x28 :: x29 :: x30 :: x31 :: l)[31]? = some x31 := rfl
theorem g32 : (x0 :: x1 :: x2 :: x3 :: x4 :: x5 :: x6 :: x7 :: x8 :: x9 :: x10 :: x11 :: x12 :: x13 :: x14 :: x15 :: x16 :: x17 :: x18 :: x19 :: x20 :: x21 :: x22 :: x23 :: x24 :: x25 :: x26 :: x27 :: x28 :: x29 :: x30 :: x31 :: x32 :: l)[32]? = some x32 := rfl
theorem g33 : (x0 :: x1 :: x2 :: x3 :: x4 :: x5 :: x6 :: x7 :: x8 :: x9 :: x10 :: x11 :: x12 :: x13 :: x14 :: x15 :: x16 :: x17 :: x18 :: x19 :: x20 :: x21 :: x22 :: x23 :: x24 :: x25 :: x26 :: x27 :: x28 :: x29 :: x30 :: x31 :: x32 :: x33 :: l)[33]? = some x33 := rfl
theorem g34 : (x0 :: x1 :: x2 :: x3 :: x4 :: x5 :: x6 :: x7 :: x8 :: x9 :: x10 :: x11 :: x12 :: x13 :: x14 :: x15 :: x16 :: x17 :: x18 :: x19 :: x20 :: x21 :: x22 :: x23 :: x24 :: x25 :: x26 :: x27 :: x28 :: x29 :: x30 :: x31 :: x32 :: x33 :: x34 :: l)[34]? = some x34 := rfl
theorem g35 : (x0 :: x1 :: x2 :: x3 :: x4 :: x5 :: x6 :: x7 :: x8 :: x9 :: x10 :: x11 :: x12 :: x13 :: x14 :: x15 :: x16 :: x17 :: x18 :: x19 :: x20 :: x21 :: x22 :: x23 :: x24 :: x25 :: x26 :: x27 :: x28 :: x29 :: x30 :: x31 :: x32 :: x33 :: x34 :: x35 :: l)[35]? = some x35 := rfl
theorem g36 : (x0 :: x1 :: x2 :: x3 :: x4 :: x5 :: x6 :: x7 :: x8 :: x9 :: x10 :: x11 :: x12 :: x13 :: x14 :: x15 :: x16 :: x17 :: x18 :: x19 :: x20 :: x21 :: x22 :: x23 :: x24 :: x25 :: x26 :: x27 :: x28 :: x29 :: x30 :: x31 :: x32 :: x33 :: x34 :: x35 :: x36 :: l)[36]? = some x36 := rfl
theorem g37 : (x0 :: x1 :: x2 :: x3 :: x4 :: x5 :: x6 :: x7 :: x8 :: x9 :: x10 :: x11 :: x12 :: x13 :: x14 :: x15 :: x16 :: x17 :: x18 :: x19 :: x20 :: x21 :: x22 :: x23 :: x24 :: x25 :: x26 :: x27 :: x28 :: x29 :: x30 :: x31 :: x32 :: x33 :: x34 :: x35 :: x36 :: x37 :: l)[37]? = some x37 := rfl
theorem g38 : (x0 :: x1 :: x2 :: x3 :: x4 :: x5 :: x6 :: x7 :: x8 :: x9 :: x10 :: x11 :: x12 :: x13 :: x14 :: x15 :: x16 :: x17 :: x18 :: x19 :: x20 :: x21 :: x22 :: x23 :: x24 :: x25 :: x26 :: x27 :: x28 :: x29 :: x30 :: x31 :: x32 :: x33 :: x34 :: x35 :: x36 :: x37 :: x38 :: l)[38]? = some x38 := rfl
theorem g39 : (x0 :: x1 :: x2 :: x3 :: x4 :: x5 :: x6 :: x7 :: x8 :: x9 :: x10 :: x11 :: x12 :: x13 :: x14 :: x15 :: x16 :: x17 :: x18 :: x19 :: x20 :: x21 :: x22 :: x23 :: x24 :: x25 :: x26 :: x27 :: x28 :: x29 :: x30 :: x31 :: x32 :: x33 :: x34 :: x35 :: x36 :: x37 :: x38 :: x39 :: l)[39]? = some x39 := rfl
theorem g40 : (x0 :: x1 :: x2 :: x3 :: x4 :: x5 :: x6 :: x7 :: x8 :: x9 :: x10 :: x11 :: x12 :: x13 :: x14 :: x15 :: x16 :: x17 :: x18 :: x19 :: x20 :: x21 :: x22 :: x23 :: x24 :: x25 :: x26 :: x27 :: x28 :: x29 :: x30 :: x31 :: x32 :: x33 :: x34 :: x35 :: x36 :: x37 :: x38 :: x39 :: x40 :: l)[40]? = some x40 := rfl
end
end Bs

set_option Elab.async false
set_option linter.all false
set_option maxRecDepth 100000
set_option maxHeartbeats 2000000
/-! texts: x[::-1]. -/
namespace Bs
open PySem PySem.Spec PySem.Calls PyProof.Rows L2
theorem str_rev (x : Str) (t u : Tok) : sliceMade x t none none (some (-1, u)) = .str ⟨x.cps.toList.reverse.toArray⟩ := by
  unfold sliceMade
  rw [if_neg (by simp)]
  unfold slicePicked
  show Made.str ⟨((sliceRange ((x.length : Int) - 1) (-1) (-1)).filterMap (x.cps[·]?)).toArray⟩ = _
  rw [PySem.W.krv_sliceRange, PySem.W.krv_range, List.filterMap_reverse, show x.length = x.cps.size from rfl, PySem.W.krv_all]
section
variable {X : Cx} {e : Expr} {te : TE} {ts : TO} {pos p2 : Pos}
/-- x[::-1] of a text -/
def cRvS (Q : VK) (x : V) (i : Option Int) (H : Hp) : Prop := i = some (-1) ∧ ∃ z : Str, x = .str z ∧ z.length ≤ sizeLine ∧ Q (.str ⟨z.cps.toList.reverse.toArray⟩) H
def tRvS (te : TE) (ts : TO) : TE := fun σ H Q => te σ H fun x H1 => ts σ H1 fun i H2 => cRvS Q x i H2
theorem pe_revS {uo : UnaryOp} {se : Expr} {p5 : Pos} (he : PE X e te) (hs : PO X (some (.UnaryOp uo se p5)) ts) : PE X (.Subscript e (.Slice none none (some (.UnaryOp uo se p5)) p2) pos) (tRvS te ts) := by
  refine ⟨fun pins s σ H Q I h => ?_⟩
  refine Subscript_ (thn (he.run pins s σ H _ I h) fun v s1 ⟨x, H1, I1, r1, q1⟩ => ?_)
  refine wpAny_Slice ?_
  rw [evalPart_none]
  refine wpAny_pure (wpAny_pure (thn (hs.run pins s1 σ H1 _ I1 q1) fun vk s3 ⟨i, H3, I3, pk, q3⟩ => ?_))
  obtain ⟨rfl, z, rfl, hz, q⟩ := q3
  obtain ⟨t, rfl⟩ := r1
  cases pk with
  | int _ u =>
    let so : Obj := { cls := .type "slice", data := .fields #[Value.none, Value.none, .int (-1) u] }
    have I4 : Inv X pins σ H3 { s3 with heap := s3.heap.push so } := I3.kept (t' := s3.toks) fun b ob z => Heap.get?_push_of_some _ z
    have hsl : ({ s3 with heap := s3.heap.push so } : Shared).heap.IsSlice s3.heap.objs.size none none (some (-1, u)) := ⟨_, Heap.get?_push_size _ rfl, rfl, rfl⟩
    refine tail_any (T := "str") (ops := [.str z t, .ref s3.heap.objs.size]) (typeIs_str _ _ _) F.slot_str_getitem.lookup (wpAny_getItem_str_slice (l := none) (u := none) (st := some (-1, u)) hsl rfl ?_) (by with_unfolding_all rfl)
    rw [str_rev]
    refine ⟨by show z.cps.toList.reverse.toArray.size ≤ sizeLine; rw [List.size_toArray, List.length_reverse]; exact hz, .str _, H3, I4.tok _, ⟨_, rfl⟩, q⟩
theorem r_rvS {σ : L2.St} {H : Hp} {Q : VK} (k : te σ H fun x H1 => ts σ H1 fun i H2 => cRvS Q x i H2) : tRvS te ts σ H Q := k
theorem o_rvS {H : Hp} {Q : VK} {z : Str} (h : z.length ≤ sizeLine) (k : Q (.str ⟨z.cps.toList.reverse.toArray⟩) H) : cRvS Q (.str z) (some (-1)) H := ⟨rfl, z, rfl, h, k⟩
end
end Bs

set_option Elab.async false
set_option linter.all false
set_option maxRecDepth 100000
set_option maxHeartbeats 2000000
/-! truth of ints; divmod; sums. -/
namespace Bs
open PySem PySem.Spec PySem.Calls PyProof.Rows L2
def cTr (K : PySem.W.Frag) (R : Bool → Hp → Prop) (x : V) (H : Hp) : Prop := ∃ k, TruV K x H k ∧ R k H
def tTr (K : PySem.W.Frag) (ta : TE) : TT := fun σ H R => ta σ H (cTr K R)
theorem pt_tr {X : Cx} {a : Expr} {ta : TE} (ha : PE X a ta) (he : ∀ whole, isTrue a X.env whole = (do let v ← whole; standAt a.pos; holding [v] (truthy v))) : PT X a (tTr X.K ta) := pt_truth ha he
def rDvm : List V → Hp → VK → Prop := fun xs H Q => ∃ i j, xs = [.int i, .int j] ∧ CDiv i j ∧ ∀ p, H p = none → Q (.ref p) (upd H p (.tup [.int (i / j), .int (i % j)]))
theorem cb_divmod {X : Cx} : CallR X (.builtin "divmod") rDvm := call_divmod
section
variable {K : PySem.W.Frag} {F H : Hp} {L : List (Addr × HO)} {R : Bool → Hp → Prop} {ta : TE} {σ : L2.St} {Q : VK} {i j : Int} {a : Addr} {ns : List Int}
theorem r_tr (k : ta σ H (cTr K R)) : tTr K ta σ H R := k
theorem tr_int (k : R (decide (i ≠ 0)) H) : cTr K R (.int i) H := ⟨decide (i ≠ 0), by by_cases h : i = 0 <;> simp [TruV, h], k⟩
theorem o_dvm (h : Own F H L) (c : 0 < j) (c2 : j < 1073741824) (k : ∀ p H', H p = none → Own F H' ((p, .tup [.int (i / j), .int (i % j)]) :: L) → Q (.ref p) H') : rDvm [.int i, .int j] H Q := ⟨i, j, rfl, ⟨c, c2⟩, fun p n => k p _ n (h.new n)⟩
theorem r_sum (s : SqL K H a (ns.map V.int)) (k : Q (.int ns.sum) H) : rSum K [.ref a] H Q := ⟨a, ns, rfl, s, k⟩
end
end Bs

set_option Elab.async false
set_option linter.all false
set_option maxRecDepth 100000
set_option maxHeartbeats 2000000
/-! own classes: signs between two of one class, bool(x), x.m(e) by the slots -/
namespace Bs
open PySem PySem.Spec PySem.Calls PyProof.Rows L2
/-- a sign between two of a class -/
structure OpE (P : Program) (w : World) (K : PySem.W.Frag) (mg : Str → Option Value) (base : Heap) (CX : CXT) (C : Addr) (nm : String) (k : Nat) (sp : Sp) : Prop where
  sf : PySem.W.selfFirst K C = true
  ex : ∃ f, MeC P w K mg base CX C (dunder nm) k ["self", "other"] sp f
def rSame (C : Addr) (sp : Sp) (E : XK) : R2 := fun x y H Q => ∃ a dx fs b dy gs, x = .ref a ∧ H a = some (.ins C dx fs) ∧ y = .ref b ∧ H b = some (.ins C dy gs) ∧ sp [.ref a, .ref b] H Q E
def tSame (C : Addr) (sp : Sp) (E : L2.St → XK) (ta tb : TE) : TE := fun σ H Q => ta σ H fun x H1 => tb σ H1 fun y H2 => rSame C sp (E σ) x y H2 Q
section
variable {X : Cx} {CX : CXT} {C : Addr} {j k : Nat} {sp : Sp} {E : L2.St → XK}
theorem pe_same {a b : Expr} {ta tb : TE} {pos : Pos} {op : Operator} (c : OpE X.prog X.w X.K X.mg X.base CX C op.info.2 k sp) (hr : Room j X.A) (hk : k ≤ j) (hx : ∀ σ, PassesAt CX X σ (E σ)) (ha : PE X a ta) (hb : PE X b tb) : PE X (.BinOp a op b pos) (tSame C sp E ta tb) := by
  refine ⟨fun pins s σ H Q I h => wpAny_BinOp (binT ha hb I h fun v u s2 x y H2 I2 rx ry q => ?_)⟩
  obtain ⟨a, dx, fs, b, dy, gs, ex, ea, ey, eb, q⟩ := q
  subst ex ey
  obtain rfl : v = Value.ref a := rx
  obtain rfl : u = Value.ref b := ry
  obtain ⟨f, mf⟩ := c.ex
  obtain ⟨cd, rest, hcd, hm⟩ := PySem.W.ksp_first c.sf
  obtain ⟨mA, O, _⟩ := ins_get I2.hok ea
  obtain ⟨od, J, _⟩ := O.look
  obtain ⟨mB, O2, _⟩ := ins_get I2.hok eb
  obtain ⟨od2, J2, _⟩ := O2.look
  have run : wpAny (model X.prog X.w) X.A (call (.ref f) [.ref a, .ref b]) (PySem.W.CmpBack (EP X pins σ Q)) X.xe s2 :=
    wpAny_mono (mf.call (vs := [.ref a, .ref b]) hr hk (hx σ) I2 (.cons rfl (.cons rfl .nil)) q) (fun _ _ z => back_of z) fun _ _ z => z
  unfold binaryOp
  refine wpAny_holding (wpAny_bind (wpAny_mono (bin1_same I2.kIn J J2.type hcd hm mf.at_ mf.fn run) (fun r s' z => ?_) fun _ _ z => z))
  obtain ⟨v', rfl, z⟩ := z
  exact wpAny_pure z
/-- x.m(e, ..): what is raised by the slots -/
def tMeS (C : Addr) (m : Str) (sp : Sp) (E : L2.St → XK) (ta : TE) (t : TA) : TE := fun σ H Q => ta σ H fun x H1 => ∃ a dx fs, x = .ref a ∧ H1 a = some (.ins C dx fs) ∧ fs.lookup m = none ∧ t σ H1 fun vs H2 => sp (x :: vs) H2 Q (E σ)
theorem pe_meS {pl : Sem Bool} {o e : Expr} {es : List Expr} {ta : TE} {t : TA} {m : Str} {f : Addr} {ps : List Str} {apos pos : Pos} (c : MeC X.prog X.w X.K X.mg X.base CX C m k ps sp f) (cl : Cls X.K C) (kp : PySem.W.keepIn X.K (.ref f) = true) (hr : Room j X.A) (hk : k ≤ j) (hx : ∀ σ, PassesAt CX X σ (E σ)) (he : PE X o ta) (ha : PA X (e :: es) t)
    (hst : starEach (e :: es) X.env = (false, eval e X.env) :: starEach es X.env := by rfl) (hpl : (backTo pos (starEach es X.env)).any (·.1) = false := by rfl)
    (ht : eval (.Call (.Attribute o m apos) (e :: es) [] pos) X.env = (do
      let ov ← eval o X.env
      standAt apos.atName
      let (f, first) ← holding [ov] (getMethod ov m pl)
      callWith pos f first (backTo pos (starEach (e :: es) X.env)) (backToKw pos (keywordEach [] X.env))) := by rfl) :
    PE X (.Call (.Attribute o m apos) (e :: es) [] pos) (tMeS C m sp E ta t) := by
  refine ⟨fun pins s σ H Q I h => ?_⟩
  refine PySem.W.methodCall_KW (pl := pl) (thn (he.run pins s σ H _ I h) fun u s1 ⟨x, H1, I1, rx, a, dx, fs, ex, ea, l, q⟩ => ?_) ht
  subst ex
  obtain rfl : u = Value.ref a := rx
  have hm : Meth X.K C m f := ⟨c.at_, c.fn, kp⟩
  refine getmeth_ok I1 ea cl hm l ?_
  refine PySem.W.callWith_K (first := [.ref a]) (h₀ := X.base) I.ok.mod.kin hm.kp (thn (ha.run pos pins s1 σ H1 _ I1 q) fun us s2 ⟨vs, H2, I2, r, q2⟩ => ⟨I2.kIn, ?_⟩) hst hpl
  exact c.call (us := .ref a :: us) (vs := .ref a :: vs) hr hk (hx σ) I2 (.cons rfl r) q2
/-- bool(x) by an own __bool__ -/
theorem meets_bool_own {prog : Program} {w : World} (x : Addr) : MeetsIn prog w (Builtin.«bool.__new__» ⟨[.type "bool", .ref x], []⟩) (fun A R s => wpAny (model prog w) A.in1 (truthy (.ref x)) (fun b s' => R (.ok (.ret (.bool b))) s') (fun e s' => R (.error e) s') s) :=
  .of_wp fun A R s h => by
    have f1 := F.conv_sub_bool
    repeat (any_goals (first | assumption | (refine wpAny_bind (m := truthy _) (wpAny_mono h (fun _ _ z => ?_) fun _ _ z => z)) | wp_step))
    all_goals first | exact ⟨_, rfl, z⟩ | exact z | trace_state
theorem MeC.call2 {m : Str} {ps : List Str} {f : Addr} {E : XK} (c : MeC X.prog X.w X.K X.mg X.base CX C m k ps sp f) (hr : Room (k + 2) X.A) {pins : List (Addr × Obj)} {σ : L2.St} (hx : PassesAt CX X σ E) {H : Hp} {s : Shared} {Q : VK} {us : List Value} {vs : List V} (I : Inv X pins σ H s) (r : Vals vs us) (h : sp vs H Q E) :
    wpAny (model X.prog X.w) X.A.in1.in1 (PySem.call (.ref f) us) (EP X pins σ Q) X.xe s := by
  obtain ⟨fd, F, b⟩ := c.ex
  have l := F.len _ _ _ _ h
  have bt := b s us I.kIn (by rw [List.append_nil, ← r.length, l])
  rw [List.append_nil] at bt
  apply wpAny_call
  apply codeAny_mono (F.run X.A.in1.in1 X.stack s H ⟨us, []⟩ us vs Q E hr.in1.in1 I.env0.in1.in1 bt r h)
  intro rs t q
  match rs, q with
  | .error er, q => exact hx pins H s er t I q
  | .ok (.ret u), q => exact I.after q
  | .ok .next, q => exact q.elim
  | .ok .brk, q => exact q.elim
  | .ok .cont, q => exact q.elim
/-- bool(x) of an own class -/
def rBoolO (C : Addr) (sp : Sp) : List V → Hp → VK → Prop := fun xs H Q => ∃ a dx fs, xs = [.ref a] ∧ H a = some (.ins C dx fs) ∧ sp [.ref a] H (fun v H' => ∃ b, v = .bl b ∧ Q (.bl b) H') fun _ _ _ => False
theorem call_boolO {f : Addr} (c : MeC X.prog X.w X.K X.mg X.base CX0 C "__bool__" k ["self"] sp f) (hr : Room j X.A) (hk : k + 2 ≤ j) : CallR X (.type "bool") (rBoolO C sp) := by
  intro pins s σ H xs us Q I r h
  obtain ⟨a, dx, fs, rfl, ea, q⟩ := h
  obtain rfl := Vals.ref1 r
  obtain ⟨mA, O, _⟩ := ins_get I.hok ea
  obtain ⟨od, J, _⟩ := O.look
  obtain ⟨m, fr⟩ := I.fr
  refine callType_newIn PySem.F.called_bool PySem.F.newNe_bool (PySem.F.typeCall_bool_1 _) (PySem.F.newCall_bool_1 _) (fun obj => PySem.F.args_object_init_2 obj _) PySem.F.entry_bool_new (meets_bool_own a) ?_
  refine PySem.W.truthy_K fr I.ok.mod.kin J c.at_ c.fn (wpAny_mono (c.call2 (vs := [.ref a]) (hr.mono hk) psE0 I (.cons rfl .nil) q) (fun v s' z => ?_) fun _ _ z => z)
  obtain ⟨x, H', I', r1, b, rfl, q1⟩ := z
  obtain rfl : v = Value.bool b := r1
  exact ⟨rfl, .bl b, H', I', rfl, q1⟩
end
end Bs

set_option Elab.async false
set_option linter.all false
set_option maxRecDepth 100000
set_option maxHeartbeats 2000000
/-! sum(xs) of a list of bools -/
namespace Bs
open PySem PySem.Spec PySem.Calls PyProof.Rows L2
def bI (b : Bool) : Int := if b = true then 1 else 0
def rSumB (K : PySem.W.Frag) : List V → Hp → VK → Prop := fun vs H Q => ∃ (a : Addr) (bs : List Bool), vs = [V.ref a] ∧ SqL K H a (bs.map V.bl) ∧ Q (.int (bs.map bI).sum) H
theorem cr_sumB {X : Cx} (hc : X.calm = true) : CallR X (.builtin "sum") (rSumB X.K) := by
  intro pins s σ H vs us Q I r h
  obtain ⟨a, bs, rfl, hs, q⟩ := h
  obtain ⟨its, rv, hl, _⟩ := I.list hs
  rw [Vals.ref1 r]
  have hb := rv.bls
  refine call_sum_walkAnyB (iter_any hl.isList fun s₂ e2 st hne => ?_)
  subst e2
  refine ⟨_, _, _, _, _, _, _, fun i => (bs.map bI).getD i 0, rfl, (Walks.list (A := X.A.in1) (I.ok.hd hc) _ a hne its.toArray).toS, st, ?_, fun i v hv => ?_, fun s' t' hm => ?_⟩
  · intro b hb
    have hlt : a < s.heap.objs.size := by obtain ⟨_, e, _⟩ := hl.isList; exact Heap.lt_size e
    show b < (s.heap.push _).objs.size
    rw [Heap.size_push]
    rcases List.mem_cons.mp hb with rfl | hb
    · exact Nat.lt_succ_self _
    · rw [List.mem_singleton.mp hb]; exact Nat.lt_succ_of_lt hlt
  · have hv' : its[i]? = some v := by simpa using hv
    rw [hb, List.getElem?_map] at hv'
    obtain ⟨b, hb', rfl⟩ := Option.map_eq_some_iff.mp hv'
    exact .inr ⟨b, rfl, by simp [List.getD_eq_getElem?_getD, hb', bI]⟩
  · rw [Moved.eq_with hm]
    refine ⟨.int _, H, I.kept fun b o eo => hm.heap b o (fun hmem => ?_) (Heap.get?_push_of_some _ eo), ⟨t', ?_⟩, q⟩
    · rcases List.mem_cons.mp hmem with e1 | hmem
      · exact absurd (e1 ▸ Heap.lt_size eo) (Nat.lt_irrefl _)
      · cases hmem
    · have e := preSum_getD (bs.map bI) its.toArray.size
      rw [List.take_of_length_le (by rw [hb]; simp)] at e
      show Value.int (preSum _ its.toArray.size) t' = _
      rw [e]
theorem r_sumB {K : PySem.W.Frag} {H : Hp} {a : Addr} {bs : List Bool} {Q : VK} (s : SqL K H a (bs.map V.bl)) (k : Q (.int (bs.map bI).sum) H) : rSumB K [.ref a] H Q := ⟨a, bs, rfl, s, k⟩
end Bs

set_option Elab.async false
set_option linter.all false
set_option maxRecDepth 100000
set_option maxHeartbeats 2000000
/-! x.m(k = v): a method of an own class, its arguments by keyword -/
namespace Bs
open PySem PySem.Spec PySem.Calls PyProof.Rows L2
structure MeK (P : Program) (w : World) (K : PySem.W.Frag) (mg : Str → Option Value) (base : Heap) (CX : CXT) (C : Addr) (m : Str) (k : Nat) (ps : List Str) (sp : Sp) (f : Addr) (ks : List Str) (gV : List V → List V → List V) : Prop where
  at_ : PySem.W.findIn K (.ref C) m = some (some (.ref f))
  fn : PySem.W.isFn K (.ref f) = true
  ex : ∃ fd, FnOk P w K mg base CX k f fd ps sp ∧ Cb K fd ps 1 ks gV
def tMeSk (C : Addr) (m : Str) (n : Nat) (sp : Sp) (gV : List V → List V → List V) (E : L2.St → XK) (ta : TE) (tk : TA) : TE := fun σ H Q => ta σ H fun x H1 => ∃ a dx fs, x = .ref a ∧ H1 a = some (.ins C dx fs) ∧ fs.lookup m = none ∧ tk σ H1 fun zs H2 => zs.length = n ∧ sp (gV [x] zs) H2 Q (E σ)
section
variable {X : Cx} {CX : CXT} {C : Addr} {j k : Nat} {sp : Sp} {E : L2.St → XK} {gV : List V → List V → List V}
theorem pe_meSk {pl : Sem Bool} {o : Expr} {kws : List Keyword} {ta : TE} {tk : TA} {m : Str} {f : Addr} {ps ks : List Str} {apos pos : Pos} (c : MeK X.prog X.w X.K X.mg X.base CX C m k ps sp f ks gV) (cl : Cls X.K C) (kp : PySem.W.keepIn X.K (.ref f) = true) (hr : Room j X.A) (hk : k ≤ j) (hx : ∀ σ, PassesAt CX X σ (E σ)) (he : PE X o ta) (hkw : PK X kws tk)
    (hall : (backToKw pos (keywordEach kws X.env)).all (·.1.isSome) = true := by rfl) (hks : (backToKw pos (keywordEach kws X.env)).filterMap (·.1) = ks := by rfl)
    (hpl : ((backTo pos (starEach [] X.env)).any (·.1) || (backToKw pos (keywordEach kws X.env)).any (·.1.isNone)) = false := by rfl)
    (ht : eval (.Call (.Attribute o m apos) [] kws pos) X.env = (do
      let ov ← eval o X.env
      standAt apos.atName
      let (f, first) ← holding [ov] (getMethod ov m pl)
      callWith pos f first (backTo pos (starEach [] X.env)) (backToKw pos (keywordEach kws X.env))) := by rfl) :
    PE X (.Call (.Attribute o m apos) [] kws pos) (tMeSk C m ks.length sp gV E ta tk) := by
  refine ⟨fun pins s σ H Q I h => ?_⟩
  refine PySem.W.methodCall_KW (pl := pl) (thn (he.run pins s σ H _ I h) fun u s1 ⟨x, H1, I1, rx, a, dx, fs, ex, ea, l, q⟩ => ?_) ht
  subst ex
  obtain rfl : u = Value.ref a := rx
  have hm : Meth X.K C m f := ⟨c.at_, c.fn, kp⟩
  obtain ⟨fd, F, hb⟩ := c.ex
  refine getmeth_ok I1 ea cl hm l ?_
  refine PySem.W.callWith_KW0 (first := [.ref a]) (h₀ := X.base) I.ok.mod.kin hm.kp hall ?_ hpl
  refine thn (hkw.run pos pins s1 σ H1 _ I1 q) ?_
  rintro ws s2 ⟨zs, H2, I2, rz, l2, q2⟩
  refine ⟨I2.kIn, ?_⟩
  rw [hks]
  exact go_fn (us := [.ref a]) (vs := [.ref a]) F (hr.mono hk) hb (hx σ) I2 (.cons rfl .nil) rz rfl l2 q2
end
end Bs

set_option Elab.async false
set_option linter.all false
set_option maxRecDepth 100000
set_option maxHeartbeats 2000000
/-! zip of a list and a tuple -/
namespace Bs
open PySem PySem.Spec PyProof.Rows L2
section
variable {prog : Program} {w : World} {A : Around} {E : Value → Shared → Prop} {s : Shared} {z TI TO i1 i2 l1 l2 : Addr} {k1 k2 : Nat} {xs ys : Array Value} {x y a b : Value}
/-- what __next__ of a zip object comes to: the first iterator is asked in a suite that gives back the owned tuple -/
theorem zm_item {Q : Value → Shared → Prop} (D : ZipApart z TI TO i1 i2 l1 l2) (ez : IsZip s.heap z TI TO .none) (eI : PySem.IsPair s.heap TI (.ref i1) (.ref i2)) (eO : PySem.IsPair s.heap TO a b)
    (t1 : s.heap.IsListIter i1 l1 k1) (t2 : s.heap.IsTupleIter i2 l2 k2) (p1 : s.heap.IsList l1 xs) (p2 : s.heap.IsTuple l2 ys) (ex : xs[k1]? = some x) (ey : ys[k2]? = some y)
    (go : ∀ h', IsZip h' z TI TO (rawInt s.heap.objs.size) → PySem.IsPair h' TO x y → h'.IsListIter i1 l1 (k1 + 1) → h'.IsTupleIter i2 l2 (k2 + 1) → PySem.IsPair h' s.heap.objs.size x y → h'.objs.size = s.heap.objs.size + 1 →
      (∀ c o, c ≠ z → c ≠ TO → c ≠ i1 → c ≠ i2 → s.heap.get? c = some o → h'.get? c = some o) → Q (.ref s.heap.objs.size) { s with heap := h' }) :
    wpAny (model prog w) A (Builtin.«zip.__next__» ⟨[.ref z], []⟩) (fun fin s' => ∃ v, fin = .done (.ret v) ∧ Q v s') E s := by
  show wpAny (model prog w) A (field (.ref z) 2 >>= _) _ E s
  apply wpAny_bind
  apply wpAny_field ez rfl (x := .bool false) rfl
  show wpAny (model prog w) A (field (.ref z) 3 >>= _) _ E s
  apply wpAny_bind
  apply wpAny_field ez rfl (x := .ref TI) rfl
  apply wpAny_bind
  apply wpAny_seqItems eI rfl
  show wpAny (model prog w) A (Builtin.SmallTypes.ownedTupleIsFree (.ref z) >>= _) _ E s
  apply wpAny_bind
  unfold Builtin.SmallTypes.ownedTupleIsFree
  apply wpAny_bind
  apply wpAny_field ez rfl (x := .none) rfl
  apply wpAny_pure
  simp only [if_true]
  apply wpAny_bind
  apply wpAny_rule
  apply wpAny_bind
  apply wpAny_field ez rfl (x := .ref TO) rfl
  apply wpAny_bind
  apply wpAny_setField_rec ez (by simp)
  intro ha za sa
  have za : IsZip ha z TI TO .ellipsis := za
  apply wpAny_bind
  simp only [List.zipIdx_cons, List.zipIdx_nil, List.forIn_cons, List.forIn_nil]
  apply wpAny_bind
  apply wpAny_bind
  apply wpAny_onRaise
  show wpAny (model prog w) _ (Builtin.SmallTypes.nextOf (.ref i1) >>= _) _ _ _
  apply wpAny_bind
  apply wpAny_nextOf_list_item (t1.extBut sa.extBut D.i1z) (p1.extBut sa.extBut D.l1z) ex
  intro hb tb sb
  apply wpAny_pure
  have ob : PySem.IsPair hb TO a b := sb.extBut _ _ D.TOi1 (sa.extBut _ _ D.TOz eO)
  apply wpAny_bind
  apply wpAny_seqItems ob rfl
  apply wpAny_bind
  apply wpAny_updateSeq_pair ob
  intro hc oc sc
  have oc : PySem.IsPair hc TO x b := oc
  apply wpAny_bind
  apply wpAny_letGo
  apply wpAny_pure
  apply wpAny_bind
  apply wpAny_bind
  apply wpAny_onRaise
  show wpAny (model prog w) _ (Builtin.SmallTypes.nextOf (.ref i2) >>= _) _ _ _
  apply wpAny_bind
  have tt2 := ((t2.extBut sa.extBut D.i2z).extBut sb.extBut D.i12.symm).extBut sc.extBut D.TOi2.symm
  have pp2 := ((p2.extBut sa.extBut D.l2z).extBut sb.extBut D.l2i1).extBut sc.extBut D.l2TO
  apply RZ.nextOf_tuple_item tt2 pp2 ey
  intro hd td sd
  apply wpAny_pure
  have od : PySem.IsPair hd TO x b := sd.extBut _ _ D.TOi2 oc
  apply wpAny_bind
  apply wpAny_seqItems od rfl
  apply wpAny_bind
  apply wpAny_updateSeq_pair od
  intro he oe se
  have oe : PySem.IsPair he TO x y := oe
  apply wpAny_bind
  apply wpAny_letGo
  apply wpAny_pure
  apply wpAny_pure
  apply wpAny_bind
  apply wpAny_seqItems oe rfl
  apply wpAny_bind
  refine wpAny_newTuple ?_
  have size_ : he.objs.size = s.heap.objs.size := by rw [se.1, sd.1, sc.1, sb.1, sa.1]
  have keep : ∀ c o, c ≠ z → c ≠ TO → c ≠ i1 → c ≠ i2 → s.heap.get? c = some o → he.get? c = some o := by
    intro c o c1 c2 c3 c4 e
    have e1 := sa.extBut _ _ c1 e
    have e2 := sb.extBut _ _ c3 e1
    have e3 := sc.extBut _ _ c2 e2
    exact se.extBut _ _ c2 (sd.extBut _ _ c4 e3)
  have zb := sb.extBut _ _ D.i1z.symm za
  have zc := sc.extBut _ _ D.TOz.symm zb
  have zd := sd.extBut _ _ D.i2z.symm zc
  have ze : IsZip he z TI TO .ellipsis := se.extBut _ _ D.TOz.symm zd
  have te1 := ((tb.extBut sc.extBut D.TOi1.symm).extBut sd.extBut D.i12).extBut se.extBut D.TOi1.symm
  have te2 := td.extBut se.extBut D.TOi2.symm
  show wpAny (model prog w) _ (Builtin.SmallTypes.ownedTupleHandOut (.ref z) (.ref he.objs.size) >>= _) _ _ _
  apply wpAny_bind
  unfold Builtin.SmallTypes.ownedTupleHandOut
  have zf : IsZip (he.push { cls := .type "tuple", data := .seq #[x, y] }) z TI TO .ellipsis := Heap.get?_push_of_some _ ze
  apply wpAny_bind
  apply wpAny_setField_rec zf (by simp)
  intro hg zg sg
  have zg : IsZip hg z TI TO (rawInt he.objs.size) := zg
  apply wpAny_setField_rec zg (by simp)
  intro hh zh sh
  have zh : IsZip hh z TI TO (rawInt he.objs.size) := zh
  have up : ∀ c o, c ≠ z → he.get? c = some o → hh.get? c = some o := by
    intro c o c1 e
    have e1 := Heap.get?_push_of_some { cls := .type "tuple", data := .seq #[x, y] } e
    exact sh.extBut _ _ c1 (sg.extBut _ _ c1 e1)
  have nz : he.objs.size ≠ z := Nat.ne_of_gt (Heap.lt_size ze)
  have pair : PySem.IsPair hh he.objs.size x y := sh.extBut _ _ nz (sg.extBut _ _ nz (Heap.get?_push_size _ rfl))
  have size2 : hh.objs.size = he.objs.size + 1 := by rw [sh.1, sg.1, Heap.size_push]
  rw [size_] at zh pair size2
  apply wpAny_pure
  refine ⟨_, rfl, ?_⟩
  show Q (.ref he.objs.size) _
  rw [size_]
  exact go hh zh (up _ _ D.TOz oe) (te1.at fun o e => up _ o D.i1z e) (te2.at fun o e => up _ o D.i2z e) pair size2 fun c o c1 c2 c3 c4 e => up c o c1 (keep c o c1 c2 c3 c4 e)
theorem zm_end {Q : Fin → Shared → Prop} (calm : A.handled = none) (D : ZipApart z TI TO i1 i2 l1 l2) (ez : IsZip s.heap z TI TO .none) (eI : PySem.IsPair s.heap TI (.ref i1) (.ref i2)) (eO : PySem.IsPair s.heap TO a b)
    (t1 : s.heap.IsListIter i1 l1 k1) (t2 : s.heap.IsTupleIter i2 l2 k2) (p1 : s.heap.IsList l1 xs) (p2 : s.heap.IsTuple l2 ys) (no : xs[k1]? = none ∨ ys[k2]? = none)
    (go : ∀ h' e, (∀ c o, c ≠ z → c ≠ TO → c ≠ i1 → c ≠ i2 → s.heap.get? c = some o → h'.get? c = some o) → (∃ o, h'.get? e = some o ∧ o.cls = .type "StopIteration") → E (.ref e) { s with heap := h' }) :
    wpAny (model prog w) A (Builtin.«zip.__next__» ⟨[.ref z], []⟩) Q E s := by
  show wpAny (model prog w) A (field (.ref z) 2 >>= _) _ E s
  apply wpAny_bind
  apply wpAny_field ez rfl (x := .bool false) rfl
  show wpAny (model prog w) A (field (.ref z) 3 >>= _) _ E s
  apply wpAny_bind
  apply wpAny_field ez rfl (x := .ref TI) rfl
  apply wpAny_bind
  apply wpAny_seqItems eI rfl
  show wpAny (model prog w) A (Builtin.SmallTypes.ownedTupleIsFree (.ref z) >>= _) _ E s
  apply wpAny_bind
  unfold Builtin.SmallTypes.ownedTupleIsFree
  apply wpAny_bind
  apply wpAny_field ez rfl (x := .none) rfl
  apply wpAny_pure
  simp only [if_true]
  apply wpAny_bind
  apply wpAny_rule
  apply wpAny_bind
  apply wpAny_field ez rfl (x := .ref TO) rfl
  apply wpAny_bind
  apply wpAny_setField_rec ez (by simp)
  intro ha za sa
  have za : IsZip ha z TI TO .ellipsis := za
  apply wpAny_bind
  simp only [List.zipIdx_cons, List.zipIdx_nil, List.forIn_cons, List.forIn_nil]
  apply wpAny_bind
  apply wpAny_bind
  apply wpAny_onRaise
  show wpAny (model prog w) _ (Builtin.SmallTypes.nextOf (.ref i1) >>= _) _ _ _
  have ta := t1.extBut sa.extBut D.i1z
  have pa := p1.extBut sa.extBut D.l1z
  cases hx : xs[k1]? with
  | none =>
    apply wpAny_bind
    apply wpAny_nextOf_list_end calm ta pa hx
    intro hb e kb fb
    obtain ⟨oe, f1, f2⟩ := fb
    have zb : IsZip hb z TI TO .ellipsis := kb _ _ D.i1z.symm za
    have ne : e ≠ z := by
      intro q
      rw [q, zb] at f1
      cases f1
      simp at f2
    apply wpAny_setField_rec zb (by simp)
    intro hc _ kc
    refine go hc e (fun c o c1 _ c3 _ q => ?_) ⟨oe, kc.extBut _ _ ne f1, f2⟩
    exact kc.extBut _ _ c1 (kb _ _ c3 (sa.extBut _ _ c1 q))
  | some v =>
    have hy : ys[k2]? = none := by
      rcases no with q | q
      · rw [hx] at q; cases q
      · exact q
    apply wpAny_bind
    apply wpAny_nextOf_list_item ta pa hx
    intro hb tb kb
    apply wpAny_pure
    have ob : PySem.IsPair hb TO a b := kb.extBut _ _ D.TOi1 (sa.extBut _ _ D.TOz eO)
    apply wpAny_bind
    apply wpAny_seqItems ob rfl
    apply wpAny_bind
    apply wpAny_updateSeq_pair ob
    intro hc _ kc
    apply wpAny_bind
    apply wpAny_letGo
    apply wpAny_pure
    apply wpAny_bind
    apply wpAny_bind
    apply wpAny_onRaise
    show wpAny (model prog w) _ (Builtin.SmallTypes.nextOf (.ref i2) >>= _) _ _ _
    apply wpAny_bind
    have tc := ((t2.extBut sa.extBut D.i2z).extBut kb.extBut D.i12.symm).extBut kc.extBut D.TOi2.symm
    have pc := ((p2.extBut sa.extBut D.l2z).extBut kb.extBut D.l2i1).extBut kc.extBut D.l2TO
    apply RZ.nextOf_tuple_end calm tc pc hy
    intro hd e kd fd
    obtain ⟨oe, f1, f2⟩ := fd
    have zb : IsZip hb z TI TO .ellipsis := kb.extBut _ _ D.i1z.symm za
    have zc : IsZip hc z TI TO .ellipsis := kc.extBut _ _ D.TOz.symm zb
    have zd : IsZip hd z TI TO .ellipsis := kd _ _ D.i2z.symm zc
    have ne : e ≠ z := by
      intro q
      rw [q, zd] at f1
      cases f1
      simp at f2
    apply wpAny_setField_rec zd (by simp)
    intro hf _ kf
    refine go hf e (fun c o c1 c2 c3 c4 q => ?_) ⟨oe, kf.extBut _ _ ne f1, f2⟩
    have q1 := kb.extBut _ _ c3 (sa.extBut _ _ c1 q)
    exact kf.extBut _ _ c1 (kd _ _ c4 (kc.extBut _ _ c2 q1))
theorem zm_pyitem {Q : Option Value → Shared → Prop} (D : ZipApart z TI TO i1 i2 l1 l2) (ez : IsZip s.heap z TI TO .none) (eI : PySem.IsPair s.heap TI (.ref i1) (.ref i2)) (eO : PySem.IsPair s.heap TO a b)
    (t1 : s.heap.IsListIter i1 l1 k1) (t2 : s.heap.IsTupleIter i2 l2 k2) (p1 : s.heap.IsList l1 xs) (p2 : s.heap.IsTuple l2 ys) (ex : xs[k1]? = some x) (ey : ys[k2]? = some y)
    (go : ∀ h', IsZip h' z TI TO (rawInt s.heap.objs.size) → PySem.IsPair h' TO x y → h'.IsListIter i1 l1 (k1 + 1) → h'.IsTupleIter i2 l2 (k2 + 1) → PySem.IsPair h' s.heap.objs.size x y → h'.objs.size = s.heap.objs.size + 1 →
      (∀ c o, c ≠ z → c ≠ TO → c ≠ i1 → c ≠ i2 → s.heap.get? c = some o → h'.get? c = some o) → Q (some (.ref s.heap.objs.size)) { s with heap := h' }) : wpAny (model prog w) A (pyNext (.ref z)) Q E s := by
  have ty : s.TypeIs (.ref z) "zip" := ⟨_, ez, rfl⟩
  unfold pyNext
  apply wpAny_bind
  apply wpAny_attempt
  apply wpAny_callSpecial?_slot (name := Str.ofString "__next__") ty F.slot_zip_next
  apply wpAny_call_entry F.slot_zip_next ty F.entry_zip_next _ (F.args_zip_next_1 _)
  apply zm_item D ez eI eO t1 t2 p1 p2 ex ey
  intro h' a1 a2 a3 a4 a5 a6 a7
  apply wpAny_pure
  exact go h' a1 a2 a3 a4 a5 a6 a7
theorem zm_pyend {Q : Option Value → Shared → Prop} (calm : A.handled = none) (D : ZipApart z TI TO i1 i2 l1 l2) (ez : IsZip s.heap z TI TO .none) (eI : PySem.IsPair s.heap TI (.ref i1) (.ref i2)) (eO : PySem.IsPair s.heap TO a b)
    (t1 : s.heap.IsListIter i1 l1 k1) (t2 : s.heap.IsTupleIter i2 l2 k2) (p1 : s.heap.IsList l1 xs) (p2 : s.heap.IsTuple l2 ys) (no : xs[k1]? = none ∨ ys[k2]? = none)
    (go : ∀ h', (∀ c o, c ≠ z → c ≠ TO → c ≠ i1 → c ≠ i2 → s.heap.get? c = some o → h'.get? c = some o) → Q none { s with heap := h' }) : wpAny (model prog w) A (pyNext (.ref z)) Q E s := by
  have ty : s.TypeIs (.ref z) "zip" := ⟨_, ez, rfl⟩
  unfold pyNext
  apply wpAny_bind
  apply wpAny_attempt
  apply wpAny_callSpecial?_slot (name := Str.ofString "__next__") ty F.slot_zip_next
  apply wpAny_call_entry F.slot_zip_next ty F.entry_zip_next _ (F.args_zip_next_1 _)
  apply zm_end (A := A.in1) calm D ez eI eO t1 t2 p1 p2 no
  intro h' e keep fe
  obtain ⟨o, f1, f2⟩ := fe
  refine wpAny_bind (wpAny_isInstance (b := true) (T := "StopIteration") ⟨o, f1, f2⟩ isSubtype_stop (wpAny_pure ?_))
  exact go _ keep
/-- the objects that zip(list, tuple) makes -/
abbrev zmH1 (h : Heap) (l1 : Addr) : Heap := h.push { cls := .type "list_iterator", data := .fields #[.ref l1, .int 0 0] }
abbrev zmH2 (h : Heap) (l1 l2 : Addr) : Heap := (zmH1 h l1).push { cls := .type "tuple_iterator", data := .fields #[.ref l2, .int 0 0] }
abbrev zmH3 (h : Heap) (l1 l2 : Addr) : Heap := (zmH2 h l1 l2).push { cls := .type "tuple", data := .seq #[.ref h.objs.size, .ref (zmH1 h l1).objs.size] }
abbrev zmH4 (h : Heap) (l1 l2 : Addr) : Heap := (zmH3 h l1 l2).push { cls := .type "tuple", data := .seq #[.none, .none] }
abbrev zmH5 (h : Heap) (l1 l2 : Addr) : Heap := (zmH4 h l1 l2).push { cls := .type "zip", data := .fields #[.none, .bool false, .bool false, .ref (zmH2 h l1 l2).objs.size, .ref (zmH3 h l1 l2).objs.size] }
end
theorem zm_new (l1 l2 : Addr) (xs ys : Array Value) : Meets (Builtin.«zip.__new__» ⟨[.type "zip", .ref l1, .ref l2], []⟩)
    (fun _ R s => s.heap.IsList l1 xs ∧ s.heap.IsTuple l2 ys ∧ R (.ok (.ret (.ref (zmH4 s.heap l1 l2).objs.size))) { s with heap := zmH5 s.heap l1 l2 }) :=
  .of_wp fun prog w A R s h => by
    obtain ⟨hp, g, d, tk, os⟩ := s
    obtain ⟨q1, q2, h⟩ := h
    have hsub := sub_zip
    have u1 : Heap.IsList (Shared.heap ⟨hp, g, d, tk, os⟩) l1 xs := q1
    have u2 : Heap.IsTuple (Shared.heap ⟨zmH1 hp l1, g, d, tk, os⟩) l2 ys := Heap.IsTuple.push q2 _
    wp_walk using wpAny_pyIter_list u1, wpAny_pyIter_tuple u2
    exact ⟨_, rfl, h⟩
section
variable {prog : Program} {w : World} {A : Around} {E : Value → Shared → Prop} {s : Shared} {l1 l2 : Addr} {xs ys : Array Value}
theorem zm_call {Q : Value → Shared → Prop} (p1 : s.heap.IsList l1 xs) (p2 : s.heap.IsTuple l2 ys)
    (go : ∀ h', IsZip h' (s.heap.objs.size + 4) (s.heap.objs.size + 2) (s.heap.objs.size + 3) .none → PySem.IsPair h' (s.heap.objs.size + 2) (.ref s.heap.objs.size) (.ref (s.heap.objs.size + 1)) → PySem.IsPair h' (s.heap.objs.size + 3) .none .none →
      h'.IsListIter s.heap.objs.size l1 0 → h'.IsTupleIter (s.heap.objs.size + 1) l2 0 → (∀ c o, s.heap.get? c = some o → h'.get? c = some o) → Q (.ref (s.heap.objs.size + 4)) { s with heap := h' }) :
    wpAny (model prog w) A (call (.type "zip") [.ref l1, .ref l2]) Q E s := by
  have n1 : (zmH1 s.heap l1).objs.size = s.heap.objs.size + 1 := Heap.size_push ..
  have n2 : (zmH2 s.heap l1 l2).objs.size = s.heap.objs.size + 2 := by rw [Heap.size_push, n1]
  have n3 : (zmH3 s.heap l1 l2).objs.size = s.heap.objs.size + 3 := by rw [Heap.size_push, n2]
  have n4 : (zmH4 s.heap l1 l2).objs.size = s.heap.objs.size + 4 := by rw [Heap.size_push, n3]
  have m1 := Heap.get?_push_size s.heap (o := { cls := .type "list_iterator", data := .fields #[.ref l1, .int 0 0] }) rfl
  have m2 := Heap.get?_push_size (zmH1 s.heap l1) (o := { cls := .type "tuple_iterator", data := .fields #[.ref l2, .int 0 0] }) rfl
  have m3 := Heap.get?_push_size (zmH2 s.heap l1 l2) (o := { cls := .type "tuple", data := .seq #[.ref s.heap.objs.size, .ref (zmH1 s.heap l1).objs.size] }) rfl
  have m4 := Heap.get?_push_size (zmH3 s.heap l1 l2) (o := { cls := .type "tuple", data := .seq #[.none, .none] }) rfl
  have m5 : (zmH5 s.heap l1 l2).get? (zmH4 s.heap l1 l2).objs.size = some _ := Heap.get?_push_size _ rfl
  have up5 : ∀ c o, (zmH4 s.heap l1 l2).get? c = some o → (zmH5 s.heap l1 l2).get? c = some o := fun c o e => Heap.get?_push_of_some _ e
  have up4 : ∀ c o, (zmH3 s.heap l1 l2).get? c = some o → (zmH5 s.heap l1 l2).get? c = some o := fun c o e => up5 c o (Heap.get?_push_of_some _ e)
  have up3 : ∀ c o, (zmH2 s.heap l1 l2).get? c = some o → (zmH5 s.heap l1 l2).get? c = some o := fun c o e => up4 c o (Heap.get?_push_of_some _ e)
  have up2 : ∀ c o, (zmH1 s.heap l1).get? c = some o → (zmH5 s.heap l1 l2).get? c = some o := fun c o e => up3 c o (Heap.get?_push_of_some _ e)
  have up1 : ∀ c o, s.heap.get? c = some o → (zmH5 s.heap l1 l2).get? c = some o := fun c o e => up2 c o (Heap.get?_push_of_some _ e)
  have g1 := up2 _ _ m1
  have g2 := up3 _ _ m2
  have g3 := up4 _ _ m3
  have g4 := up5 _ _ m4
  refine callType_new F.called_zip (by decide) (F.typeCall_zip_2 _ _) (F.newCall_zip_2 _ _) (fun o => F.args_object_init_3 o _ _) F.entry_zip_new (zm_new l1 l2 xs ys) ⟨p1, p2, ?_⟩
  show _ ∧ _
  rw [n2, n3, n4] at m5
  rw [n1, n2] at g3
  rw [n3] at g4
  rw [n1] at g2
  rw [n4]
  exact ⟨⟨_, m5, rfl⟩, go _ m5 g3 g4 ⟨_, g1, rfl, rfl⟩ ⟨_, g2, rfl, rfl⟩ up1⟩
end
/-- the list at a and the tuple at b as they stand at each turn, the items in new pairs -/
def Itm (K : PySem.W.Frag) (a b : Addr) : It where
  go := fun i H => ∃ (xs ys : List V) (x y : V), SqL K H a xs ∧ SqT K H b ys ∧ xs[i]? = some x ∧ ys[i]? = some y
  yld := fun i H v H' => ∃ T x y, v = .ref T ∧ H T = none ∧ H' = upd H T (.tup [x, y]) ∧ (∀ xs, SqL K H a xs → xs[i]? = some x) ∧ ∀ ys, SqT K H b ys → ys[i]? = some y
  stop := fun i H => ∃ xs ys : List V, SqL K H a xs ∧ SqT K H b ys ∧ (xs.length ≤ i ∨ ys.length ≤ i)
theorem zm_five {z TI TO i1 i2 c : Addr} {p : Addr → Prop} (hc : c ∈ [z, TI, TO, i1, i2]) (h1 : p z) (h2 : p TI) (h3 : p TO) (h4 : p i1) (h5 : p i2) : p c := by
  simp only [List.mem_cons, List.not_mem_nil, or_false] at hc
  rcases hc with rfl | rfl | rfl | rfl | rfl <;> assumption
theorem turn_zm {P : Program} {w : World} {K : PySem.W.Frag} {elts : List Expr} {kk : Nat} {tpos : Pos} {a b z TI TO i1 i2 : Addr} (D : ZipApart z TI TO i1 i2 a b) : Turn P w K (.Tuple elts kk tpos) (Itm K a b) [z, TI, TO, i1, i2] z
    (fun i h => IsZip h z TI TO .none ∧ PySem.IsPair h TI (.ref i1) (.ref i2) ∧ (∃ x y, PySem.IsPair h TO x y) ∧ h.IsListIter i1 a i ∧ h.IsTupleIter i2 b i) := by
  constructor
  case mem => simp
  case obj =>
    intro i h st c hc
    obtain ⟨e1, e2, ⟨x, y, e3⟩, ⟨o1, e4, _, d4⟩, ⟨o2, e5, _, d5⟩⟩ := st
    refine zm_five (p := fun c => ∃ ob, h.get? c = some ob ∧ ∀ v : Option Value, ob.data ≠ .cell v) hc ⟨_, e1, ?_⟩ ⟨_, e2, ?_⟩ ⟨_, e3, ?_⟩ ⟨o1, e4, ?_⟩ ⟨o2, e5, ?_⟩
    · intro v q; cases q
    · intro v q; cases q
    · intro v q; cases q
    · intro v q; rw [d4] at q; cases q
    · intro v q; rw [d5] at q; cases q
  case keep =>
    intro i h h' st k
    obtain ⟨e1, e2, ⟨x, y, e3⟩, e4, e5⟩ := st
    have k1 := k z (by simp)
    have k2 := k TI (by simp)
    have k3 := k TO (by simp)
    have k4 := k i1 (by simp)
    have k5 := k i2 (by simp)
    exact ⟨k1 _ e1, k2 _ e2, ⟨x, y, k3 _ e3⟩, e4.at fun o q => k4 o q, e5.at fun o q => k5 o q⟩
  case item =>
    intro X hP hw hK calm i pins s σ H E I fr st hg
    subst hP hw hK
    obtain ⟨e1, e2, ⟨x0, y0, e3⟩, e4, e5⟩ := st
    obtain ⟨xs, ys, x, y, qx, qy, hx, hy⟩ := hg
    obtain ⟨us, rv, p, _⟩ := I.list qx
    obtain ⟨vs, rv2, p2, _⟩ := I.tuple qy
    obtain ⟨u, hu, ru⟩ := rv.get hx
    obtain ⟨v, hv, rv'⟩ := rv2.get hy
    have zl : z < s.heap.objs.size := Heap.lt_size e1
    apply zm_pyitem D e1 e2 e3 e4 e5 p.isList p2 (x := u) (y := v) (by simpa using hu) (by simpa using hv)
    intro h' f1 f2 f3 f4 f5 _ kp
    refine ⟨_, rfl, wpAny_letOwnedTupleGo_zip (s := { s with heap := h' }) f1 fun h'' f1' sb => ?_⟩
    have pr : h''.get? s.heap.objs.size = some { cls := .type "tuple", data := .seq #[u, v] } := (sb.2 _ (Nat.ne_of_gt zl)).trans f5
    have nw : ObjOk X.prog X.w (upd H s.heap.objs.size (.tup [x, y])) h'' s.heap.objs.size (.tup [x, y]) := by
      refine ⟨?_, [u, v], .cons ru (.cons rv' .nil), _, pr, rfl, _, rfl⟩
      show 2 ≤ sizeLine
      decide
    have kk2 : ∀ c o, c ∉ [z, TI, TO, i1, i2] → s.heap.get? c = some o → h''.get? c = some o := by
      intro c o hb q
      simp only [List.mem_cons, List.not_mem_nil, or_false, not_or] at hb
      obtain ⟨b1, b2, b3, b4, b5⟩ := hb
      exact (sb.2 c b1).trans (kp c o b1 b3 b4 b5 q)
    have I1 : Inv X pins σ (upd H s.heap.objs.size (.tup [x, y])) { s with heap := h'' } := I.turnedNew (t' := s.toks) (ch := [z, TI, TO, i1, i2]) kk2 fr (Nat.le_refl _) nw
    have fresh := I.hok.fresh (Nat.le_refl s.heap.objs.size)
    refine ⟨.ref s.heap.objs.size, _, I1, rfl, ⟨_, x, y, rfl, fresh, rfl, fun l hl => ?_, fun l hl => ?_⟩, ⟨f1', ?_, ⟨u, v, ?_⟩, ?_, ?_⟩, fun c hcm => ?_⟩
    · rw [I.list_inj hl qx]; exact hx
    · rw [I.tuple_inj hl qy]; exact hy
    · exact (sb.2 _ D.TIz).trans (kp _ _ D.TIz D.TITO D.TIi1 D.TIi2 e2)
    · exact (sb.2 _ D.TOz).trans f2
    · exact f3.at fun o q => (sb.2 _ D.i1z).trans q
    · exact f4.at fun o q => (sb.2 _ D.i2z).trans q
    · have lt : c < s.heap.objs.size := by
        obtain ⟨_, e4', _⟩ := e4
        obtain ⟨_, e5', _⟩ := e5
        exact zm_five (p := fun c => c < s.heap.objs.size) hcm zl (Heap.lt_size e2) (Heap.lt_size e3) (Heap.lt_size e4') (Heap.lt_size e5')
      rw [upd_ne (Nat.ne_of_lt lt)]
      exact (fr c hcm).1
  case done =>
    intro X hP hw hK calm i pins s σ H E I fr st hg
    subst hP hw hK
    obtain ⟨e1, e2, ⟨x0, y0, e3⟩, e4, e5⟩ := st
    obtain ⟨xs, ys, qx, qy, fin⟩ := hg
    obtain ⟨us, rv, p, _⟩ := I.list qx
    obtain ⟨vs, rv2, p2, _⟩ := I.tuple qy
    have n1 := rv.length
    have n2 := rv2.length
    have no : us.toArray[i]? = none ∨ vs.toArray[i]? = none := by
      rcases fin with q | q
      · left; simp; omega
      · right; simp; omega
    apply zm_pyend (I.ok.hd calm) D e1 e2 e3 e4 e5 p.isList p2 no
    intro h' kp
    refine ⟨rfl, I.turnedL (t' := s.toks) (ch := [z, TI, TO, i1, i2]) (fun c o hb q => ?_) fr⟩
    simp only [List.mem_cons, List.not_mem_nil, or_false, not_or] at hb
    obtain ⟨b1, b2, b3, b4, b5⟩ := hb
    exact kp c o b1 b3 b4 b5 q
  case self =>
    intro A i s Q E st h
    exact wpAny_pyIter_zip st.1 h
def iZipM (K : PySem.W.Frag) (ta : TA) : TI := fun σ H R => ta σ H fun vs H1 => ∃ a b xs ys, vs = [.ref a, .ref b] ∧ SqL K H1 a xs ∧ SqT K H1 b ys ∧ R (Itm K a b) H1
theorem pi_zipM {X : Cx} {e e2 : Expr} {ta : TA} {p pos tpos : Pos} {elts : List Expr} {kk : Nat} (hg : Gl X "zip") (hm : X.mg "zip" = none) (ha : PA X [e, e2] ta) (hs : starEach [e, e2] X.env = (false, eval e X.env) :: starEach [e2] X.env := by rfl)
    (hpl : (backTo pos (starEach [e2] X.env)).any (·.1) = false := by rfl) : PI X (.Tuple elts kk tpos) (.Call (.Name "zip" p) [e, e2] [] pos) (iZipM X.K ta) := by
  constructor
  intro pins s σ H R I h
  have run := ha.run pos pins s σ H _ I h
  refine Call_ (ld_blt I hg hm PyProof.Rows.boot_zip (PyProof.Rows.callWith_type1 (thn run fun us s1 ⟨vs, H1, I1, r1, q1⟩ => ?_) hs hpl))
  obtain ⟨a, b, xs, ys, ex, qx, qy, q⟩ := q1
  subst ex
  cases r1 with
  | cons r rr =>
    cases rr with
    | cons r' rr =>
      cases rr
      cases r
      cases r'
      obtain ⟨us', rv, p1, _⟩ := I1.list qx
      obtain ⟨vs', rv2, p2, _⟩ := I1.tuple qy
      obtain ⟨o2, ho2, _⟩ := id p2
      apply zm_call p1.isList (show s1.heap.IsTuple b vs'.toArray from p2)
      intro h' f1 f2 f3 f4 f5 kp
      apply wpAny_pyIter_zip f1
      have I2 : Inv X pins σ H1 { s1 with heap := h' } := I1.kept (t' := s1.toks) kp
      have ap := PySem.W.ktu_apart s1.heap.objs.size a b p1.lt (Heap.lt_size ho2)
      refine ⟨s1.heap.objs.size + 4, [s1.heap.objs.size + 4, s1.heap.objs.size + 2, s1.heap.objs.size + 3, s1.heap.objs.size, s1.heap.objs.size + 1], _, _, H1, rfl, I2, turn_zm ap, ⟨f1, f2, ⟨_, _, f3⟩, f4, f5⟩, fun c hcm => ?_, q⟩
      have le : s1.heap.objs.size ≤ c := zm_five (p := fun c => s1.heap.objs.size ≤ c) hcm (by omega) (by omega) (by omega) (Nat.le_refl _) (by omega)
      exact I1.fpOk le (I1.hok.fresh le)
end Bs

set_option Elab.async false
set_option linter.all false
set_option maxRecDepth 100000
set_option maxHeartbeats 4000000
namespace Bs
open PySem PySem.Spec PyProof.Rows L2
def top (i : Nat) : Stmt := PySem.Challenge.pw_bitsolve_k37_low_rows_by_index.main.body.getD i (.Pass ⟨0, 0, 0, 0⟩)
abbrev FnP (K : PySem.W.Frag) (x q : Str) (st : Stmt) (f : Addr) (fd : FuncData) : Prop := FunD K x q (defArgs st) (defBody st) (defScope st) [] [] f fd
end Bs

/-! questions to the head -/
namespace Bs
open PySem PySem.Spec PyProof.Rows L2
def qTy (x : Str) : Qn := fun K => decide (PySem.W.findIn K (.ref (He.ga K x)) "__class__" = some (some (.builtin "object.__class__"))) && (decide (PySem.W.specialIn K (.builtin "object.__class__") "__get__" = some (some (.builtin "getset_descriptor.__get__"))) && (decide (PySem.W.takesIn K (.builtin "object.__class__") = some true) &&
  (decide (PySem.W.mroIn K (He.ga K x) (.type "object") = some true) && (decide (PySem.W.kitOne K (.ref (He.ga K x)) (.ref (He.ga K x)) = some true) && (decide (PySem.W.kitOne K (.type "int") (.ref (He.ga K x)) = some false) && decide (PySem.W.kitOne K (.type "int") (.type "int") = some true))))))
def qTyB : Qn := fun K => decide (PySem.W.kitOne K (.type "int") (.type "bool") = some false) && decide (PySem.W.kitOne K (.type "int") (.type "int") = some true)
def qRn (x : Str) (nm : String) : Qn := fun K => decide (PySem.W.findIn K (.ref (He.ga K x)) (dunderR nm) = some none)
def qEqO (x : Str) : Qn := fun K => decide (PySem.W.notFirst K (He.ga K x) (.ref (He.ga K x)) = true) && (decide (PySem.W.findIn K (.ref (He.ga K x)) "__ne__" = some (some (.builtin "object.__ne__"))) && decide (PySem.W.mroIn K (He.ga K x) (.type "object") = some true))
def qInt (x : Str) (i : Int) : Qn := fun K => (He.Fa.int x i).ok K
def qTyS : Qn := fun K => decide (PySem.W.kitOne K (.type "str") (.type "str") = some true)
def qExm (x y : Str) (b : Bool) : Qn := fun K => decide (PySem.W.exmOne K (.ref (He.ga K x)) (.ref (He.ga K y)) = some b)
def qSf (x : Str) : Qn := fun K => PySem.W.selfFirst K (He.ga K x)
end Bs

namespace Bs
open PySem PySem.Spec PyProof.Rows L2
abbrev s__law_well : Stmt := top 63
theorem sc__law_well : FnScope ["_law_script", "_law_place", "_law_cell"] ["_law_script", "_law_place"] (defScope s__law_well) := ⟨rfl, rfl, rfl, by decide +kernel, rfl, by decide +kernel, by decide +kernel⟩
abbrev s__law_dip : Stmt := top 64
theorem sc__law_dip : FnScope ["_law_well_here", "_law_span", "_law_drawn", "_law_step", "_law_seed", "_law_stirred"] ["_law_well_here", "_law_span"] (defScope s__law_dip) := ⟨rfl, rfl, rfl, by decide +kernel, rfl, by decide +kernel, by decide +kernel⟩
abbrev s__law_letters : Stmt := top 67
theorem sc__law_letters : FnScope ["_law_well_here", "_law_count", "_law_found", "_law_at", "_law_turn"] ["_law_well_here", "_law_count"] (defScope s__law_letters) := ⟨rfl, rfl, rfl, by decide +kernel, rfl, by decide +kernel, by decide +kernel⟩
abbrev s__law_rings : Stmt := top 65
theorem sc__law_rings : FnScope ["_law_well_here", "_law_letters_here", "_law_most", "_law_blocks", "_law_size", "_law_outs", "_law_turn", "_law_far", "_law_ring", "_law_rooms_here", "_law_letter", "_law_at", "_law_rank", "_law_first", "_law_later", "_law_block", "_law_main", "_law_extra", "_law_goal"] ["_law_well_here", "_law_letters_here", "_law_most"] (defScope s__law_rings) := ⟨rfl, rfl, rfl, by decide +kernel, rfl, by decide +kernel, by decide +kernel⟩
abbrev s__law_rooms : Stmt := top 66
theorem sc__law_rooms : FnScope ["_law_well_here", "_law_letters_here", "_law_most", "_law_size", "_law_gaps", "_law_rooms_here", "_law_at", "_law_letter"] ["_law_well_here", "_law_letters_here", "_law_most"] (defScope s__law_rooms) := ⟨rfl, rfl, rfl, by decide +kernel, rfl, by decide +kernel, by decide +kernel⟩
abbrev s__law_trim : Stmt := top 68
theorem sc__law_trim : FnScope ["_law_rooms_here", "_law_live", "_law_before", "_law_room", "_law_follow"] ["_law_rooms_here"] (defScope s__law_trim) := ⟨rfl, rfl, rfl, by decide +kernel, rfl, by decide +kernel, by decide +kernel⟩
abbrev s_BitError___init__ : Stmt := inClass (top 2) 0
theorem sc_BitError___init__ : FnScope ["self", "value"] ["self", "value"] (defScope s_BitError___init__) := ⟨rfl, rfl, rfl, by decide +kernel, rfl, by decide +kernel, by decide +kernel⟩
abbrev s_is_letter : Stmt := top 41
theorem sc_is_letter : FnScope ["name"] ["name"] (defScope s_is_letter) := ⟨rfl, rfl, rfl, by decide +kernel, rfl, by decide +kernel, by decide +kernel⟩
abbrev s_check_names : Stmt := top 46
theorem sc_check_names : FnScope ["names", "index", "name"] ["names"] (defScope s_check_names) := ⟨rfl, rfl, rfl, by decide +kernel, rfl, by decide +kernel, by decide +kernel⟩
abbrev s_is_room : Stmt := top 47
theorem sc_is_room : FnScope ["room", "letters", "number", "follow"] ["room", "letters", "number"] (defScope s_is_room) := ⟨rfl, rfl, rfl, by decide +kernel, rfl, by decide +kernel, by decide +kernel⟩
abbrev s_live_rooms : Stmt := top 31
theorem sc_live_rooms : FnScope ["rooms", "live", "room", "changed", "step", "at", "follow"] ["rooms"] (defScope s_live_rooms) := ⟨rfl, rfl, rfl, by decide +kernel, rfl, by decide +kernel, by decide +kernel⟩
abbrev s_room_kinds : Stmt := top 32
theorem sc_room_kinds : FnScope ["rooms", "live", "kinds", "room", "number", "found", "places", "later", "at", "key", "follow"] ["rooms", "live"] (defScope s_room_kinds) := ⟨rfl, rfl, rfl, by decide +kernel, rfl, by decide +kernel, by decide +kernel⟩
abbrev s_least_table : Stmt := top 33
theorem sc_least_table : FnScope ["rooms", "live", "kinds", "heads", "at", "number", "places", "names", "found", "room", "follow", "leads"] ["rooms"] (defScope s_least_table) := ⟨rfl, rfl, rfl, by decide +kernel, rfl, by decide +kernel, by decide +kernel⟩
abbrev s_Solutions___init__ : Stmt := inClass (top 51) 0
theorem sc_Solutions___init__ : FnScope ["self", "names", "table", "index", "room"] ["self", "names", "table"] (defScope s_Solutions___init__) := ⟨rfl, rfl, rfl, by decide +kernel, rfl, by decide +kernel, by decide +kernel⟩
abbrev s_check_alike : Stmt := top 49
theorem sc_check_alike : FnScope ["names", "other_names"] ["names", "other_names"] (defScope s_check_alike) := ⟨rfl, rfl, rfl, by decide +kernel, rfl, by decide +kernel, by decide +kernel⟩
abbrev s_pair_follow : Stmt := top 34
theorem sc_pair_follow : FnScope ["one", "other", "pair", "letter", "left", "right"] ["one", "other", "pair", "letter"] (defScope s_pair_follow) := ⟨rfl, rfl, rfl, by decide +kernel, rfl, by decide +kernel, by decide +kernel⟩
abbrev s_paired : Stmt := top 35
theorem sc_paired : FnScope ["one", "other", "letters", "both", "begin", "lost", "places", "pairs", "rooms", "room", "letter", "pair"] ["one", "other", "letters", "both"] (defScope s_paired) := ⟨rfl, rfl, rfl, by decide +kernel, rfl, by decide +kernel, by decide +kernel⟩
abbrev s_Solutions___and__ : Stmt := inClass (top 51) 5
theorem sc_Solutions___and__ : FnScope ["self", "other"] ["self", "other"] (defScope s_Solutions___and__) := ⟨rfl, rfl, rfl, by decide +kernel, rfl, by decide +kernel, by decide +kernel⟩
abbrev s_Solutions___or__ : Stmt := inClass (top 51) 6
theorem sc_Solutions___or__ : FnScope ["self", "other"] ["self", "other"] (defScope s_Solutions___or__) := ⟨rfl, rfl, rfl, by decide +kernel, rfl, by decide +kernel, by decide +kernel⟩
abbrev s_check_known : Stmt := top 58
theorem sc_check_known : FnScope ["names", "known", "name"] ["names", "known"] (defScope s_check_known) := ⟨rfl, rfl, rfl, by decide +kernel, rfl, by decide +kernel, by decide +kernel⟩
abbrev s_Solutions_names : Stmt := inClass (top 51) 1
theorem sc_Solutions_names : FnScope ["self"] ["self"] (defScope s_Solutions_names) := ⟨rfl, rfl, rfl, by decide +kernel, rfl, by decide +kernel, by decide +kernel⟩
abbrev s_kept_letter : Stmt := top 38
theorem sc_kept_letter : FnScope ["letter", "places", "index", "place"] ["letter", "places"] (defScope s_kept_letter) := ⟨rfl, rfl, rfl, by decide +kernel, rfl, by decide +kernel, by decide +kernel⟩
abbrev s_renamed : Stmt := top 61
theorem sc_renamed : FnScope ["solutions", "pairs", "old", "later", "changed", "later_names", "name", "index", "names", "places", "kept", "letter", "room"] ["solutions", "pairs"] (defScope s_renamed) := ⟨rfl, rfl, rfl, by decide +kernel, rfl, by decide +kernel, by decide +kernel⟩
abbrev s_lead_of : Stmt := top 17
theorem sc_lead_of : FnScope ["top", "bottom", "found"] ["top", "bottom"] (defScope s_lead_of) := ⟨rfl, rfl, rfl, by decide +kernel, rfl, by decide +kernel, by decide +kernel⟩
abbrev s_Word_lead : Stmt := inClass (top 22) 3
theorem sc_Word_lead : FnScope ["self"] ["self"] (defScope s_Word_lead) := ⟨rfl, rfl, rfl, by decide +kernel, rfl, by decide +kernel, by decide +kernel⟩
abbrev s_span_of : Stmt := top 18
theorem sc_span_of : FnScope ["bottom", "found", "power"] ["bottom"] (defScope s_span_of) := ⟨rfl, rfl, rfl, by decide +kernel, rfl, by decide +kernel, by decide +kernel⟩
abbrev s_Word_span : Stmt := inClass (top 22) 4
theorem sc_Word_span : FnScope ["self"] ["self"] (defScope s_Word_span) := ⟨rfl, rfl, rfl, by decide +kernel, rfl, by decide +kernel, by decide +kernel⟩
abbrev s_inverse_low : Stmt := top 15
theorem sc_inverse_low : FnScope ["bottom", "width", "found", "known"] ["bottom", "width"] (defScope s_inverse_low) := ⟨rfl, rfl, rfl, by decide +kernel, rfl, by decide +kernel, by decide +kernel⟩
abbrev s_low_of : Stmt := top 16
theorem sc_low_of : FnScope ["top", "bottom", "width"] ["top", "bottom", "width"] (defScope s_low_of) := ⟨rfl, rfl, rfl, by decide +kernel, rfl, by decide +kernel, by decide +kernel⟩
abbrev s_Word_top : Stmt := inClass (top 22) 1
theorem sc_Word_top : FnScope ["self"] ["self"] (defScope s_Word_top) := ⟨rfl, rfl, rfl, by decide +kernel, rfl, by decide +kernel, by decide +kernel⟩
abbrev s_Word_bottom : Stmt := inClass (top 22) 2
theorem sc_Word_bottom : FnScope ["self"] ["self"] (defScope s_Word_bottom) := ⟨rfl, rfl, rfl, by decide +kernel, rfl, by decide +kernel, by decide +kernel⟩
abbrev s_word_bits : Stmt := top 27
theorem sc_word_bits : FnScope ["word", "lead", "many", "low", "place"] ["word"] (defScope s_word_bits) := ⟨rfl, rfl, rfl, by decide +kernel, rfl, by decide +kernel, by decide +kernel⟩
abbrev s_next_place : Stmt := top 37
theorem sc_next_place : FnScope ["row", "place", "bits", "lead"] ["row", "place"] (defScope s_next_place) := ⟨rfl, rfl, rfl, by decide +kernel, rfl, by decide +kernel, by decide +kernel⟩
abbrev s_part_with : Stmt := top 60
theorem sc_part_with : FnScope ["solutions", "name", "word", "others", "other", "at", "bits", "places", "pairs", "rooms", "here", "place", "room", "letter", "low", "high", "follow", "pair"] ["solutions", "name", "word"] (defScope s_part_with) := ⟨rfl, rfl, rfl, by decide +kernel, rfl, by decide +kernel, by decide +kernel⟩
abbrev s_widened : Stmt := top 59
theorem sc_widened : FnScope ["solutions", "names", "places", "name", "kept", "letter", "room"] ["solutions", "names"] (defScope s_widened) := ⟨rfl, rfl, rfl, by decide +kernel, rfl, by decide +kernel, by decide +kernel⟩
abbrev s_common_part : Stmt := top 14
theorem sc_common_part : FnScope ["one", "other"] ["one", "other"] (defScope s_common_part) := ⟨rfl, rfl, rfl, by decide +kernel, rfl, by decide +kernel, by decide +kernel⟩
abbrev s_Word___init__ : Stmt := inClass (top 22) 0
theorem sc_Word___init__ : FnScope ["self", "top", "bottom", "shared"] ["self", "top", "bottom"] (defScope s_Word___init__) := ⟨rfl, rfl, rfl, by decide +kernel, rfl, by decide +kernel, by decide +kernel⟩
abbrev s_check_known_names : Stmt := top 48
theorem sc_check_known_names : FnScope ["names", "equations", "equation", "name"] ["names", "equations"] (defScope s_check_known_names) := ⟨rfl, rfl, rfl, by decide +kernel, rfl, by decide +kernel, by decide +kernel⟩
abbrev s_next_state : Stmt := top 29
theorem sc_next_state : FnScope ["line", "state", "letter", "pile", "later", "sign", "number", "bits", "held", "bit", "total", "second"] ["line", "state", "letter"] (defScope s_next_state) := ⟨rfl, rfl, rfl, by decide +kernel, rfl, by decide +kernel, by decide +kernel⟩
abbrev s_explored : Stmt := top 30
theorem sc_explored : FnScope ["line", "letters", "begin", "step", "places", "states", "rooms", "room", "letter", "later"] ["line", "letters"] (defScope s_explored) := ⟨rfl, rfl, rfl, by decide +kernel, rfl, by decide +kernel, by decide +kernel⟩
abbrev s_rooms_of : Stmt := top 50
theorem sc_rooms_of : FnScope ["names", "equations", "line", "equation"] ["names", "equations"] (defScope s_rooms_of) := ⟨rfl, rfl, rfl, by decide +kernel, rfl, by decide +kernel, by decide +kernel⟩
abbrev s_solve : Stmt := top 52
theorem sc_solve : FnScope ["names", "equations"] ["names", "equations"] (defScope s_solve) := ⟨rfl, rfl, rfl, by decide +kernel, rfl, by decide +kernel, by decide +kernel⟩
abbrev s__law_made : Stmt := top 71
theorem sc__law_made : FnScope ["_law_names_here", "_law_rooms_here", "_law_made_here", "_law_pick", "_law_room", "_law_free", "_law_letter"] ["_law_names_here", "_law_rooms_here"] (defScope s__law_made) := ⟨rfl, rfl, rfl, by decide +kernel, rfl, by decide +kernel, by decide +kernel⟩
abbrev s_Solutions_table : Stmt := inClass (top 51) 2
theorem sc_Solutions_table : FnScope ["self", "room"] ["self"] (defScope s_Solutions_table) := ⟨rfl, rfl, rfl, by decide +kernel, rfl, by decide +kernel, by decide +kernel⟩
abbrev s_Solutions___bool__ : Stmt := inClass (top 51) 4
theorem sc_Solutions___bool__ : FnScope ["self"] ["self"] (defScope s_Solutions___bool__) := ⟨rfl, rfl, rfl, by decide +kernel, rfl, by decide +kernel, by decide +kernel⟩
abbrev s_Solutions___eq__ : Stmt := inClass (top 51) 7
theorem sc_Solutions___eq__ : FnScope ["self", "other"] ["self", "other"] (defScope s_Solutions___eq__) := ⟨rfl, rfl, rfl, by decide +kernel, rfl, by decide +kernel, by decide +kernel⟩
abbrev s__law_stays : Stmt := top 72
theorem sc__law_stays : FnScope ["_law_made_here", "_law_names_here", "_law_rooms_here", "_law_fresh", "_law_room", "_law_told", "_law_again"] ["_law_made_here", "_law_names_here", "_law_rooms_here"] (defScope s__law_stays) := ⟨rfl, rfl, rfl, by decide +kernel, rfl, by decide +kernel, by decide +kernel⟩
abbrev s__law_low : Stmt := top 70
theorem sc__law_low : FnScope ["_law_path", "_law_count", "_law_place", "_law_letter", "_law_at"] ["_law_path", "_law_count"] (defScope s__law_low) := ⟨rfl, rfl, rfl, by decide +kernel, rfl, by decide +kernel, by decide +kernel⟩
abbrev s__law_all : Stmt := top 74
theorem sc__law_all : FnScope ["_law_trimmed", "_law_wide", "_law_count", "_law_paths", "_law_place", "_law_later", "_law_path", "_law_at", "_law_letter", "_law_follow"] ["_law_trimmed", "_law_wide", "_law_count"] (defScope s__law_all) := ⟨rfl, rfl, rfl, by decide +kernel, rfl, by decide +kernel, by decide +kernel⟩
abbrev s_check_width : Stmt := top 54
theorem sc_check_width : FnScope ["width"] ["width"] (defScope s_check_width) := ⟨rfl, rfl, rfl, by decide +kernel, rfl, by decide +kernel, by decide +kernel⟩
abbrev s_ways_on : Stmt := top 25
theorem sc_ways_on : FnScope ["rooms", "width", "ways", "room", "place", "later", "follow"] ["rooms", "width"] (defScope s_ways_on) := ⟨rfl, rfl, rfl, by decide +kernel, rfl, by decide +kernel, by decide +kernel⟩
abbrev s_count_low : Stmt := top 55
theorem sc_count_low : FnScope ["solutions", "width"] ["solutions", "width"] (defScope s_count_low) := ⟨rfl, rfl, rfl, by decide +kernel, rfl, by decide +kernel, by decide +kernel⟩
abbrev s_low_row : Stmt := top 24
theorem sc_low_row : FnScope ["path", "count", "place", "letter", "at"] ["path", "count"] (defScope s_low_row) := ⟨rfl, rfl, rfl, by decide +kernel, rfl, by decide +kernel, by decide +kernel⟩
abbrev s_nth_low : Stmt := top 56
theorem sc_nth_low : FnScope ["solutions", "width", "index", "number", "ways", "path", "at", "left", "place", "letter", "follow", "more"] ["solutions", "width", "index"] (defScope s_nth_low) := ⟨rfl, rfl, rfl, by decide +kernel, rfl, by decide +kernel, by decide +kernel⟩
abbrev s__law_ways : Stmt := top 69
theorem sc__law_ways : FnScope ["_law_rooms_here", "_law_wide", "_law_ways_here", "_law_room", "_law_place", "_law_follow"] ["_law_rooms_here", "_law_wide"] (defScope s__law_ways) := ⟨rfl, rfl, rfl, by decide +kernel, rfl, by decide +kernel, by decide +kernel⟩
abbrev s__law_nth : Stmt := top 73
theorem sc__law_nth : FnScope ["_law_trimmed", "_law_wide", "_law_rank", "_law_count", "_law_path", "_law_at", "_law_steps", "_law_place", "_law_ahead", "_law_follow", "_law_room", "_law_after_here", "_law_found", "_law_letter"] ["_law_trimmed", "_law_wide", "_law_rank", "_law_count"] (defScope s__law_nth) := ⟨rfl, rfl, rfl, by decide +kernel, rfl, by decide +kernel, by decide +kernel⟩
abbrev s__law_right : Stmt := top 75
theorem sc__law_right : FnScope ["_law_well_here", "_law_count", "_law_names_here", "_law_rooms_here", "_law_trimmed", "_law_made_here", "_law_wide", "_law_owed", "_law_rank", "_law_total", "_law_due_here", "_law_told"] ["_law_well_here"] (defScope s__law_right) := ⟨rfl, rfl, rfl, by decide +kernel, rfl, by decide +kernel, by decide +kernel⟩
abbrev s_law : Stmt := top 76
theorem sc_law : FnScope ["_law_script", "_law_place", "_law_well_here", "_law_turn"] ["_law_script"] (defScope s_law) := ⟨rfl, rfl, rfl, by decide +kernel, rfl, by decide +kernel, by decide +kernel⟩
def d__law_well : He5.DefA := ⟨fun K => He.ga K "_law_well", "_law_well", "_law_well", defArgs s__law_well, defBody s__law_well, defScope s__law_well, [], []⟩
def d__law_dip : He5.DefA := ⟨fun K => He.ga K "_law_dip", "_law_dip", "_law_dip", defArgs s__law_dip, defBody s__law_dip, defScope s__law_dip, [], []⟩
def d__law_letters : He5.DefA := ⟨fun K => He.ga K "_law_letters", "_law_letters", "_law_letters", defArgs s__law_letters, defBody s__law_letters, defScope s__law_letters, [], []⟩
def d__law_rings : He5.DefA := ⟨fun K => He.ga K "_law_rings", "_law_rings", "_law_rings", defArgs s__law_rings, defBody s__law_rings, defScope s__law_rings, [], []⟩
def d__law_rooms : He5.DefA := ⟨fun K => He.ga K "_law_rooms", "_law_rooms", "_law_rooms", defArgs s__law_rooms, defBody s__law_rooms, defScope s__law_rooms, [], []⟩
def d__law_trim : He5.DefA := ⟨fun K => He.ga K "_law_trim", "_law_trim", "_law_trim", defArgs s__law_trim, defBody s__law_trim, defScope s__law_trim, [], []⟩
def d_BitError___init__ : He5.DefA := ⟨fun K => He.ma K (He.ga K "BitError") "__init__", "__init__", "BitError.__init__", defArgs s_BitError___init__, defBody s_BitError___init__, defScope s_BitError___init__, [], []⟩
def d_is_letter : He5.DefA := ⟨fun K => He.ga K "is_letter", "is_letter", "is_letter", defArgs s_is_letter, defBody s_is_letter, defScope s_is_letter, [], []⟩
def d_check_names : He5.DefA := ⟨fun K => He.ga K "check_names", "check_names", "check_names", defArgs s_check_names, defBody s_check_names, defScope s_check_names, [], []⟩
def d_is_room : He5.DefA := ⟨fun K => He.ga K "is_room", "is_room", "is_room", defArgs s_is_room, defBody s_is_room, defScope s_is_room, [], []⟩
def d_live_rooms : He5.DefA := ⟨fun K => He.ga K "live_rooms", "live_rooms", "live_rooms", defArgs s_live_rooms, defBody s_live_rooms, defScope s_live_rooms, [], []⟩
def d_room_kinds : He5.DefA := ⟨fun K => He.ga K "room_kinds", "room_kinds", "room_kinds", defArgs s_room_kinds, defBody s_room_kinds, defScope s_room_kinds, [], []⟩
def d_least_table : He5.DefA := ⟨fun K => He.ga K "least_table", "least_table", "least_table", defArgs s_least_table, defBody s_least_table, defScope s_least_table, [], []⟩
def d_Solutions___init__ : He5.DefA := ⟨fun K => He.ma K (He.ga K "Solutions") "__init__", "__init__", "Solutions.__init__", defArgs s_Solutions___init__, defBody s_Solutions___init__, defScope s_Solutions___init__, [], []⟩
def d_check_alike : He5.DefA := ⟨fun K => He.ga K "check_alike", "check_alike", "check_alike", defArgs s_check_alike, defBody s_check_alike, defScope s_check_alike, [], []⟩
def d_pair_follow : He5.DefA := ⟨fun K => He.ga K "pair_follow", "pair_follow", "pair_follow", defArgs s_pair_follow, defBody s_pair_follow, defScope s_pair_follow, [], []⟩
def d_paired : He5.DefA := ⟨fun K => He.ga K "paired", "paired", "paired", defArgs s_paired, defBody s_paired, defScope s_paired, [], []⟩
def d_Solutions___and__ : He5.DefA := ⟨fun K => He.ma K (He.ga K "Solutions") "__and__", "__and__", "Solutions.__and__", defArgs s_Solutions___and__, defBody s_Solutions___and__, defScope s_Solutions___and__, [], []⟩
def d_Solutions___or__ : He5.DefA := ⟨fun K => He.ma K (He.ga K "Solutions") "__or__", "__or__", "Solutions.__or__", defArgs s_Solutions___or__, defBody s_Solutions___or__, defScope s_Solutions___or__, [], []⟩
def d_check_known : He5.DefA := ⟨fun K => He.ga K "check_known", "check_known", "check_known", defArgs s_check_known, defBody s_check_known, defScope s_check_known, [], []⟩
def d_Solutions_names : He5.DefA := ⟨fun K => prp K (He.ga K "Solutions") "names", "names", "Solutions.names", defArgs s_Solutions_names, defBody s_Solutions_names, defScope s_Solutions_names, [], []⟩
def d_kept_letter : He5.DefA := ⟨fun K => He.ga K "kept_letter", "kept_letter", "kept_letter", defArgs s_kept_letter, defBody s_kept_letter, defScope s_kept_letter, [], []⟩
def d_renamed : He5.DefA := ⟨fun K => He.ga K "renamed", "renamed", "renamed", defArgs s_renamed, defBody s_renamed, defScope s_renamed, [], []⟩
def d_lead_of : He5.DefA := ⟨fun K => He.ga K "lead_of", "lead_of", "lead_of", defArgs s_lead_of, defBody s_lead_of, defScope s_lead_of, [], []⟩
def d_Word_lead : He5.DefA := ⟨fun K => prp K (He.ga K "Word") "lead", "lead", "Word.lead", defArgs s_Word_lead, defBody s_Word_lead, defScope s_Word_lead, [], []⟩
def d_span_of : He5.DefA := ⟨fun K => He.ga K "span_of", "span_of", "span_of", defArgs s_span_of, defBody s_span_of, defScope s_span_of, [], []⟩
def d_Word_span : He5.DefA := ⟨fun K => prp K (He.ga K "Word") "span", "span", "Word.span", defArgs s_Word_span, defBody s_Word_span, defScope s_Word_span, [], []⟩
def d_inverse_low : He5.DefA := ⟨fun K => He.ga K "inverse_low", "inverse_low", "inverse_low", defArgs s_inverse_low, defBody s_inverse_low, defScope s_inverse_low, [], []⟩
def d_low_of : He5.DefA := ⟨fun K => He.ga K "low_of", "low_of", "low_of", defArgs s_low_of, defBody s_low_of, defScope s_low_of, [], []⟩
def d_Word_top : He5.DefA := ⟨fun K => prp K (He.ga K "Word") "top", "top", "Word.top", defArgs s_Word_top, defBody s_Word_top, defScope s_Word_top, [], []⟩
def d_Word_bottom : He5.DefA := ⟨fun K => prp K (He.ga K "Word") "bottom", "bottom", "Word.bottom", defArgs s_Word_bottom, defBody s_Word_bottom, defScope s_Word_bottom, [], []⟩
def d_word_bits : He5.DefA := ⟨fun K => He.ga K "word_bits", "word_bits", "word_bits", defArgs s_word_bits, defBody s_word_bits, defScope s_word_bits, [], []⟩
def d_next_place : He5.DefA := ⟨fun K => He.ga K "next_place", "next_place", "next_place", defArgs s_next_place, defBody s_next_place, defScope s_next_place, [], []⟩
def d_part_with : He5.DefA := ⟨fun K => He.ga K "part_with", "part_with", "part_with", defArgs s_part_with, defBody s_part_with, defScope s_part_with, [], []⟩
def d_widened : He5.DefA := ⟨fun K => He.ga K "widened", "widened", "widened", defArgs s_widened, defBody s_widened, defScope s_widened, [], []⟩
def d_common_part : He5.DefA := ⟨fun K => He.ga K "common_part", "common_part", "common_part", defArgs s_common_part, defBody s_common_part, defScope s_common_part, [], []⟩
def d_Word___init__ : He5.DefA := ⟨fun K => He.ma K (He.ga K "Word") "__init__", "__init__", "Word.__init__", defArgs s_Word___init__, defBody s_Word___init__, defScope s_Word___init__, [.int 1], []⟩
def d_check_known_names : He5.DefA := ⟨fun K => He.ga K "check_known_names", "check_known_names", "check_known_names", defArgs s_check_known_names, defBody s_check_known_names, defScope s_check_known_names, [], []⟩
def d_next_state : He5.DefA := ⟨fun K => He.ga K "next_state", "next_state", "next_state", defArgs s_next_state, defBody s_next_state, defScope s_next_state, [], []⟩
def d_explored : He5.DefA := ⟨fun K => He.ga K "explored", "explored", "explored", defArgs s_explored, defBody s_explored, defScope s_explored, [], []⟩
def d_rooms_of : He5.DefA := ⟨fun K => He.ga K "rooms_of", "rooms_of", "rooms_of", defArgs s_rooms_of, defBody s_rooms_of, defScope s_rooms_of, [], []⟩
def d_solve : He5.DefA := ⟨fun K => He.ga K "solve", "solve", "solve", defArgs s_solve, defBody s_solve, defScope s_solve, [], []⟩
def d__law_made : He5.DefA := ⟨fun K => He.ga K "_law_made", "_law_made", "_law_made", defArgs s__law_made, defBody s__law_made, defScope s__law_made, [], []⟩
def d_Solutions_table : He5.DefA := ⟨fun K => prp K (He.ga K "Solutions") "table", "table", "Solutions.table", defArgs s_Solutions_table, defBody s_Solutions_table, defScope s_Solutions_table, [], []⟩
def d_Solutions___bool__ : He5.DefA := ⟨fun K => He.ma K (He.ga K "Solutions") "__bool__", "__bool__", "Solutions.__bool__", defArgs s_Solutions___bool__, defBody s_Solutions___bool__, defScope s_Solutions___bool__, [], []⟩
def d_Solutions___eq__ : He5.DefA := ⟨fun K => He.ma K (He.ga K "Solutions") "__eq__", "__eq__", "Solutions.__eq__", defArgs s_Solutions___eq__, defBody s_Solutions___eq__, defScope s_Solutions___eq__, [], []⟩
def d__law_stays : He5.DefA := ⟨fun K => He.ga K "_law_stays", "_law_stays", "_law_stays", defArgs s__law_stays, defBody s__law_stays, defScope s__law_stays, [], []⟩
def d__law_low : He5.DefA := ⟨fun K => He.ga K "_law_low", "_law_low", "_law_low", defArgs s__law_low, defBody s__law_low, defScope s__law_low, [], []⟩
def d__law_all : He5.DefA := ⟨fun K => He.ga K "_law_all", "_law_all", "_law_all", defArgs s__law_all, defBody s__law_all, defScope s__law_all, [], []⟩
def d_check_width : He5.DefA := ⟨fun K => He.ga K "check_width", "check_width", "check_width", defArgs s_check_width, defBody s_check_width, defScope s_check_width, [], []⟩
def d_ways_on : He5.DefA := ⟨fun K => He.ga K "ways_on", "ways_on", "ways_on", defArgs s_ways_on, defBody s_ways_on, defScope s_ways_on, [], []⟩
def d_count_low : He5.DefA := ⟨fun K => He.ga K "count_low", "count_low", "count_low", defArgs s_count_low, defBody s_count_low, defScope s_count_low, [], []⟩
def d_low_row : He5.DefA := ⟨fun K => He.ga K "low_row", "low_row", "low_row", defArgs s_low_row, defBody s_low_row, defScope s_low_row, [], []⟩
def d_nth_low : He5.DefA := ⟨fun K => He.ga K "nth_low", "nth_low", "nth_low", defArgs s_nth_low, defBody s_nth_low, defScope s_nth_low, [], []⟩
def d__law_ways : He5.DefA := ⟨fun K => He.ga K "_law_ways", "_law_ways", "_law_ways", defArgs s__law_ways, defBody s__law_ways, defScope s__law_ways, [], []⟩
def d__law_nth : He5.DefA := ⟨fun K => He.ga K "_law_nth", "_law_nth", "_law_nth", defArgs s__law_nth, defBody s__law_nth, defScope s__law_nth, [], []⟩
def d__law_right : He5.DefA := ⟨fun K => He.ga K "_law_right", "_law_right", "_law_right", defArgs s__law_right, defBody s__law_right, defScope s__law_right, [], []⟩
def d_law : He5.DefA := ⟨fun K => He.ga K "law", "law", "law", defArgs s_law, defBody s_law, defScope s_law, [], []⟩
def fn : List He5.DefA := [d__law_well, d__law_dip, d__law_letters, d__law_rings, d__law_rooms, d__law_trim, d_BitError___init__, d_is_letter, d_check_names, d_is_room, d_live_rooms, d_room_kinds, d_least_table, d_Solutions___init__, d_check_alike, d_pair_follow, d_paired, d_Solutions___and__, d_Solutions___or__, d_check_known, d_Solutions_names, d_kept_letter, d_renamed, d_lead_of, d_Word_lead, d_span_of, d_Word_span, d_inverse_low, d_low_of, d_Word_top, d_Word_bottom, d_word_bits, d_next_place, d_part_with, d_widened, d_common_part, d_Word___init__, d_check_known_names, d_next_state, d_explored, d_rooms_of, d_solve, d__law_made, d_Solutions_table, d_Solutions___bool__, d_Solutions___eq__, d__law_stays, d__law_low, d__law_all, d_check_width, d_ways_on, d_count_low, d_low_row, d_nth_low, d__law_ways, d__law_nth, d__law_right, d_law]
def fa : List Qn := [qBi, qGlo "law", qGlo "_law_well", qGlo "_law_dip", qGlo "_law_letters", qGlo "_law_rings", qGlo "_law_rooms", qGlo "_law_trim", qInt "MOST_NAMES" 3, qGlo "InvalidNames", qXc "InvalidNames", qTyS, qGlo "is_letter", qGlo "check_names", qGlo "is_room", qGlo "InvalidTable", qXc "InvalidTable", qGlo "live_rooms", qGlo "room_kinds", qGlo "least_table", qCls "Solutions", qNoat "Solutions" "kept_names", qNoat "Solutions" "rooms", qGlo "Solutions", qMkr "Solutions", qGlo "UnlikeNames", qXc "UnlikeNames", qGlo "check_alike", qGlo "pair_follow", qGlo "paired", qMe "Solutions" "__and__", qSf "Solutions", qMe "Solutions" "__or__", qGlo "UnknownName", qXc "UnknownName", qGlo "check_known", qProp "Solutions" "names", qGlo "kept_letter", qGlo "renamed", qGlo "lead_of", qCls "Word", qNoat "Word" "kept_top", qNoat "Word" "kept_bottom", qProp "Word" "lead", qGlo "span_of", qProp "Word" "span", qGlo "inverse_low", qGlo "low_of", qProp "Word" "top", qProp "Word" "bottom", qGlo "word_bits", qGlo "next_place", qGlo "part_with", qGlo "widened", qGlo "common_part", qGlo "InvalidWord", qXc "InvalidWord", qGlo "Word", qMkr "Word", qGlo "check_known_names", qGlo "next_state", qGlo "explored", qGlo "rooms_of", qGlo "solve", qGlo "_law_made", qProp "Solutions" "table", qMe "Solutions" "__bool__", qTy "Solutions", qMe "Solutions" "__eq__", qEqO "Solutions", qGlo "_law_stays", qGlo "_law_low", qGlo "_law_all", qGlo "InvalidWidth", qXc "InvalidWidth", qGlo "check_width", qGlo "ways_on", qGlo "count_low", qGlo "InvalidIndex", qXc "InvalidIndex", qGlo "low_row", qGlo "nth_low", qGlo "_law_ways", qGlo "_law_nth", qGlo "_law_right"]
abbrev Rw : PySem.W.OpenRow := PySem.W.OpenLaw.row PySem.Challenge.rw_bitsolve_k37_low_rows_by_index
abbrev hkM : PySem.W.Hook := hookM 6 fa fn
def ob (s : PySem.W.SharedT) : He.AlD := obsMG 6 fa fn (HandSHeadRun.getT s)
theorem ob_eq (s : PySem.W.SharedT) : ob s = hkM.obs s.abs := obsMG_eq (HandSHeadRun.getT_eq s)
theorem obsCat {α : Type} {x : Option α} {n i j : Nat} {fa : List Qn} {fn : List He5.DefA} {g : α → Addr → Option Obj} (h1 : x.map (fun s => obsMG n (fa.take i) (fn.take j) (g s)) = some (He5.valA (fn.take j))) (h2 : x.map (fun s => obsMG n (fa.drop i) (fn.drop j) (g s)) = some (He5.valA (fn.drop j))) :
    x.map (fun s => obsMG n fa fn (g s)) = some (He5.valA fn) := by
  cases x with
  | none => cases h1
  | some s =>
    have e1 : obsMG n (fa.take i) (fn.take j) (g s) = He5.valA (fn.take j) := Option.some.inj h1
    have e2 : obsMG n (fa.drop i) (fn.drop j) (g s) = He5.valA (fn.drop j) := Option.some.inj h2
    show some (obsMG n fa fn (g s)) = some (He5.valA fn)
    congr 1
    unfold obsMG at e1 e2 ⊢
    generalize He.frG (g s) _ = K at e1 e2 ⊢
    unfold obsM He5.valA at *
    obtain ⟨a1, b1⟩ := Prod.mk.inj e1
    obtain ⟨a2, b2⟩ := Prod.mk.inj e2
    obtain ⟨a3, a4⟩ := Bool.and_eq_true_iff.mp a1
    obtain ⟨a5, a6⟩ := Bool.and_eq_true_iff.mp a2
    refine Prod.ext ?_ ?_
    · show (fa.all _ && fn.all _) = true
      rw [← List.take_append_drop i fa, ← List.take_append_drop j fn, List.all_append, List.all_append, a3, a4, a5, a6]
      rfl
    · show fn.map _ = fn.map _
      rw [← List.take_append_drop j fn, List.map_append, List.map_append, b1, b2]
theorem tri3 {α β γ δ : Type} {x : Option α} {A : α → β} {B : α → γ} {C : α → δ} {a : β} {b : γ} {c : δ} (h1 : x.map A = some a) (h2 : x.map B = some b) (h3 : x.map C = some c) : x.map (fun s => (A s, B s, C s)) = some (a, b, c) := by
  cases x with
  | none => cases h1
  | some s =>
    cases h1
    cases h2
    cases h3
    rfl
abbrev loose : List Str := ("_wall" :: "BitError" :: "InvalidWord" :: "NotOdd" :: "InvalidPlace" :: "InvalidWidth" :: "InvalidIndex" :: "InvalidNames" :: "UnknownName" :: "UnlikeNames" :: "InvalidShift" :: "InvalidTable" :: "common_part" :: "inverse_low" :: "low_of" :: "lead_of" :: "span_of" :: "fraction_of" :: "repeated" :: "bits_mixed" :: "Word" :: "low_row" :: "ways_on" :: "word_bits" :: "mixed_bits" :: "next_state" :: "explored" :: "live_rooms" :: "room_kinds" :: "least_table" :: "pair_follow" :: "paired" :: "leads_on" :: "next_place" :: "kept_letter" :: "PAIR_SIGNS" :: "is_letter" :: "parts_of" :: "line_of" :: "MOST_NAMES" :: "check_names" :: "is_room" :: "check_known_names" :: "check_alike" :: "rooms_of" :: "Solutions" :: "solve" :: "check_width" :: "count_low" :: "nth_low" :: "check_known" :: "widened" :: "part_with" :: "renamed" :: "_law_well" :: "_law_dip" :: "_law_rings" :: "_law_rooms" :: "_law_letters" :: "_law_trim" :: "_law_ways" :: "_law_low" :: "_law_made" :: "_law_stays" :: "_law_nth" :: "_law_all" :: "_law_right" :: [])
open PySem.W HandSHeadRun in
theorem runA (w : World) (os : OsState) : (endF (stepQ (denQ tabQ) Rw.prog w) 6000 Rw.prog w os).map (fun s => looksF Rw.prog (boot_heap w.params) s.abs) = some true := by kernel_rfl
open PySem.W HandSHeadRun in
theorem runB (w : World) (os : OsState) : (endF (stepQ (denQ tabQ) Rw.prog w) 6000 Rw.prog w os).map (fun s => seenQ (PySem.W.view Rw.prog [76]) loose (importedModules Rw.prog.main.body) (fun s => xlAt (PySem.W.view Rw.prog [76]) [] s && recOk Rw.toRowW.records s) s.abs) = some (openGood (PySem.W.view Rw.prog [76]) loose) := by kernel_rfl
open PySem.W HandSHeadRun in
theorem runC1 (w : World) (os : OsState) : (endF (stepQ (denQ tabQ) Rw.prog w) 6000 Rw.prog w os).map (fun s => obsMG 6 (fa.take 42) (fn.take 29) (getT s)) = some (He5.valA (fn.take 29)) := by kernel_rfl
open PySem.W HandSHeadRun in
theorem runC2 (w : World) (os : OsState) : (endF (stepQ (denQ tabQ) Rw.prog w) 6000 Rw.prog w os).map (fun s => obsMG 6 (fa.drop 42) (fn.drop 29) (getT s)) = some (He5.valA (fn.drop 29)) := by kernel_rfl
open PySem.W HandSHeadRun in
theorem runC (w : World) (os : OsState) : (endF (stepQ (denQ tabQ) Rw.prog w) 6000 Rw.prog w os).map ob = some (He5.valA fn) := obsCat (runC1 w os) (runC2 w os)
theorem headRun (w : World) : HandSHeadRun.RunEq Rw (PySem.W.view Rw.prog [76]) hkM ob 6000 loose w := fun os => tri3 (runA w os) (runB w os) (runC w os)
end Bs

set_option hygiene false in
local macro_rules | `(tactic| walk_at "sd") => `(tactic| first
  | assumption
  | omega
  | (show _ ≠ _; omega)
  | (show _ < _; omega)
  | exact Bs.mok_l (by omega) (by omega)
  | exact Bs.mok_r (by omega) (by omega)
  | exact Bs.cpw 70 (by omega) (by omega) (by omega)
  | exact Bs.cdivw 110 (by omega) (by omega) (by decide) (by decide)
  | exact Bs.cfd 110 (by omega) (by omega) (by decide) (by decide)
  | exact Bs.cshl 70 (by omega) (by omega) (by omega)
  | decide
  | rfl)
set_option hygiene false in
local macro_rules | `(tactic| walk_at "oi") => `(tactic| first | exact Bs.g0 | exact Bs.g1 | exact Bs.g2 | exact Bs.g3 | exact Bs.g4 | exact Bs.g5 | exact Bs.g6 | exact Bs.g7 | exact Bs.g8 | exact Bs.g9 | exact Bs.g10 | exact Bs.g11 | exact Bs.g12 | exact Bs.g13 | exact Bs.g14 | exact Bs.g15 | exact Bs.g16 | exact Bs.g17)
set_option hygiene false in
local macro_rules | `(tactic| walk_at "hq") => `(tactic| first
  | assumption
  | exact L2.SqL.of (Bs.Own.get (by assumption) _ (by walk_at "oi"))
  | exact L2.SqT.of (Bs.Own.get (by assumption) _ (by walk_at "oi"))
  | exact L2.Same.seq (Bs.Own.toSame (by assumption)) (by assumption)
  | exact Bs.sqT_same (Bs.Own.toSame (by assumption)) (by assumption))
set_option hygiene false in
local macro_rules | `(tactic| walk_at "dp") => `(tactic| first
  | assumption
  | exact L2.Dp.int _
  | exact L2.Dp.bl _
  | exact L2.Dp.str _
  | exact L2.Dp.non
  | ((refine' Bs.dp_lst ?dq1 ?dq2); (case dq1 => first | assumption | exact Bs.Own.get (by assumption) _ (by walk_at "oi")); (case dq2 => walk_at "dps"))
  | ((refine' Bs.dp_tup ?dq1 ?dq2); (case dq1 => first | assumption | exact Bs.Own.get (by assumption) _ (by walk_at "oi")); (case dq2 => walk_at "dps")))
set_option hygiene false in
local macro_rules | `(tactic| walk_at "dps") => `(tactic| first
  | exact L2.DpAll.nil
  | ((apply L2.DpAll.cons); (walk_at "dp"); (walk_at "dps")))
set_option hygiene false in
local macro_rules | `(tactic| walk_at "rp") => `(tactic| first
  | assumption
  | exact Bs.rq_bl (by simp)
  | exact Bs.rq_non (by simp)
  | exact Bs.rq_int (by omega) (by simp)
  | ((apply Bs.rq_list (by simp) (by simp)); (walk_at "rps"))
  | ((apply Bs.rq_tup (by simp) (by simp)); (walk_at "rps")))
set_option hygiene false in
local macro_rules | `(tactic| walk_at "rps") => `(tactic| first
  | exact Bs.rpl_nil
  | ((apply Bs.rpl_cons); (walk_at "rp"); (walk_at "rps")))
set_option hygiene false in
local macro_rules | `(tactic| walk_at "ow") => `(tactic| (try dsimp only [Int.reduceToNat, List.set_cons_zero, List.set_cons_succ] at ow))
set_option hygiene false in
local macro_rules | `(tactic| walk_at "r1") => `(tactic| first
  | ((with_reducible show L2.Ends.nx _ _ _); (with_reducible refine Bs.r_nx ?_); (try dsimp only [List.set_cons_zero, List.set_cons_succ]))
  | ((with_reducible refine' Bs.r_var ?rv ?_); (case rv => exact rfl))
  | with_reducible refine Bs.r_c ?_
  | with_reducible refine Bs.r_op ?_
  | with_reducible refine Bs.r_I0 ?_
  | ((with_reducible refine Bs.r_I ?rc ?_); (case rc => walk_at "sd"))
  | with_reducible refine Bs.r_test ?_
  | with_reducible refine Bs.r_isbl ?_
  | ((with_reducible refine Bs.r_eq ?rs ?_); (case rs => rfl))
  | ((with_reducible refine Bs.r_ne ?rs ?_); (case rs => rfl))
  | with_reducible refine Bs.r_seq ?_
  | with_reducible refine Bs.r_asgN ?_
  | with_reducible refine Bs.r_par ?_
  | with_reducible refine Bs.r_pair ?_
  | with_reducible refine Bs.r_par3 ?_
  | with_reducible refine Bs.r_tri ?_
  | with_reducible refine Bs.r_ifS ?_
  | with_reducible refine Bs.r_ret ?_
  | with_reducible refine Bs.r_cons ?_
  | with_reducible refine Bs.r_nil ?_
  | with_reducible refine Bs.r_CB ?_
  | with_reducible refine Bs.r_call ?_
  | with_reducible refine Bs.r_un ?_
  | with_reducible refine Bs.r_U ?_
  | with_reducible refine Bs.r_if ?_
  | with_reducible refine Bs.r_and ?_
  | with_reducible refine Bs.r_or ?_
  | with_reducible refine Bs.r_not ?_
  | with_reducible refine Bs.r_next ?_
  | with_reducible refine Bs.r_drop ?_
  | with_reducible refine Bs.r_tup ?_
  | with_reducible refine Bs.r_lst ?_
  | with_reducible refine Bs.r_asgT ?_
  | with_reducible refine Bs.r_asgS ?_
  | with_reducible refine Bs.r_andV ?_
  | with_reducible refine Bs.r_orV ?_
  | with_reducible refine Bs.r_notV ?_
  | with_reducible refine Bs.r_tB ?_
  | with_reducible refine Bs.r_isN ?_
  | with_reducible refine Bs.r_notN ?_
  | with_reducible refine Bs.r_retN ?_
  | with_reducible refine Bs.i_tt ?_
  | with_reducible refine Bs.i_ff ?_
  | with_reducible refine Bs.r_turn ?_
  | ((with_reducible show L2.Ends.rt _ _ _); (with_reducible refine Bs.r_rt ?_))
  | ((with_reducible show L2.Ends.bk _ _ _); (with_reducible refine Bs.r_bk ?_))
  | ((with_reducible show L2.Ends.ct _ _ _); (with_reducible refine Bs.r_ct ?_))
  | with_reducible refine Bs.r_abs ?_
  | with_reducible refine Bs.r_int1 ?_
  | with_reducible refine Bs.r_int1b ?_
  | with_reducible refine Bs.r_max2 ?_
  | with_reducible refine Bs.r_min2 ?_
  | ((with_reducible refine' Bs.r_lenL ?p1 ?_); (case p1 => walk_at "hq"))
  | ((with_reducible refine' Bs.r_lenT ?p1 ?_); (case p1 => walk_at "hq"))
  | ((with_reducible refine' Bs.r_ixL ?p1 ?p2 ?_); (case p1 => walk_at "hq"); (case p2 => first | exact rfl | assumption))
  | ((with_reducible refine' Bs.r_ixT ?p1 ?p2 ?_); (case p1 => walk_at "hq"); (case p2 => first | exact rfl | assumption))
  | with_reducible refine Bs.r_gname ?_
  | with_reducible refine Bs.r_gcons ?_
  | with_reducible refine Bs.r_gnil ?_
  | ((with_reducible refine' Bs.o_ixL ?p1 ?p2 ?p3 ?_); (case p1 => assumption); (case p2 => walk_at "oi"); (case p3 => exact rfl))
  | ((with_reducible refine' Bs.o_ixT ?p1 ?p2 ?p3 ?_); (case p1 => assumption); (case p2 => walk_at "oi"); (case p3 => exact rfl))
  | ((with_reducible refine' Bs.o_unp ?p1 ?p2 ?p3 ?_); (case p1 => assumption); (case p2 => walk_at "oi"); (case p3 => exact rfl))
  | ((with_reducible refine' Bs.o_setL ?p1 ?p2 ?p3 ?_); (case p1 => assumption); (case p2 => walk_at "oi"); (case p3 => exact rfl); intro H' ow; walk_at "ow")
  | ((with_reducible refine' Bs.o_tup ?p1 ?p2 ?_); (case p1 => assumption); (case p2 => exact rfl); intro pT H' np ow)
  | ((with_reducible refine' Bs.o_lst ?p1 ?p2 ?_); (case p1 => assumption); (case p2 => exact rfl); intro pL H' np ow)
  | with_reducible refine Bs.r_mkX ?_
  | with_reducible refine Bs.r_sfld ?_
  | with_reducible refine Bs.r_fld ?_
  | ((with_reducible refine' Bs.o_xd ?p1 ?_); (case p1 => assumption); intro dX H' nx ow)
  | ((with_reducible refine' Bs.o_sfld ?p1 ?p2 ?p3 ?p4 ?p5 ?_); (case p1 => assumption); (case p2 => walk_at "oi"); (case p3 => assumption); (case p4 => assumption); (case p5 => exact rfl); intro H' ow; walk_at "ow")
  | ((with_reducible refine' Bs.o_gfld ?p1 ?p2 ?p3 ?p4 ?p5 ?_); (case p1 => assumption); (case p2 => walk_at "oi"); (case p3 => assumption); (case p4 => assumption); (case p5 => walk_at "lk"))
  | ((with_reducible refine' Bs.o_gfldF ?p1 ?p3 ?p4 ?p5 ?_); (case p1 => assumption); (case p3 => assumption); (case p4 => assumption); (case p5 => walk_at "lk"))
  | with_reducible refine Bs.r_W2 ?_
  | with_reducible refine Bs.r_nn ?_
  | ((with_reducible refine' Bs.r_repr ?p1 ?p2 ?_); (case p1 => walk_at "dp"); (case p2 => walk_at "rp"))
  | with_reducible refine Bs.i_refN ?_
  | with_reducible refine Bs.i_nt ?_
  | with_reducible refine Bs.i_nf ?_
  | with_reducible refine Bs.i_nonN ?_
  | with_reducible refine Bs.i_ref ?_
  | with_reducible refine Bs.i_nonT ?_
  | with_reducible refine Bs.r_W1 ?_
  | with_reducible refine Bs.r_Wk ?_
  | with_reducible refine Bs.r_Wt ?_
  | with_reducible refine Bs.r_prop2 ?_
  | with_reducible refine Bs.r_xv2 ?_
  | with_reducible refine Bs.r_for ?_
  | with_reducible refine Bs.r_rng1 ?_
  | ((with_reducible refine' Bs.r_j ?p1 ?p2 ?_); (case p1 => omega); (case p2 => omega))
  | ((with_reducible refine' Bs.o_prop ?p1 ?p2 ?_); (case p1 => assumption); (case p2 => walk_at "oi"))
  | ((with_reducible refine' Bs.o_propF ?p1 ?_); (case p1 => assumption))
  | ((with_reducible refine' Bs.c_get ?p1 ?p2 ?_); (case p1 => first | assumption | exact Bs.Own.get (by assumption) _ (by walk_at "oi")); (case p2 => walk_at "lk"))
  | ((with_reducible refine' Bs.r_wAs ?p1 ?_); (case p1 => assumption); intro eX nE)
  | ((with_reducible refine' Bs.r_isX ?p1 ?p2 ?p3 ?_); (case p1 => first | assumption | exact Bs.Own.get (by assumption) _ (by walk_at "oi")); (case p2 => assumption); (case p3 => assumption))
  | ((with_reducible refine' Bs.o_xv ?p1 ?p2 ?p3 ?_); (case p1 => first | assumption | exact Bs.Own.get (by assumption) _ (by walk_at "oi")); (case p2 => assumption); (case p3 => assumption))
  | (with_reducible show ∃ _, _ ∧ _; refine ⟨_, rfl, ?_⟩)
  | (with_reducible show ∃ _, ∃ _, _ ∧ _; refine ⟨_, _, rfl, ?_⟩))
set_option hygiene false in
local macro_rules | `(tactic| walk_at "rd") => `(tactic| repeat (walk_at "r1"))
set_option hygiene false in
local macro_rules | `(tactic| walk_at "br") => `(tactic| with_reducible first
  | refine Bs.i_int (fun hc => ?_) (fun hc => ?_) | refine Bs.i_intN (fun hc => ?_) (fun hc => ?_)
  | refine Bs.i_dec (fun hc => ?_) (fun hc => ?_) | refine Bs.i_decN (fun hc => ?_) (fun hc => ?_))
set_option hygiene false in
local macro_rules | `(tactic| walk_at "go") => `(tactic| repeat' (first | walk_at "r1" | (walk_at "br" <;> first | (exfalso; omega) | exact absurd rfl hc | skip)))
set_option hygiene false in
local macro_rules | `(tactic| walk_at "s0") => `(tactic| (try dsimp only [L2.cxOf, L2.Cx.nox, L2.Cx.wish, L2.start, List.map, List.map_cons, List.map_nil, List.length_cons, List.length_nil, Nat.reduceAdd, Nat.reduceSub, List.replicate_succ, List.replicate_zero, List.replicate, List.cons_append, List.nil_append, List.append_nil]))
set_option hygiene false in
local macro_rules | `(tactic| walk_at "len") => `(tactic| first | (obtain ⟨hle, _⟩ := h; rw [hle]; rfl) | (obtain ⟨_, h⟩ := h; walk_at "len"))

namespace Bs
open PySem PySem.Spec PyProof.Rows L2
/-! lists and dicts: readings -/
set_option hygiene false in
local macro_rules | `(tactic| walk_at "r1") => `(tactic| first
  | with_reducible refine Bs.r_bm ?_
  | with_reducible refine Bs.r_il ?_
  | ((with_reducible refine' Bs.o_il ?p1 ?p2 ?_); (case p1 => assumption); (case p2 => walk_at "oi"))
  | ((with_reducible refine' Bs.o_lofT ?p1 ?p2 ?_); (case p1 => assumption); (case p2 => walk_at "hq"); intro pL H' np ow)
  | ((with_reducible refine' Bs.o_lofL ?p1 ?p2 ?_); (case p1 => assumption); (case p2 => walk_at "hq"); intro pL H' np ow)
  | with_reducible refine Bs.r_dnotin ?_
  | with_reducible refine Bs.r_dget ?_
  | ((with_reducible refine' Bs.o_unpF ?p1 ?p2 ?_); (case p1 => walk_at "hq"); (case p2 => exact rfl))
  | ((with_reducible refine' Bs.o_bmL ?p1 ?p2 ?_); (case p1 => assumption); (case p2 => walk_at "oi"))
  | ((with_reducible refine' Bs.o_dnew ?p1 ?_); (case p1 => assumption); intro pD H' np ow)
  | ((with_reducible refine' Bs.o_dn ?p1 ?p2 ?_); (case p1 => assumption); (case p2 => walk_at "oi"))
  | ((with_reducible refine' Bs.o_dg ?p1 ?p2 ?p3 ?_); (case p1 => assumption); (case p2 => walk_at "oi"); (case p3 => assumption))
  | ((with_reducible refine' Bs.o_lenD ?p1 ?p2 ?_); (case p1 => assumption); (case p2 => walk_at "oi")))
theorem two_at {x y v : Int} {m : Int} (h0 : 0 ≤ v) (h1 : v < 2) (x0 : 0 ≤ x ∧ x ≤ m) (y0 : 0 ≤ y ∧ y ≤ m) : ∃ N : Int, atI [V.int x, V.int y] v = some (.int N) ∧ 0 ≤ N ∧ N ≤ m := by
  have : v = 0 ∨ v = 1 := by omega
  rcases this with rfl | rfl
  · exact ⟨x, rfl, x0⟩
  · exact ⟨y, rfl, y0⟩
theorem o_ix2 {K : PySem.W.Frag} {F H : Hp} {L : List (Addr × HO)} {a : Addr} {i : Nat} {x y v m : Int} {Q : VK} (h : Own F H L) (e : L[i]? = some (a, .lst [.int x, .int y])) (h0 : 0 ≤ v) (h1 : v < 2) (x0 : 0 ≤ x ∧ x ≤ m) (y0 : 0 ≤ y ∧ y ≤ m) (k : ∀ N : Int, 0 ≤ N → N ≤ m → Q (.int N) H) : rIxL K (.ref a) (.int v) H Q := by
  obtain ⟨N, hN, N0, N1⟩ := two_at h0 h1 x0 y0
  exact o_ixL h e hN (k N N0 N1)

/-! readings of calls by the slots, of x[::-1], of isinstance against bool -/
structure TyB (K : PySem.W.Frag) : Prop where
  k : PySem.W.kitOne K (.type "int") (.type "bool") = some false
  k3 : PySem.W.kitOne K (.type "int") (.type "int") = some true
theorem r_isiB {K : PySem.W.Frag} {H : Hp} {Q : VK} {i : Int} (ty : TyB K) (k : Q (.bl false) H) : rIsi K [.int i, .ty "bool"] H Q := ⟨_, _, _, _, false, rfl, .ty _, .base (.int i), ty.k, k⟩
theorem r_isiN2 {K : PySem.W.Frag} {H : Hp} {Q : VK} {i : Int} (ty : TyB K) (k : Q (.bl true) H) : rIsi K [.int i, .ty "int"] H Q := ⟨_, _, _, _, true, rfl, .ty _, .base (.int i), ty.k3, k⟩
set_option hygiene false in
local macro_rules | `(tactic| walk_at "oi") => `(tactic| first | exact Bs.g0 | exact Bs.g1 | exact Bs.g2 | exact Bs.g3 | exact Bs.g4 | exact Bs.g5 | exact Bs.g6 | exact Bs.g7 | exact Bs.g8 | exact Bs.g9 | exact Bs.g10 | exact Bs.g11 | exact Bs.g12 | exact Bs.g13 | exact Bs.g14 | exact Bs.g15 | exact Bs.g16 | exact Bs.g17 | exact Bs.g18 | exact Bs.g19 | exact Bs.g20 | exact Bs.g21 | exact Bs.g22 | exact Bs.g23 | exact Bs.g24 | exact Bs.g25 | exact Bs.g26 | exact Bs.g27 | exact Bs.g28 | exact Bs.g29 | exact Bs.g30 | exact Bs.g31 | exact Bs.g32 | exact Bs.g33 | exact Bs.g34 | exact Bs.g35 | exact Bs.g36 | exact Bs.g37 | exact Bs.g38 | exact Bs.g39 | exact Bs.g40)
set_option hygiene false in
local macro_rules | `(tactic| walk_at "r1") => `(tactic| first
  | with_reducible refine Bs.r_fx ?_
  | ((with_reducible refine' Bs.fx_pos ?p1 ?_); (case p1 => exact rfl))
  | with_reducible refine Bs.fx_kb2 ?_
  | with_reducible refine Bs.r_rv ?_
  | with_reducible refine Bs.r_part ?_
  | ((with_reducible refine' Bs.o_rv ?p1 ?p2 ?_); (case p1 => assumption); (case p2 => walk_at "hq"); intro pL H' np ow)
  | ((with_reducible refine' Bs.r_isiB ?p1 ?_); (case p1 => assumption))
  | ((with_reducible refine' Bs.r_isiN2 ?p1 ?_); (case p1 => assumption)))

/-! lists put together -/
theorem o_cat {F H : Hp} {L : List (Addr × HO)} {a b : Addr} {xs ys : List V} {i j : Nat} {Q : VK} (h : Own F H L) (e1 : L[i]? = some (a, .lst xs)) (e2 : L[j]? = some (b, .lst ys)) (z : (xs.length + ys.length).ble 1000 = true) (k : ∀ p H', H p = none → Own F H' ((p, .lst (xs ++ ys)) :: L) → Q (.ref p) H') : rCat (.ref a) (.ref b) H Q :=
  ⟨a, b, xs, ys, rfl, rfl, h.get i e1, h.get j e2, Nat.le_trans (Nat.le_of_ble_eq_true z) (by decide), fun p n => k p _ n (h.new n)⟩
set_option hygiene false in
local macro_rules | `(tactic| walk_at "r1") => `(tactic| ((with_reducible refine' Bs.o_cat ?p1 ?p2 ?p3 ?p4 ?_); (case p1 => assumption); (case p2 => walk_at "oi"); (case p3 => walk_at "oi"); (case p4 => exact rfl); intro pL H' np ow; (try dsimp only [List.cons_append, List.nil_append] at ow)))

/-! readings within a block or a suite -/
theorem ixL_K {X : Cx} {K : PySem.W.Frag} (h : X.K = K) : IxR X (rIxL K) := h ▸ ix_list
theorem isi_K {X : Cx} {K : PySem.W.Frag} (h : X.K = K) : CallR X (.builtin "isinstance") (rIsi K) := h ▸ call_isi

/-! tables of rooms: lists of lists of follows; the rooms that go on -/
/-- a follow -/
def vO : Option Nat → V
  | none => .non
  | some n => .int n
abbrev Tab := List (List (Option Nat))
def RoomAt (K : PySem.W.Frag) (H : Hp) (v : V) (r : List (Option Nat)) : Prop := ∃ a, v = .ref a ∧ SqL K H a (r.map vO)
inductive RoomsAt (K : PySem.W.Frag) (H : Hp) : List V → Tab → Prop
  | nil : RoomsAt K H [] []
  | cons {v : V} {r : List (Option Nat)} {vs : List V} {T : Tab} : RoomAt K H v r → RoomsAt K H vs T → RoomsAt K H (v :: vs) (r :: T)
def TabAt (K : PySem.W.Frag) (H : Hp) (a : Addr) (T : Tab) : Prop := ∃ vs, SqL K H a vs ∧ RoomsAt K H vs T
section
variable {K : PySem.W.Frag} {H H' : Hp} {v : V} {r : List (Option Nat)} {vs : List V} {T : Tab} {a : Addr}
theorem RoomAt.same (h : RoomAt K H v r) (s : Same H H') : RoomAt K H' v r := by
  obtain ⟨b, e, q⟩ := h
  exact ⟨b, e, s.seq q⟩
theorem RoomsAt.same (s : Same H H') : ∀ {vs : List V} {T : Tab}, RoomsAt K H vs T → RoomsAt K H' vs T
  | _, _, .nil => .nil
  | _, _, .cons a b => .cons (a.same s) (b.same s)
theorem TabAt.same (h : TabAt K H a T) (s : Same H H') : TabAt K H' a T := by
  obtain ⟨vs, q, r⟩ := h
  exact ⟨vs, s.seq q, r.same s⟩
theorem RoomsAt.length : ∀ {vs : List V} {T : Tab}, RoomsAt K H vs T → vs.length = T.length
  | _, _, .nil => rfl
  | _, _, .cons _ b => by rw [List.length_cons, List.length_cons, b.length]
theorem RoomsAt.at : ∀ {vs : List V} {T : Tab} {i : Nat} {r : List (Option Nat)}, RoomsAt K H vs T → T[i]? = some r → ∃ v, vs[i]? = some v ∧ RoomAt K H v r
  | _, _, 0, _, .cons a _, e => by cases e; exact ⟨_, rfl, a⟩
  | _, _, i + 1, _, .cons _ b, e => RoomsAt.at (i := i) b e
/-- every follow is a room's number -/
structure TIn (T : Tab) : Prop where
  lt : ∀ r ∈ T, ∀ e ∈ r, ∀ n, e = some n → n < T.length
end
theorem same_none {H H' : Hp} {r : Addr} (s : Same H H') (n : H' r = none) : H r = none := by
  cases e : H r with
  | none => rfl
  | some o => rw [s _ _ e] at n; cases n
/-- what is new in a base -/
def newF (H F : Hp) : Hp := fun c => if (H c).isSome then none else F c
theorem newF_mono {H F F' : Hp} (s : Same F F') : Same (newF H F) (newF H F') := fun c o e => by
  unfold newF at e ⊢
  split at e
  · cases e
  · rename_i n; rw [if_neg n]; exact s c o e
theorem newF_sub {H F : Hp} : Same (newF H F) F := fun c o e => by
  unfold newF at e
  split at e
  · cases e
  · exact e
theorem newF_at {H F : Hp} {r : Addr} {o : HO} (n : H r = none) (e : F r = some o) : newF H F r = some o := by
  unfold newF
  rw [n]
  exact e
theorem newF_pre {H H1 F : Hp} (s : Same H H1) : Same (newF H1 F) (newF H F) := fun c o e => by
  unfold newF at e ⊢
  split at e
  · cases e
  · rename_i n
    have : H c = none := same_none s (by cases z : H1 c with
      | none => rfl
      | some u => rw [z] at n; exact absurd rfl n)
    rw [this]
    exact e
theorem at_nat {α : Type} {l : List α} {i : Int} {k : Nat} {v : α} (e : i = (k : Int)) (h : l[k]? = some v) : atI l i = some v := by
  subst e
  exact atI_nat h
theorem ixN_nat {n k : Nat} {i : Int} (e : i = (k : Int)) (h : k < n) : ixN n i = some k := by
  subst e
  unfold ixN
  rw [if_pos (by omega), if_pos (by omega)]
  simp
theorem i_intNN {i : Int} {A B : Prop} (k : A) : if (!decide (V.int i = V.non)) = true then A else B := by rw [if_pos (by simp)]; exact k
theorem count_set : ∀ {l : List Bool} {i : Nat}, l[i]? = some true → (l.set i false).count true + 1 = l.count true
  | b :: l, 0, h => by
    simp at h
    subst h
    simp
  | b :: l, i + 1, h => by
    have := count_set (l := l) (i := i) (by simpa using h)
    rw [List.set_cons_succ, List.count_cons, List.count_cons]
    omega
/-- a loop over enumerate -/
theorem for_enum {K : PySem.W.Frag} {a : Addr} {xs : List V} {g : TG} {tb : TS} {D : Ends} {σ : L2.St} {H : Hp} (Pv : Nat → L2.St → Hp → Prop) (h0 : Pv 0 σ H) (hl : ∀ i σ H, i ≤ xs.length → Pv i σ H → SqL K H a xs)
    (hs : ∀ i x σ H p, xs[i]? = some x → Pv i σ H → H p = none → g (.ref p) σ (upd H p (.tup [.int (i : Nat), x])) fun σ2 H2 => tb { D with nx := Pv (i + 1), ct := Pv (i + 1), bk := D.nx } σ2 H2) (hd : ∀ σ H, Pv xs.length σ H → D.nx σ H) :
    ∃ W : Nat → Nat → L2.St → Hp → Prop, (∃ m, W 0 m σ H) ∧ ∀ i m σ H, W i m σ H →
      ((Ite K a).stop i H ∧ D.nx σ H) ∨ ((Ite K a).go i H ∧ ∃ N : L2.St → Hp → Prop, (∀ σ' H', N σ' H' → ∃ m', m' < m ∧ W (i + 1) m' σ' H') ∧ ∀ y H', (Ite K a).yld i H y H' → g y σ H' fun σ2 H2 => tb { D with nx := N, ct := N, bk := D.nx } σ2 H2) := by
  refine ⟨fun i m σ H => m = xs.length - i ∧ i ≤ xs.length ∧ Pv i σ H, ⟨xs.length, by simp, Nat.zero_le _, h0⟩, ?_⟩
  rintro i m σ H ⟨rfl, hi, p⟩
  have sq := hl i σ H hi p
  by_cases hlt : i < xs.length
  · refine .inr ⟨⟨xs, xs[i], sq, List.getElem?_eq_getElem hlt⟩, Pv (i + 1), fun σ' H' p' => ⟨xs.length - (i + 1), by omega, rfl, hlt, p'⟩, fun y H' z => ?_⟩
    obtain ⟨T, x, rfl, nT, rfl, hx⟩ := z
    exact hs i x σ H T (hx xs sq) p nT
  · have e : i = xs.length := by omega
    subst e
    exact .inl ⟨⟨xs, sq, Nat.le_refl _⟩, hd σ H p⟩
set_option hygiene false in
local macro_rules | `(tactic| walk_at "hx") => `(tactic| first | assumption | exact Bs.Own.get (by assumption) _ (by walk_at "oi") | exact Bs.Own.gets (by assumption) (by assumption))
section
variable {K : PySem.W.Frag} {F H : Hp} {L : List (Addr × HO)} {a p : Addr} {Q : VK} {E : XK} {σ : L2.St} {te : TE} {xs : List V} {bs : List Bool}
theorem c_ilS {R : It → Hp → Prop} (s : SqL K H p xs) (k : R (Itl K p) H) : cIl K R (.ref p) H := ⟨p, rfl, ⟨xs, s⟩, k⟩
theorem r_any (s : SqL K H a (bs.map V.bl)) (k : Q (.bl (bs.any id)) H) : rAny K [.ref a] H Q := ⟨a, bs, rfl, s, k⟩
theorem r_enum {ta : TA} {R : It → Hp → Prop} (k : ta σ H fun vs H1 => ∃ a xs, vs = [.ref a] ∧ SqL K H1 a xs ∧ R (Ite K a) H1) : iEnum K ta σ H R := k
theorem c_enum {R : It → Prop} {S : List V → Prop} (s : S xs) (k : R (Ite K a)) : ∃ b ys, [V.ref a] = [.ref b] ∧ S ys ∧ R (Ite K b) := ⟨a, xs, rfl, s, k⟩
end
set_option hygiene false in
local macro_rules | `(tactic| walk_at "r1") => `(tactic| first
  | with_reducible refine Bs.i_intNN ?_
  | with_reducible refine Bs.r_enum ?_)

/-! plain: tables as machines: endless rows of letters; least tables, and that they are the only ones -/
/-- the follow of a room by a letter -/
def fol (T : Tab) (i c : Nat) : Option Nat := ((T[i]?.getD [])[c]?).getD none
/-- letters lead on for ever -/
def Acc (T : Tab) (i : Nat) (α : Nat → Nat) : Prop := ∃ s : Nat → Nat, s 0 = i ∧ ∀ k, fol T (s k) (α k) = some (s (k + 1))
def Live (T : Tab) (i : Nat) : Prop := ∃ α, Acc T i α
def Eqv (T : Tab) (i : Nat) (T' : Tab) (j : Nat) : Prop := ∀ α, Acc T i α ↔ Acc T' j α
def cns (c : Nat) (α : Nat → Nat) : Nat → Nat
  | 0 => c
  | k + 1 => α k
section
variable {T A B : Tab} {i j c a b m : Nat} {α : Nat → Nat}
theorem Eqv.symm (h : Eqv A i B j) : Eqv B j A i := fun α => (h α).symm
theorem Eqv.trans {C : Tab} {k : Nat} (h : Eqv A i B j) (g : Eqv B j C k) : Eqv A i C k := fun α => (h α).trans (g α)
theorem Eqv.rfl' : Eqv A i A i := fun α => Iff.rfl
theorem acc_cns : Acc T i (cns c α) ↔ ∃ j, fol T i c = some j ∧ Acc T j α := by
  constructor
  · rintro ⟨s, s0, h⟩
    refine ⟨s 1, ?_, fun k => s (k + 1), rfl, fun k => h (k + 1)⟩
    have := h 0
    rw [s0] at this
    exact this
  · rintro ⟨j, e, s, s0, h⟩
    refine ⟨cns i s, rfl, fun k => ?_⟩
    cases k with
    | zero => show fol T i c = some (s 0); rw [s0]; exact e
    | succ k => exact h k
theorem cns_eta (α : Nat → Nat) : cns (α 0) (fun k => α (k + 1)) = α := by
  funext k
  cases k <;> rfl
theorem acc_step : Acc T i α ↔ ∃ j, fol T i (α 0) = some j ∧ Acc T j fun k => α (k + 1) := by
  conv => lhs; rw [← cns_eta α]
  exact acc_cns
theorem Live.next (h : Live T i) : ∃ c j, fol T i c = some j ∧ Live T j := by
  obtain ⟨α, h⟩ := h
  obtain ⟨j, e, g⟩ := acc_step.mp h
  exact ⟨_, j, e, _, g⟩
theorem live_of (e : fol T i c = some j) (h : Live T j) : Live T i := by
  obtain ⟨α, h⟩ := h
  exact ⟨_, acc_cns.mpr ⟨j, e, h⟩⟩
theorem Acc.state {s : Nat → Nat} (h : ∀ k, fol T (s k) (α k) = some (s (k + 1))) (k : Nat) : Live T (s k) := ⟨fun n => α (k + n), fun n => s (k + n), rfl, fun n => h (k + n)⟩
/-- a set of rooms that goes on -/
theorem live_set {S : Nat → Prop} (h : S i) (g : ∀ x, S x → ∃ c j, fol T x c = some j ∧ S j) : Live T i := by
  have g' : ∀ x : {x // S x}, ∃ p : Nat × {x // S x}, fol T x.1 p.1 = some p.2.1 := fun ⟨x, hx⟩ => by
    obtain ⟨c, j, e, hj⟩ := g x hx
    exact ⟨(c, ⟨j, hj⟩), e⟩
  let f : {x // S x} → Nat × {x // S x} := fun x => Classical.choose (g' x)
  have hf : ∀ x : {x // S x}, fol T x.1 (f x).1 = some (f x).2.1 := fun x => Classical.choose_spec (g' x)
  let s : Nat → {x // S x} := fun k => Nat.rec ⟨i, h⟩ (fun _ x => (f x).2) k
  exact ⟨fun k => (f (s k)).1, fun k => (s k).1, rfl, fun k => hf (s k)⟩
/-- what goes on here goes on there -/
theorem acc_sim {R : Nat → Nat → Prop} (h : R i j) (g : ∀ x y c x', R x y → fol A x c = some x' → Live A x' → ∃ y', fol B y c = some y' ∧ R x' y') (a : Acc A i α) : Acc B j α := by
  obtain ⟨s, s0, hs⟩ := a
  let t : Nat → Nat := fun k => Nat.rec j (fun k y => (fol B y (α k)).getD 0) k
  have ht : ∀ k, R (s k) (t k) ∧ fol B (t k) (α k) = some (t (k + 1)) := by
    intro k
    have st : ∀ k, R (s k) (t k) → fol B (t k) (α k) = some (t (k + 1)) ∧ R (s (k + 1)) (t (k + 1)) := fun k r => by
      obtain ⟨y, e, r'⟩ := g _ _ _ _ r (hs k) (Acc.state hs (k + 1))
      have : t (k + 1) = y := by
        show (fol B (t k) (α k)).getD 0 = y
        rw [e]; rfl
      rw [this]
      exact ⟨e, r'⟩
    have all : ∀ k, R (s k) (t k) := fun k => by
      induction k with
      | zero => rw [s0]; exact h
      | succ k ih => exact (st k ih).2
    exact ⟨all k, (st k (all k)).1⟩
  exact ⟨t, rfl, fun k => (ht k).2⟩
theorem eqv_live (h : Eqv A i B j) : Live A i ↔ Live B j := ⟨fun ⟨α, x⟩ => ⟨α, (h α).mp x⟩, fun ⟨α, x⟩ => ⟨α, (h α).mpr x⟩⟩
theorem eqv_fol (h : Eqv A i B j) (e : fol A i c = some a) (l : Live A a) : ∃ b, fol B j c = some b ∧ Eqv A a B b := by
  obtain ⟨α, hα⟩ := l
  obtain ⟨b, eb, _⟩ := acc_cns.mp ((h (cns c α)).mp (acc_cns.mpr ⟨a, e, hα⟩))
  refine ⟨b, eb, fun β => ⟨fun x => ?_, fun x => ?_⟩⟩
  · obtain ⟨b', e', y⟩ := acc_cns.mp ((h (cns c β)).mp (acc_cns.mpr ⟨a, e, x⟩))
    rw [eb] at e'
    cases e'
    exact y
  · obtain ⟨a', e', y⟩ := acc_cns.mp ((h (cns c β)).mpr (acc_cns.mpr ⟨b, eb, x⟩))
    rw [e] at e'
    cases e'
    exact y
theorem fol_lt (h : fol T i c = some j) : i < T.length := by
  unfold fol at h
  by_cases z : i < T.length
  · exact z
  · rw [List.getElem?_eq_none (l := T) (by omega)] at h
    cases h
theorem live_lt (h : Live T i) : i < T.length := by
  obtain ⟨c, j, e, _⟩ := h.next
  exact fol_lt e
theorem fol_row {r : List (Option Nat)} (h : T[i]? = some r) (c : Nat) : fol T i c = r[c]?.getD none := by
  unfold fol
  rw [h]
  rfl
theorem fol_mem (h : fol T i c = some j) : ∃ r, T[i]? = some r ∧ r[c]? = some (some j) := by
  obtain ⟨r, hr⟩ : ∃ r, T[i]? = some r := ⟨_, List.getElem?_eq_getElem (fol_lt h)⟩
  refine ⟨r, hr, ?_⟩
  rw [fol_row hr] at h
  cases e : r[c]? with
  | none => rw [e] at h; cases h
  | some x => rw [e] at h; rw [show x = some j from h]
theorem fol_in (tin : TIn T) (h : fol T i c = some j) : j < T.length := by
  obtain ⟨r, hr, hc⟩ := fol_mem h
  exact tin.lt r (List.mem_of_getElem? hr) _ (List.mem_of_getElem? hc) j rfl
theorem fol_of {r : List (Option Nat)} (h : T[i]? = some r) (e : r[c]? = some (some j)) : fol T i c = some j := by
  rw [fol_row h, e]
  rfl
theorem fol_c {m : Nat} (hm : ∀ r ∈ T, r.length = m) (h : fol T i c = some j) : c < m := by
  obtain ⟨r, hr, hc⟩ := fol_mem h
  rw [← hm r (List.mem_of_getElem? hr)]
  exact (List.getElem?_eq_some_iff.mp hc).1
end
/-- numbers as they are reached first -/
def ordR : List (Option Nat) → Nat → Option Nat
  | [], s => some s
  | none :: r, s => ordR r s
  | some v :: r, s => if v < s then ordR r s else if v = s then ordR r (s + 1) else none
def ordT : Tab → Nat → Nat → Option Nat
  | [], _, s => some s
  | r :: T, i, s => if i < s then (ordR r s).bind (ordT T (i + 1)) else none
/-- a least table -/
structure Canon (m : Nat) (T : Tab) : Prop where
  rows : ∀ r ∈ T, r.length = m
  tin : TIn T
  live : ∀ i, i < T.length → Live T i
  dist : ∀ i j, i < T.length → j < T.length → Eqv T i T j → i = j
  ord : T = [] ∨ ordT T 0 1 = some T.length
section
variable {A B : Tab}
theorem ordR_eq (dA : ∀ i j, i < A.length → j < A.length → Eqv A i A j → i = j) (dB : ∀ i j, i < B.length → j < B.length → Eqv B i B j → i = j) :
    ∀ {r r' : List (Option Nat)} {s t t' : Nat}, r.length = r'.length → (∀ (c : Nat) (e e' : Option Nat), r[c]? = some e → r'[c]? = some e' → (e = none ↔ e' = none) ∧ ∀ a b, e = some a → e' = some b → Eqv A a B b ∧ a < A.length ∧ b < B.length) →
      ordR r s = some t → ordR r' s = some t' → (∀ v, v < s → Eqv A v B v) → r = r' ∧ t = t' ∧ ∀ v, v < t → Eqv A v B v
  | [], [], s, t, t', _, _, h, h', i => by
    cases h
    cases h'
    exact ⟨rfl, rfl, i⟩
  | [], _ :: _, _, _, _, l, _, _, _, _ => by cases l
  | _ :: _, [], _, _, _, l, _, _, _, _ => by cases l
  | e :: r, e' :: r', s, t, t', l, p, h, h', i => by
    obtain ⟨p1, p2⟩ := p 0 e e' rfl rfl
    have pr : ∀ (c : Nat) (e e' : Option Nat), r[c]? = some e → r'[c]? = some e' → (e = none ↔ e' = none) ∧ ∀ a b, e = some a → e' = some b → Eqv A a B b ∧ a < A.length ∧ b < B.length := fun c e e' h1 h2 => p (c + 1) e e' h1 h2
    have lr : r.length = r'.length := Nat.succ.inj l
    cases e with
    | none =>
      cases p1.mp rfl
      obtain ⟨x, y, z⟩ := ordR_eq dA dB lr pr h h' i
      exact ⟨by rw [x], y, z⟩
    | some a =>
      cases e' with
      | none => cases p1.mpr rfl
      | some b =>
        obtain ⟨q, la, lb⟩ := p2 a b rfl rfl
        unfold ordR at h h'
        by_cases a1 : a < s
        · rw [if_pos a1] at h
          have eab : a = b := by
            by_cases b1 : b < s
            · have lbA : b < A.length ∨ b ≥ A.length := Nat.lt_or_ge _ _
              rcases lbA with lbA | lbA
              · exact dA a b la lbA (q.trans (i b b1).symm)
              · exact dB a b (by omega) lb ((i a a1).symm.trans q)
            · rw [if_neg b1] at h'
              split at h'
              · rename_i b2
                exact dB a b (by omega) lb ((i a a1).symm.trans q)
              · cases h'
          subst eab
          rw [if_pos a1] at h'
          obtain ⟨x, y, z⟩ := ordR_eq dA dB lr pr h h' i
          exact ⟨by rw [x], y, z⟩
        · rw [if_neg a1] at h
          split at h
          · rename_i a2
            have b1 : ¬ b < s := fun b1 => by
              have := dA a b la (by omega) (q.trans (i b b1).symm)
              omega
            rw [if_neg b1] at h'
            split at h'
            · rename_i b2
              subst a2
              subst b2
              obtain ⟨x, y, z⟩ := ordR_eq dA dB lr pr h h' fun v hv => by
                by_cases e : v = b
                · subst e; exact q
                · exact i v (by omega)
              exact ⟨by rw [x], y, z⟩
            · cases h'
          · cases h
theorem ordT_eq {m : Nat} (cA : Canon m A) (cB : Canon m B) : ∀ (n : Nat) {rs rs' : Tab} {i s : Nat}, rs.length = n → rs = A.drop i → rs' = B.drop i → ordT rs i s = some A.length → ordT rs' i s = some B.length → (∀ v, v < s → Eqv A v B v) → rs = rs'
  | 0, rs, rs', i, s, l, e, e', h, h', iv => by
    obtain rfl := List.length_eq_zero_iff.mp l
    have hs : s = A.length := Option.some.inj h
    have hi : A.length ≤ i := List.drop_eq_nil_iff.mp e.symm
    cases rs' with
    | nil => rfl
    | cons r rs' =>
      unfold ordT at h'
      rw [if_neg (by omega)] at h'
      cases h'
  | n + 1, [], rs', i, s, l, e, e', h, h', iv => by cases l
  | n + 1, r :: rs, [], i, s, l, e, e', h, h', iv => by
    have hs : s = B.length := Option.some.inj h'
    have hi : B.length ≤ i := List.drop_eq_nil_iff.mp e'.symm
    unfold ordT at h
    rw [if_neg (by omega)] at h
    cases h
  | n + 1, r :: rs, r' :: rs', i, s, l, e, e', h, h', iv => by
    unfold ordT at h h'
    by_cases his : i < s
    · rw [if_pos his] at h h'
      have er : A[i]? = some r := by
        have := congrArg (·[0]?) e
        simpa using this.symm
      have er' : B[i]? = some r' := by
        have := congrArg (·[0]?) e'
        simpa using this.symm
      have en : rs = A.drop (i + 1) := by
        have := congrArg List.tail e
        simpa using this
      have en' : rs' = B.drop (i + 1) := by
        have := congrArg List.tail e'
        simpa using this
      have q := iv i his
      have lr : r.length = r'.length := by rw [cA.rows r (List.mem_of_getElem? er), cB.rows r' (List.mem_of_getElem? er')]
      obtain ⟨t, ht, h⟩ := Option.bind_eq_some_iff.mp h
      obtain ⟨t', ht', h'⟩ := Option.bind_eq_some_iff.mp h'
      obtain ⟨x, y, z⟩ := ordR_eq cA.dist cB.dist lr (fun c x x' hx hx' => by
        have m1 := List.mem_of_getElem? hx
        have m2 := List.mem_of_getElem? hx'
        have g1 : ∀ a, x = some a → fol A i c = some a ∧ a < A.length := fun a ea => by
          subst ea
          exact ⟨fol_of er hx, cA.tin.lt r (List.mem_of_getElem? er) _ m1 a rfl⟩
        have g2 : ∀ a, x' = some a → fol B i c = some a ∧ a < B.length := fun a ea => by
          subst ea
          exact ⟨fol_of er' hx', cB.tin.lt r' (List.mem_of_getElem? er') _ m2 a rfl⟩
        refine ⟨⟨fun ex => ?_, fun ex => ?_⟩, fun a b ea eb => ?_⟩
        · cases hz : x' with
          | none => rfl
          | some b =>
            obtain ⟨f, lb⟩ := g2 b hz
            obtain ⟨a, fa, _⟩ := eqv_fol q.symm f (cB.live b lb)
            rw [fol_row er, hx, ex] at fa
            cases fa
        · cases hz : x with
          | none => rfl
          | some b =>
            obtain ⟨f, lb⟩ := g1 b hz
            obtain ⟨a, fa, _⟩ := eqv_fol q f (cA.live b lb)
            rw [fol_row er', hx', ex] at fa
            cases fa
        · obtain ⟨f, la⟩ := g1 a ea
          obtain ⟨f', lb⟩ := g2 b eb
          obtain ⟨b', fb, qq⟩ := eqv_fol q f (cA.live a la)
          rw [f'] at fb
          cases fb
          exact ⟨qq, la, lb⟩) ht ht' iv
      subst x
      subst y
      rw [ordT_eq cA cB n (Nat.succ.inj l) en en' h h' z]
    · rw [if_neg his] at h
      cases h
theorem canon_eq {m : Nat} (cA : Canon m A) (cB : Canon m B) (h : Eqv A 0 B 0) : A = B := by
  have em : ∀ {A B : Tab} {m : Nat}, Canon m B → Eqv A 0 B 0 → A = [] → B = [] := fun {A B m} cB h e => by
    cases B with
    | nil => rfl
    | cons r B =>
      have := (eqv_live h).mpr (cB.live 0 (by simp))
      have := live_lt this
      rw [e] at this
      cases this
  rcases cA.ord with e | oA
  · rw [e, em cB h e]
  · rcases cB.ord with e | oB
    · rw [e, em cA h.symm e]
    · exact ordT_eq cA cB A.length rfl rfl rfl oA oB fun v hv => by
        obtain rfl : v = 0 := by omega
        exact h
end
/-- a least table of the rows of a table -/
def IsLeast (m : Nat) (T T' : Tab) : Prop := Canon m T' ∧ Eqv T 0 T' 0
theorem IsLeast.eq {m : Nat} {T T2 A B : Tab} (a : IsLeast m T A) (b : IsLeast m T2 B) (h : Eqv T 0 T2 0) : A = B := canon_eq a.1 b.1 ((a.2.symm.trans h).trans b.2)

/-! plain: kinds and names of rooms -/
/-! plain: kinds by keys -/
def insK (pl : List (List Int)) (k : List Int) : List (List Int) := if k ∈ pl then pl else pl ++ [k]
/-- the keys so far, each once -/
def plK (f : Nat → List Int) : Nat → List (List Int)
  | 0 => []
  | n + 1 => insK (plK f n) (f n)
def idK (f : Nat → List Int) (i : Nat) : Nat := (plK f (i + 1)).idxOf (f i)
def fK (L : List Bool) (ks : List Nat) : Option Nat → Int
  | none => -1
  | some n => if L[n]?.getD false = true then ((ks[n]?.getD 0 : Nat) : Int) else -1
def keyOf (L : List Bool) (ks : List Nat) (r : List (Option Nat)) (k : Nat) (b : Bool) : List Int := if b = true then (k : Int) :: r.map (fK L ks) else [-1]
def keyAt (T : Tab) (L : List Bool) (ks : List Nat) (i : Nat) : List Int := keyOf L ks (T[i]?.getD []) (ks[i]?.getD 0) (L[i]?.getD false)
def stepK (T : Tab) (L : List Bool) (ks : List Nat) : List Nat := (List.range T.length).map (idK (keyAt T L ks))
def kit (T : Tab) (L : List Bool) : Nat → List Nat
  | 0 => List.replicate T.length 0
  | j + 1 => stepK T L (kit T L j)
def cn (T : Tab) (L : List Bool) : Nat → Nat
  | 0 => 1
  | j + 1 => (plK (keyAt T L (kit T L j)) T.length).length
theorem mem_insK {pl : List (List Int)} {k x : List Int} : x ∈ insK pl k ↔ x ∈ pl ∨ x = k := by
  unfold insK
  split
  · rename_i h
    exact ⟨.inl, fun z => z.elim id fun e => e ▸ h⟩
  · rw [List.mem_append, List.mem_singleton]
theorem mem_plK {f : Nat → List Int} : ∀ {n : Nat} {x : List Int}, x ∈ plK f n ↔ ∃ i, i < n ∧ f i = x
  | 0, x => ⟨fun h => (List.not_mem_nil h).elim, fun ⟨i, h, _⟩ => absurd h (Nat.not_lt_zero i)⟩
  | n + 1, x => by
    rw [plK, mem_insK, mem_plK (n := n)]
    constructor
    · rintro (⟨i, h, e⟩ | rfl)
      · exact ⟨i, by omega, e⟩
      · exact ⟨n, by omega, rfl⟩
    · rintro ⟨i, h, e⟩
      by_cases z : i = n
      · exact .inr (by rw [← e, z])
      · exact .inl ⟨i, by omega, e⟩
theorem plK_le (f : Nat → List Int) : ∀ n, (plK f n).length ≤ n
  | 0 => Nat.le_refl _
  | n + 1 => by
    have := plK_le f n
    rw [plK]
    unfold insK
    split
    · omega
    · rw [List.length_append, List.length_singleton]
      omega
theorem plK_pos (f : Nat → List Int) {n : Nat} (h : 0 < n) : 0 < (plK f n).length := List.length_pos_of_mem (mem_plK.mpr ⟨0, h, rfl⟩)
theorem plK_count {f g : Nat → List Int} : ∀ n : Nat, (∀ i j, i < n → j < n → g i = g j → f i = f j) → (plK f n).length ≤ (plK g n).length
  | 0, _ => Nat.le_refl _
  | n + 1, h => by
    have ih := plK_count n fun i j hi hj => h i j (by omega) (by omega)
    rw [plK, plK]
    unfold insK
    by_cases c : g n ∈ plK g n
    · rw [if_pos c]
      obtain ⟨i, hi, e⟩ := mem_plK.mp c
      rw [if_pos (mem_plK.mpr ⟨i, hi, h i n (by omega) (by omega) e⟩)]
      exact ih
    · rw [if_neg c, List.length_append, List.length_singleton]
      split
      · omega
      · rw [List.length_append, List.length_singleton]
        omega
/-- indexes stay -/
theorem plK_get {f : Nat → List Int} {i : Nat} : ∀ {n : Nat}, i < n → (plK f n)[idK f i]? = some (f i)
  | 0, h => absurd h (Nat.not_lt_zero i)
  | n + 1, h => by
    by_cases z : i = n
    · subst z
      have m : f i ∈ plK f (i + 1) := mem_plK.mpr ⟨i, by omega, rfl⟩
      unfold idK
      have l := List.idxOf_lt_length_of_mem m
      rw [List.getElem?_eq_getElem l, List.getElem_idxOf]
    · have ih := plK_get (f := f) (i := i) (n := n) (by omega)
      rw [plK]
      unfold insK
      split
      · exact ih
      · obtain ⟨l, _⟩ := List.getElem?_eq_some_iff.mp ih
        rw [List.getElem?_append_left l]
        exact ih
theorem idK_inj {f : Nat → List Int} {i j : Nat} (h : idK f i = idK f j) : f i = f j := by
  have a := plK_get (f := f) (i := i) (n := i + j + 1) (by omega)
  have b := plK_get (f := f) (i := j) (n := i + j + 1) (by omega)
  rw [h, b] at a
  exact (Option.some.inj a).symm
theorem kit_len (T : Tab) (L : List Bool) : ∀ j, (kit T L j).length = T.length
  | 0 => by simp [kit]
  | j + 1 => by simp [kit, stepK]
theorem kit_at {T : Tab} {L : List Bool} {j i : Nat} (h : i < T.length) : (kit T L (j + 1))[i]? = some (idK (keyAt T L (kit T L j)) i) := by
  simp [kit, stepK, h]
theorem key_back {T : Tab} {L : List Bool} {j i i' : Nat} (h : i < T.length) (h' : i' < T.length) (e : keyAt T L (kit T L (j + 1)) i = keyAt T L (kit T L (j + 1)) i') : keyAt T L (kit T L j) i = keyAt T L (kit T L j) i' := by
  have e' : keyOf L (kit T L (j + 1)) (T[i]?.getD []) ((kit T L (j + 1))[i]?.getD 0) (L[i]?.getD false) = keyOf L (kit T L (j + 1)) (T[i']?.getD []) ((kit T L (j + 1))[i']?.getD 0) (L[i']?.getD false) := e
  rw [kit_at h, kit_at h'] at e'
  unfold keyOf at e'
  by_cases b : L[i]?.getD false = true
  · by_cases b' : L[i']?.getD false = true
    · rw [if_pos b, if_pos b'] at e'
      have e1 := (List.cons.inj e').1
      exact idK_inj (Int.ofNat.inj e1)
    · rw [if_pos b, if_neg b'] at e'
      have e1 := (List.cons.inj e').1
      simp at e1
  · by_cases b' : L[i']?.getD false = true
    · rw [if_neg b, if_pos b'] at e'
      have e1 := (List.cons.inj e').1
      simp at e1
    · unfold keyAt keyOf
      rw [if_neg b, if_neg b']
theorem cn_le {T : Tab} {L : List Bool} (h : 0 < T.length) : ∀ j, cn T L j ≤ T.length
  | 0 => h
  | j + 1 => plK_le _ _
theorem cn_mono {T : Tab} {L : List Bool} (h : 0 < T.length) : ∀ j, cn T L j ≤ cn T L (j + 1)
  | 0 => plK_pos _ h
  | j + 1 => plK_count _ fun i i' hi hi' e => key_back hi hi' e
def nk (ks : List Nat) (n : Nat) : Nat := ks[n]?.getD 0
/-! plain: kinds are rows that go on; the least table is least -/
section
variable {T : Tab} {L : List Bool} {i i' m j : Nat}
theorem plK_nodup (f : Nat → List Int) : ∀ n, (plK f n).Nodup
  | 0 => List.nodup_nil
  | n + 1 => by
    rw [plK]
    unfold insK
    split
    · exact plK_nodup f n
    · rename_i h
      rw [List.nodup_append]
      exact ⟨plK_nodup f n, by simp, fun a ha b hb e => h (by rw [← List.mem_singleton.mp hb, ← e]; exact ha)⟩
theorem nodup_at {α : Type} {l : List α} (n : l.Nodup) {i j : Nat} {x : α} (h : l[i]? = some x) (g : l[j]? = some x) : i = j := by
  obtain ⟨hi, e1⟩ := List.getElem?_eq_some_iff.mp h
  obtain ⟨hj, e2⟩ := List.getElem?_eq_some_iff.mp g
  exact (List.getElem_inj n).mp (e1.trans e2.symm)
theorem idK_of {f : Nat → List Int} {i j : Nat} (h : f i = f j) : idK f i = idK f j := by
  have a := plK_get (f := f) (i := i) (n := i + j + 1) (by omega)
  have b := plK_get (f := f) (i := j) (n := i + j + 1) (by omega)
  rw [← h] at b
  exact nodup_at (plK_nodup f _) a b
theorem plK_eq {f g : Nat → List Int} : ∀ (n : Nat), (plK f n).length = (plK g n).length → (∀ i j, i < n → j < n → g i = g j → f i = f j) → ∀ i j, i < n → j < n → f i = f j → g i = g j
  | 0, _, _, i, j, hi, _, _ => absurd hi (Nat.not_lt_zero i)
  | n + 1, e, r, i, j, hi, hj, h => by
    have rn : ∀ i j, i < n → j < n → g i = g j → f i = f j := fun i j hi hj => r i j (by omega) (by omega)
    have le := plK_count n rn
    rw [plK, plK] at e
    unfold insK at e
    have main : (plK f n).length = (plK g n).length ∧ ∀ i, i < n → f i = f n → g i = g n := by
      by_cases c : g n ∈ plK g n
      · rw [if_pos c] at e
        obtain ⟨i0, h0, e0⟩ := mem_plK.mp c
        have f0 := r i0 n (by omega) (by omega) e0
        have : f n ∈ plK f n := mem_plK.mpr ⟨i0, h0, f0⟩
        rw [if_pos this] at e
        refine ⟨e, fun i hi hf => ?_⟩
        rw [plK_eq n e rn i i0 hi h0 (hf.trans f0.symm), e0]
      · rw [if_neg c, List.length_append, List.length_singleton] at e
        by_cases d : f n ∈ plK f n
        · rw [if_pos d] at e
          omega
        · rw [if_neg d, List.length_append, List.length_singleton] at e
          exact ⟨by omega, fun i hi hf => absurd (mem_plK.mpr ⟨i, hi, hf⟩) d⟩
    obtain ⟨e1, mn⟩ := main
    by_cases zi : i = n
    · by_cases zj : j = n
      · rw [zi, zj]
      · rw [zi]
        exact (mn j (by omega) (by rw [← h, zi])).symm
    · by_cases zj : j = n
      · rw [zj]
        exact mn i (by omega) (by rw [h, zj])
      · exact plK_eq n e1 rn i j (by omega) (by omega) h
theorem kit_eq (h : i < T.length) (h' : i' < T.length) : (kit T L (j + 1))[i]? = (kit T L (j + 1))[i']? ↔ keyAt T L (kit T L j) i = keyAt T L (kit T L j) i' := by
  rw [kit_at h, kit_at h']
  exact ⟨fun e => idK_inj (Option.some.inj e), fun e => congrArg some (idK_of e)⟩
theorem plK_one {f : Nat → List Int} {n : Nat} (e : (plK f n).length = 1) (h : i < n) (h' : i' < n) : f i = f i' := by
  have a := plK_get (f := f) h
  have b := plK_get (f := f) h'
  obtain ⟨l1, _⟩ := List.getElem?_eq_some_iff.mp a
  obtain ⟨l2, _⟩ := List.getElem?_eq_some_iff.mp b
  have : idK f i = idK f i' := by omega
  exact idK_inj this
theorem kit_stable (e : cn T L (j + 1) = cn T L j) (h : i < T.length) (h' : i' < T.length) (k : (kit T L j)[i]? = (kit T L j)[i']?) : (kit T L (j + 1))[i]? = (kit T L (j + 1))[i']? := by
  rw [kit_eq h h']
  cases j with
  | zero => exact plK_one (n := T.length) e h h'
  | succ j =>
    rw [kit_eq h h'] at k
    exact plK_eq T.length e.symm (fun a b ha hb q => key_back ha hb q) i i' h h' k
theorem fK_eq {ks : List Nat} {d d' : Option Nat} (h : fK L ks d = fK L ks d') : ∀ x, d = some x → L[x]?.getD false = true → ∃ y, d' = some y ∧ L[y]?.getD false = true ∧ ks[x]?.getD 0 = ks[y]?.getD 0 := by
  rintro x rfl lx
  unfold fK at h
  dsimp only at h
  rw [if_pos lx] at h
  cases d' with
  | none => simp at h
  | some y =>
    dsimp only at h
    split at h
    · rename_i ly
      exact ⟨y, rfl, ly, Int.ofNat.inj h⟩
    · simp at h
/-- what live_rooms returns -/
structure LiveL (T : Tab) (L : List Bool) : Prop where
  len : L.length = T.length
  iff : ∀ i, i < T.length → (L[i]? = some true ↔ Live T i)
theorem LiveL.get (h : LiveL T L) (i : Nat) : L[i]?.getD false = true ↔ Live T i := by
  by_cases z : i < T.length
  · rw [← h.iff i z]
    cases e : L[i]? with
    | none => simp
    | some b => simp
  · rw [List.getElem?_eq_none (by rw [h.len]; omega)]
    exact ⟨fun x => (by cases x), fun x => absurd (live_lt x) z⟩
theorem getD_some {α : Type} {l : List α} {i : Nat} {d : α} (h : i < l.length) : l[i]? = some (l[i]?.getD d) := by
  rw [List.getElem?_eq_getElem h]
  rfl
theorem kinds_to (hL : LiveL T L) (tin : TIn T) (e : cn T L (j + 1) = cn T L j) (h : i < T.length) (h' : i' < T.length) (k : (kit T L (j + 1))[i]? = (kit T L (j + 1))[i']?) : ∀ α, Acc T i α → Acc T i' α := by
  intro α a
  refine acc_sim (R := fun x y => x < T.length ∧ y < T.length ∧ (kit T L (j + 1))[x]? = (kit T L (j + 1))[y]?) ⟨h, h', k⟩ ?_ a
  rintro x y c x' ⟨hx, hy, k⟩ f l
  have ky := (kit_eq hx hy).mp k
  have lx : L[x]?.getD false = true := (hL.get x).mpr (live_of f l)
  unfold keyAt keyOf at ky
  rw [if_pos lx] at ky
  by_cases ly : L[y]?.getD false = true
  · rw [if_pos ly] at ky
    have kr := (List.cons.inj ky).2
    obtain ⟨r, hr, hc⟩ := fol_mem f
    have hx' := fol_in tin f
    have h1 : ((T[x]?.getD []).map (fK L (kit T L j)))[c]? = some (fK L (kit T L j) (some x')) := by
      rw [hr]
      show (r.map _)[c]? = _
      rw [List.getElem?_map, hc]
      rfl
    rw [kr, List.getElem?_map] at h1
    obtain ⟨d, hd, ed⟩ := Option.map_eq_some_iff.mp h1
    obtain ⟨y', rfl, ly', ek⟩ := fK_eq ed.symm x' rfl ((hL.get x').mpr l)
    have hy' := live_lt ((hL.get y').mp ly')
    refine ⟨y', ?_, hx', hy', ?_⟩
    · unfold fol
      rw [hd]
      rfl
    · refine kit_stable e hx' hy' ?_
      have kl := kit_len T L j
      rw [getD_some (d := 0) (show x' < (kit T L j).length by omega), getD_some (d := 0) (show y' < (kit T L j).length by omega), ek]
  · rw [if_neg ly] at ky
    have := (List.cons.inj ky).1
    simp at this
theorem row_len (hm : ∀ r ∈ T, r.length = m) (h : i < T.length) : (T[i]?.getD []).length = m := by
  rw [List.getElem?_eq_getElem h]
  exact hm _ (List.getElem_mem h)
theorem eqv_key {ks : List Nat} (hL : LiveL T L) (tin : TIn T) (hm : ∀ r ∈ T, r.length = m) (h : i < T.length) (h' : i' < T.length) (q : Eqv T i T i') (hk : ks[i]?.getD 0 = ks[i']?.getD 0) (hf : ∀ x y, x < T.length → y < T.length → Eqv T x T y → ks[x]?.getD 0 = ks[y]?.getD 0) : keyAt T L ks i = keyAt T L ks i' := by
  have ll : L[i]?.getD false = true ↔ L[i']?.getD false = true := by rw [hL.get, hL.get]; exact eqv_live q
  unfold keyAt keyOf
  by_cases l : L[i]?.getD false = true
  · rw [if_pos l, if_pos (ll.mp l), hk]
    congr 1
    apply List.ext_getElem?
    intro c
    rw [List.getElem?_map, List.getElem?_map]
    have l1 := row_len hm h
    have l2 := row_len hm h'
    by_cases hc : c < m
    · obtain ⟨d, hd⟩ : ∃ d, (T[i]?.getD [])[c]? = some d := ⟨_, List.getElem?_eq_getElem (by omega)⟩
      obtain ⟨d', hd'⟩ : ∃ d, (T[i']?.getD [])[c]? = some d := ⟨_, List.getElem?_eq_getElem (by omega)⟩
      rw [hd, hd']
      show some _ = some _
      congr 1
      have sym : ∀ {i i' : Nat} {d d' : Option Nat}, Eqv T i T i' → (T[i]?.getD [])[c]? = some d → (T[i']?.getD [])[c]? = some d' → ∀ x, d = some x → L[x]?.getD false = true → ∃ y, d' = some y ∧ L[y]?.getD false = true ∧ ks[x]?.getD 0 = ks[y]?.getD 0 := by
        rintro i i' d d' q hd hd' x rfl lx
        have f : fol T i c = some x := by unfold fol; rw [hd]; rfl
        obtain ⟨y, fy, qy⟩ := eqv_fol q f ((hL.get x).mp lx)
        have ly := (eqv_live qy).mp ((hL.get x).mp lx)
        refine ⟨y, ?_, (hL.get y).mpr ly, hf x y (live_lt ((hL.get x).mp lx)) (live_lt ly) qy⟩
        unfold fol at fy
        rw [hd'] at fy
        exact fy
      have s1 := sym q hd hd'
      have s2 := sym q.symm hd' hd
      have one : ∀ {d : Option Nat}, (∀ x, d = some x → ¬ L[x]?.getD false = true) → fK L ks d = -1 := fun {d} n => by
        cases d with
        | none => rfl
        | some x => unfold fK; dsimp only; rw [if_neg (n x rfl)]
      by_cases z : ∃ x, d = some x ∧ L[x]?.getD false = true
      · obtain ⟨x, ex, lx⟩ := z
        obtain ⟨y, ey, ly, ek⟩ := s1 x ex lx
        subst ex
        subst ey
        unfold fK
        dsimp only
        rw [if_pos lx, if_pos ly, ek]
      · rw [one fun x ex lx => z ⟨x, ex, lx⟩, one fun y ey ly => by
          obtain ⟨x, ex, lx, _⟩ := s2 y ey ly
          exact z ⟨x, ex, lx⟩]
    · rw [List.getElem?_eq_none (by omega), List.getElem?_eq_none (by omega)]
  · rw [if_neg l, if_neg (fun z => l (ll.mpr z))]
theorem kinds_of (hL : LiveL T L) (tin : TIn T) (hm : ∀ r ∈ T, r.length = m) : ∀ (j : Nat) {i i' : Nat}, i < T.length → i' < T.length → Eqv T i T i' → (kit T L j)[i]?.getD 0 = (kit T L j)[i']?.getD 0
  | 0, i, i', h, h', q => by simp [kit, List.getElem?_replicate, h, h']
  | j + 1, i, i', h, h', q => by
    rw [(kit_eq h h').mpr (eqv_key hL tin hm h h' q (kinds_of hL tin hm j h h' q) fun x y hx hy => kinds_of hL tin hm j hx hy)]
theorem kinds_iff (hL : LiveL T L) (tin : TIn T) (hm : ∀ r ∈ T, r.length = m) (e : cn T L (j + 1) = cn T L j) (h : i < T.length) (h' : i' < T.length) : nk (kit T L (j + 1)) i = nk (kit T L (j + 1)) i' ↔ Eqv T i T i' := by
  have kl := kit_len T L (j + 1)
  have both : nk (kit T L (j + 1)) i = nk (kit T L (j + 1)) i' ↔ (kit T L (j + 1))[i]? = (kit T L (j + 1))[i']? := by
    rw [getD_some (d := 0) (show i < (kit T L (j + 1)).length by omega), getD_some (d := 0) (show i' < (kit T L (j + 1)).length by omega)]
    exact ⟨fun z => congrArg some z, fun z => Option.some.inj z⟩
  constructor
  · intro k
    have k := both.mp k
    exact fun α => ⟨kinds_to hL tin e h h' k α, kinds_to hL tin e h' h k.symm α⟩
  · intro q
    exact kinds_of hL tin hm (j + 1) h h' q
end
/-! plain: names in the sequence in which they are reached -/
def addN (L : List Bool) (ks names : List Nat) : Option Nat → List Nat
  | none => names
  | some n => if L[n]?.getD false = true ∧ nk ks n ∉ names then names ++ [nk ks n] else names
def fN (L : List Bool) (ks names : List Nat) (row : List (Option Nat)) : List Nat := row.foldl (addN L ks) names
def eL (L : List Bool) (ks names : List Nat) : Option Nat → Option Nat
  | none => none
  | some n => if L[n]?.getD false = true then some (names.idxOf (nk ks n)) else none
def hdR (T : Tab) (ks : List Nat) (k : Nat) : List (Option Nat) := T[ks.idxOf k]?.getD []
def nmL (T : Tab) (L : List Bool) (ks : List Nat) : Nat → List Nat
  | 0 => [nk ks 0]
  | j + 1 => fN L ks (nmL T L ks j) (hdR T ks (nk (nmL T L ks j) j))
def rmL (T : Tab) (L : List Bool) (ks : List Nat) (j : Nat) : List (Option Nat) := (hdR T ks (nk (nmL T L ks j) j)).map (eL L ks (nmL T L ks (j + 1)))
section
variable {L : List Bool} {ks names : List Nat} {T : Tab}
theorem addN_pre (names : List Nat) (e : Option Nat) : ∃ x, addN L ks names e = names ++ x := by
  cases e with
  | none => exact ⟨[], (List.append_nil _).symm⟩
  | some n =>
    unfold addN
    dsimp only
    split
    · exact ⟨_, rfl⟩
    · exact ⟨[], (List.append_nil _).symm⟩
theorem fN_pre : ∀ (row : List (Option Nat)) (names : List Nat), ∃ x, fN L ks names row = names ++ x
  | [], names => ⟨[], (List.append_nil _).symm⟩
  | e :: r, names => by
    obtain ⟨x, hx⟩ := addN_pre (L := L) (ks := ks) names e
    obtain ⟨y, hy⟩ := fN_pre r (addN L ks names e)
    refine ⟨x ++ y, ?_⟩
    show fN L ks (addN L ks names e) r = _
    rw [hy, hx, List.append_assoc]
theorem fN_snoc (names : List Nat) (row : List (Option Nat)) (e : Option Nat) : fN L ks names (row ++ [e]) = addN L ks (fN L ks names row) e := by
  unfold fN
  rw [List.foldl_append]
  rfl
theorem mem_addN {n : Nat} (l : L[n]?.getD false = true) : nk ks n ∈ addN L ks names (some n) := by
  unfold addN
  dsimp only
  split
  · exact List.mem_append_right _ (List.mem_singleton.mpr rfl)
  · rename_i h
    exact Decidable.byContradiction fun z => h ⟨l, z⟩
theorem fN_mem {n : Nat} (l : L[n]?.getD false = true) : ∀ {row : List (Option Nat)} {names : List Nat}, some n ∈ row → nk ks n ∈ fN L ks names row
  | e :: r, names, h => by
    show nk ks n ∈ fN L ks (addN L ks names e) r
    rcases List.mem_cons.mp h with rfl | h
    · obtain ⟨x, hx⟩ := fN_pre (L := L) (ks := ks) r (addN L ks names (some n))
      rw [hx]
      exact List.mem_append_left _ (mem_addN l)
    · exact fN_mem l h
theorem nodup_snoc : ∀ {l : List Nat} {k : Nat}, l.Nodup → k ∉ l → (l ++ [k]).Nodup
  | [], k, _, _ => by simp
  | a :: l, k, h, n => by
    obtain ⟨h1, h2⟩ := List.nodup_cons.mp h
    rw [List.cons_append]
    refine List.nodup_cons.mpr ⟨fun z => ?_, nodup_snoc h2 fun z => n (List.mem_cons_of_mem _ z)⟩
    rcases List.mem_append.mp z with z | z
    · exact h1 z
    · exact n (by rw [List.mem_singleton.mp z]; exact List.mem_cons_self)
theorem nodup_len : ∀ {l m : List Nat}, l.Nodup → (∀ x ∈ l, x ∈ m) → l.length ≤ m.length
  | [], m, _, _ => Nat.zero_le _
  | a :: l, m, h, s => by
    obtain ⟨h1, h2⟩ := List.nodup_cons.mp h
    have ha : a ∈ m := s a List.mem_cons_self
    have := nodup_len (l := l) (m := m.erase a) h2 fun x hx => (List.mem_erase_of_ne (fun z : x = a => h1 (by rw [← z]; exact hx))).mpr (s x (List.mem_cons_of_mem _ hx))
    rw [List.length_erase_of_mem ha] at this
    have := List.length_pos_of_mem ha
    rw [List.length_cons]
    omega
structure NmOk (ks names : List Nat) : Prop where
  nd : names.Nodup
  sub : ∀ x ∈ names, x ∈ ks
theorem nk_mem {n : Nat} (h : n < ks.length) : nk ks n ∈ ks := by
  unfold nk
  rw [List.getElem?_eq_getElem h]
  exact List.getElem_mem h
theorem nmOk_add {e : Option Nat} (h : NmOk ks names) (he : ∀ n, e = some n → n < ks.length) : NmOk ks (addN L ks names e) := by
  cases e with
  | none => exact h
  | some n =>
    unfold addN
    dsimp only
    split
    · rename_i z
      exact ⟨nodup_snoc h.nd z.2, fun x hx => (List.mem_append.mp hx).elim (h.sub x) fun y => by rw [List.mem_singleton.mp y]; exact nk_mem (he n rfl)⟩
    · exact h
theorem nmOk_fold : ∀ {row : List (Option Nat)} {names : List Nat}, NmOk ks names → (∀ e ∈ row, ∀ n, e = some n → n < ks.length) → NmOk ks (fN L ks names row)
  | [], _, h, _ => h
  | e :: r, names, h, he => nmOk_fold (row := r) (nmOk_add h (he e List.mem_cons_self)) fun x hx => he x (List.mem_cons_of_mem _ hx)
theorem row_in (tin : TIn T) (i : Nat) : ∀ e ∈ T[i]?.getD [], ∀ n, e = some n → n < T.length := by
  intro e he n hn
  cases h : T[i]? with
  | none => rw [h] at he; exact (List.not_mem_nil he).elim
  | some r =>
    rw [h] at he
    exact tin.lt r (List.mem_of_getElem? h) e he n hn
theorem nmOk (tin : TIn T) (hk : ks.length = T.length) (h0 : 0 < T.length) : ∀ j, NmOk ks (nmL T L ks j)
  | 0 => ⟨by simp [nmL], fun x hx => by rw [List.mem_singleton.mp hx]; exact nk_mem (by omega)⟩
  | j + 1 => nmOk_fold (nmOk tin hk h0 j) fun e he n hn => by rw [hk]; exact row_in tin _ e he n hn
theorem nmL_pre {i j : Nat} (h : i ≤ j) : ∃ x, nmL T L ks j = nmL T L ks i ++ x := by
  induction h with
  | refl => exact ⟨[], (List.append_nil _).symm⟩
  | @step m h ih =>
    obtain ⟨x, hx⟩ := ih
    obtain ⟨y, hy⟩ := fN_pre (L := L) (ks := ks) (hdR T ks (nk (nmL T L ks m) m)) (nmL T L ks m)
    refine ⟨x ++ y, ?_⟩
    show fN L ks (nmL T L ks m) _ = _
    rw [hy, hx, List.append_assoc]
theorem idx_pre {k : Nat} {x : List Nat} (h : k ∈ names) : (names ++ x).idxOf k = names.idxOf k := by
  rw [List.idxOf_append, if_pos h]
theorem eL_add {e d : Option Nat} (h : ∀ n, e = some n → L[n]?.getD false = true → nk ks n ∈ names) : eL L ks (addN L ks names d) e = eL L ks names e := by
  cases e with
  | none => rfl
  | some n =>
    unfold eL
    dsimp only
    split
    · rename_i l
      obtain ⟨x, hx⟩ := addN_pre (L := L) (ks := ks) names d
      rw [hx, idx_pre (h n rfl l)]
    · rfl
def accR (L : List Bool) (ks N0 : List Nat) (r : List (Option Nat)) (i : Nat) : List V := (r.take i).map fun e => vO (eL L ks (fN L ks N0 (r.take i)) e)
theorem accR_step {N0 : List Nat} {r : List (Option Nat)} {i : Nat} {e : Option Nat} (h : r[i]? = some e) : accR L ks N0 r (i + 1) = accR L ks N0 r i ++ [vO (eL L ks (addN L ks (fN L ks N0 (r.take i)) e) e)] := by
  have e1 : r.take (i + 1) = r.take i ++ [e] := by rw [List.take_succ, h]; rfl
  unfold accR
  rw [e1, fN_snoc, List.map_append]
  congr 1
  refine List.map_congr_left fun d hd => ?_
  rw [eL_add]
  rintro n rfl l
  exact fN_mem l hd
end
/-- what is returned -/
def Least (T T' : Tab) : Prop := (T' = [] ∧ ¬ Live T 0) ∨ ∃ (L : List Bool) (j n : Nat), LiveL T L ∧ 0 < T.length ∧ L[0]? = some true ∧ cn T L (j + 1) = cn T L j ∧ (nmL T L (kit T L (j + 1)) n).length = n ∧ (∀ i, i < n → i < (nmL T L (kit T L (j + 1)) i).length) ∧ T' = (List.range n).map (rmL T L (kit T L (j + 1)))
theorem Least.tin {T T' : Tab} (h : Least T T') (tin : TIn T) : TIn T' := by
  rcases h with ⟨rfl, _⟩ | ⟨L, j, n, ⟨hL, _⟩, h0, hl, hc, hn, hp, rfl⟩
  · exact ⟨fun r hr => absurd hr (List.not_mem_nil)⟩
  · refine ⟨fun r hr e he m hm => ?_⟩
    rw [List.length_map, List.length_range]
    obtain ⟨i, hi, rfl⟩ := List.mem_map.mp hr
    have hi := List.mem_range.mp hi
    obtain ⟨d, hd, rfl⟩ := List.mem_map.mp he
    cases d with
    | none => cases hm
    | some q =>
      unfold eL at hm
      dsimp only at hm
      split at hm
      · rename_i l
        cases hm
        have mm : (nmL T L (kit T L (j + 1)) (i + 1)).idxOf (nk (kit T L (j + 1)) q) < (nmL T L (kit T L (j + 1)) (i + 1)).length := List.idxOf_lt_length_of_mem (fN_mem (ks := kit T L (j + 1)) l (names := nmL T L (kit T L (j + 1)) i) hd)
        obtain ⟨x, hx⟩ := nmL_pre (T := T) (L := L) (ks := kit T L (j + 1)) (show i + 1 ≤ n from hi)
        have := congrArg List.length hx
        rw [List.length_append, hn] at this
        exact Nat.lt_of_lt_of_le mm (by omega)
      · cases hm
theorem Least.len {T T' : Tab} (h : Least T T') (tin : TIn T) : T'.length ≤ T.length := by
  rcases h with ⟨rfl, _⟩ | ⟨L, j, n, ⟨hL, _⟩, h0, hl, hc, hn, hp, rfl⟩
  · exact Nat.zero_le _
  · have k := kit_len T L (j + 1)
    have o := nmOk (L := L) tin k h0 n
    have := nodup_len o.nd o.sub
    rw [List.length_map, List.length_range]
    omega
theorem Least.rows {T T' : Tab} {m : Nat} (h : Least T T') (tin : TIn T) (hm : ∀ r ∈ T, r.length = m) : ∀ r ∈ T', r.length = m := by
  rcases h with ⟨rfl, _⟩ | ⟨L, j, n, ⟨hL, _⟩, h0, hl, hc, hn, hp, rfl⟩
  · exact fun r hr => absurd hr (List.not_mem_nil)
  · intro r hr
    obtain ⟨i, hi, rfl⟩ := List.mem_map.mp hr
    have hi := List.mem_range.mp hi
    have k := kit_len T L (j + 1)
    have o := nmOk (L := L) tin k h0 i
    have l1 : nk (nmL T L (kit T L (j + 1)) i) i ∈ nmL T L (kit T L (j + 1)) i := nk_mem (hp i hi)
    have l2 := List.idxOf_lt_length_of_mem (o.sub _ l1)
    unfold rmL hdR
    rw [List.length_map, List.getElem?_eq_getElem (show _ < T.length by omega)]
    exact hm _ (List.getElem_mem _)
/-! plain: what least_table returns is the least table -/
section
variable {T T' : Tab} {L : List Bool} {i i' m j n : Nat}
structure Lst (T : Tab) (m : Nat) (L : List Bool) (ks N : List Nat) (n : Nat) (T' : Tab) : Prop where
  tin : TIn T
  rows : ∀ r ∈ T, r.length = m
  ll : LiveL T L
  l0 : Live T 0
  kl : ks.length = T.length
  iff : ∀ i i', i < T.length → i' < T.length → (nk ks i = nk ks i' ↔ Eqv T i T i')
  nm : N = nmL T L ks n
  nl : N.length = n
  hp : ∀ i, i < n → i < (nmL T L ks i).length
  tab : T' = (List.range n).map (rmL T L ks)
/-- the first room of a kind -/
def hd (ks N : List Nat) (p : Nat) : Nat := ks.idxOf (nk N p)
variable {ks N : List Nat} {p c q : Nat}
theorem Lst.h0 (h : Lst T m L ks N n T') : 0 < T.length := live_lt h.l0
theorem Lst.okN (h : Lst T m L ks N n T') : NmOk ks N := by rw [h.nm]; exact nmOk h.tin h.kl h.h0 n
theorem Lst.at (h : Lst T m L ks N n T') (hj : j ≤ n) (hi : i < (nmL T L ks j).length) : nk N i = nk (nmL T L ks j) i := by
  obtain ⟨x, hx⟩ := nmL_pre (T := T) (L := L) (ks := ks) hj
  unfold nk
  rw [h.nm, hx, List.getElem?_append_left hi]
theorem Lst.hd_lt (h : Lst T m L ks N n T') (hp : p < n) : hd ks N p < T.length := by
  have := List.idxOf_lt_length_of_mem (h.okN.sub _ (nk_mem (ks := N) (n := p) (by rw [h.nl]; exact hp)))
  rw [h.kl] at this
  exact this
theorem nk_idx {ks : List Nat} {k : Nat} (h : k ∈ ks) : nk ks (ks.idxOf k) = k := by
  have l := List.idxOf_lt_length_of_mem h
  unfold nk
  rw [List.getElem?_eq_getElem l, List.getElem_idxOf]
  rfl
theorem Lst.hd_kind (h : Lst T m L ks N n T') (hp : p < n) : nk ks (hd ks N p) = nk N p := nk_idx (h.okN.sub _ (nk_mem (by rw [h.nl]; exact hp)))
/-- the room of the least table for a room -/
def ixN (ks N : List Nat) (q : Nat) : Nat := N.idxOf (nk ks q)
theorem Lst.row (h : Lst T m L ks N n T') (hp : p < n) : T'[p]? = some ((T[hd ks N p]?.getD []).map (eL L ks N)) := by
  rw [h.tab, List.getElem?_map, List.getElem?_range hp]
  show some (rmL T L ks p) = _
  unfold rmL hdR
  congr 1
  have e1 : nk (nmL T L ks p) p = nk N p := (h.at (by omega) (h.hp p hp)).symm
  rw [e1]
  show List.map _ (T[hd ks N p]?.getD []) = List.map _ (T[hd ks N p]?.getD [])
  refine List.map_congr_left fun d hd2 => ?_
  cases d with
  | none => rfl
  | some q =>
    unfold eL
    dsimp only
    split
    · rename_i l
      congr 1
      obtain ⟨x, hx⟩ := nmL_pre (T := T) (L := L) (ks := ks) (show p + 1 ≤ n from hp)
      rw [h.nm, hx]
      refine (idx_pre ?_).symm
      refine fN_mem l ?_
      show some q ∈ T[ks.idxOf (nk (nmL T L ks p) p)]?.getD []
      rw [e1]
      exact hd2
    · rfl
theorem Lst.len (h : Lst T m L ks N n T') : T'.length = n := by rw [h.tab, List.length_map, List.length_range]
theorem Lst.mem (h : Lst T m L ks N n T') (hp : p < n) (f : fol T (hd ks N p) c = some q) (l : Live T q) : nk ks q ∈ N := by
  have e1 : nk (nmL T L ks p) p = nk N p := (h.at (by omega) (h.hp p hp)).symm
  obtain ⟨x, hx⟩ := nmL_pre (T := T) (L := L) (ks := ks) (show p + 1 ≤ n from hp)
  rw [h.nm, hx]
  refine List.mem_append_left _ (fN_mem ((h.ll.get q).mpr l) ?_)
  obtain ⟨r, hr, hc⟩ := fol_mem f
  show some q ∈ T[ks.idxOf (nk (nmL T L ks p) p)]?.getD []
  rw [e1]
  show some q ∈ T[hd ks N p]?.getD []
  rw [hr]
  exact List.mem_of_getElem? hc
theorem Lst.ix (h : Lst T m L ks N n T') (l : Live T q) (hq : nk ks q ∈ N) : ixN ks N q < n ∧ Eqv T (hd ks N (ixN ks N q)) T q := by
  have l1 := List.idxOf_lt_length_of_mem hq
  rw [h.nl] at l1
  refine ⟨l1, ?_⟩
  refine (h.iff _ _ (h.hd_lt l1) (live_lt l)).mp ?_
  rw [h.hd_kind l1]
  exact nk_idx hq
theorem Lst.fol_iff (h : Lst T m L ks N n T') (hp : p < n) {x : Nat} : fol T' p c = some x ↔ ∃ q, fol T (hd ks N p) c = some q ∧ Live T q ∧ x = ixN ks N q := by
  rw [fol_row (h.row hp), List.getElem?_map]
  constructor
  · intro e
    cases z : (T[hd ks N p]?.getD [])[c]? with
    | none => rw [z] at e; cases e
    | some d =>
      rw [z] at e
      have e : eL L ks N d = some x := e
      cases d with
      | none => cases e
      | some q =>
        unfold eL at e
        dsimp only at e
        split at e
        · rename_i l
          refine ⟨q, ?_, (h.ll.get q).mp l, (Option.some.inj e).symm⟩
          unfold fol
          rw [z]
          rfl
        · cases e
  · rintro ⟨q, f, l, rfl⟩
    obtain ⟨r, hr, hc⟩ := fol_mem f
    rw [hr]
    show (r[c]?.map _).getD none = _
    rw [hc]
    show eL L ks N (some q) = _
    unfold eL
    dsimp only
    rw [if_pos ((h.ll.get q).mpr l)]
    rfl
theorem Lst.liveN (h : Lst T m L ks N n T') : ∀ k, k ≤ n → ∀ x ∈ nmL T L ks k, ∃ q, Live T q ∧ nk ks q = x := by
  have fold : ∀ (row : List (Option Nat)) (names : List Nat), (∀ x ∈ names, ∃ q, Live T q ∧ nk ks q = x) → ∀ x ∈ fN L ks names row, ∃ q, Live T q ∧ nk ks q = x := by
    intro row
    induction row with
    | nil => exact fun names hn => hn
    | cons e r ih =>
      intro names hn
      refine ih _ ?_
      cases e with
      | none => exact hn
      | some q =>
        unfold addN
        dsimp only
        split
        · rename_i z
          intro x hx
          rcases List.mem_append.mp hx with y | y
          · exact hn x y
          · exact ⟨q, (h.ll.get q).mp z.1, (List.mem_singleton.mp y).symm⟩
        · exact hn
  intro k
  induction k with
  | zero =>
    intro _ x hx
    exact ⟨0, h.l0, (List.mem_singleton.mp hx).symm⟩
  | succ k ih => exact fun hk => fold _ _ (ih (by omega))
theorem Lst.hd_live (h : Lst T m L ks N n T') (hp : p < n) : Live T (hd ks N p) := by
  have hm : nk N p ∈ N := nk_mem (by rw [h.nl]; exact hp)
  obtain ⟨q, l, e⟩ := h.liveN n (Nat.le_refl _) (nk N p) (by rw [← h.nm]; exact hm)
  have := (h.iff (hd ks N p) q (h.hd_lt hp) (live_lt l)).mp (by rw [h.hd_kind hp, e])
  exact (eqv_live this).mpr l
theorem Lst.eqv (h : Lst T m L ks N n T') (hp : p < n) : Eqv T' p T (hd ks N p) := by
  intro α
  constructor
  · intro a
    refine acc_sim (R := fun x y => x < n ∧ Eqv T (hd ks N x) T y) ⟨hp, Eqv.rfl'⟩ ?_ a
    rintro x y c x' ⟨hx, q⟩ f l
    obtain ⟨z, fz, lz, rfl⟩ := (h.fol_iff hx).mp f
    obtain ⟨y', fy, qy⟩ := eqv_fol q fz lz
    obtain ⟨i1, i2⟩ := h.ix lz (h.mem hx fz lz)
    exact ⟨y', fy, i1, i2.trans qy⟩
  · intro a
    refine acc_sim (R := fun y x => x < n ∧ Eqv T (hd ks N x) T y) ⟨hp, Eqv.rfl'⟩ ?_ a
    rintro y x c y' ⟨hx, q⟩ f l
    obtain ⟨z, fz, qz⟩ := eqv_fol q.symm f l
    have lz := (eqv_live qz).mp l
    obtain ⟨i1, i2⟩ := h.ix lz (h.mem hx fz lz)
    exact ⟨_, (h.fol_iff hx).mpr ⟨z, fz, lz, rfl⟩, i1, i2.trans qz.symm⟩
theorem ordR_N {N : List Nat} : ∀ (row : List (Option Nat)) (names x : List Nat), N = fN L ks names row ++ x → ordR (row.map (eL L ks N)) names.length = some (fN L ks names row).length
  | [], names, x, e => rfl
  | d :: r, names, x, e => by
    have ih := ordR_N r (addN L ks names d) x e
    obtain ⟨y, hy⟩ := fN_pre (L := L) (ks := ks) r (addN L ks names d)
    have e2 : N = addN L ks names d ++ (y ++ x) := by
      rw [e, ← List.append_assoc, ← hy]
      rfl
    cases d with
    | none => exact ih
    | some q =>
      show ordR (eL L ks N (some q) :: r.map (eL L ks N)) names.length = _
      rw [show eL L ks N (some q) = if L[q]?.getD false = true then some (N.idxOf (nk ks q)) else none from rfl]
      by_cases l : L[q]?.getD false = true
      · rw [if_pos l]
        unfold ordR
        by_cases z : nk ks q ∈ names
        · have ea : addN L ks names (some q) = names := by
            unfold addN
            dsimp only
            rw [if_neg (fun y => y.2 z)]
          rw [ea] at e2 ih
          rw [if_pos (by rw [e2, idx_pre z]; exact List.idxOf_lt_length_of_mem z), ih]
          show _ = some (fN L ks (addN L ks names (some q)) r).length
          rw [ea]
        · have ea : addN L ks names (some q) = names ++ [nk ks q] := by
            unfold addN
            dsimp only
            rw [if_pos ⟨l, z⟩]
          have ix : N.idxOf (nk ks q) = names.length := by
            rw [e2, ea, List.append_assoc, List.idxOf_append, if_neg z, List.singleton_append, List.idxOf_cons_self]
            omega
          rw [ix, if_neg (Nat.lt_irrefl _), if_pos rfl]
          rw [ea, List.length_append, List.length_singleton] at ih
          rw [ih]
          show _ = some (fN L ks (addN L ks names (some q)) r).length
          rw [ea]
      · rw [if_neg l]
        have ea : addN L ks names (some q) = names := by
          unfold addN
          dsimp only
          rw [if_neg (fun y => l y.1)]
        rw [ea] at ih
        show ordR (r.map (eL L ks N)) names.length = _
        rw [ih]
        show _ = some (fN L ks (addN L ks names (some q)) r).length
        rw [ea]
theorem Lst.ord (h : Lst T m L ks N n T') : ordT T' 0 1 = some T'.length := by
  have go : ∀ (d p : Nat), p + d = n → ordT (T'.drop p) p (nmL T L ks p).length = some T'.length := by
    intro d
    induction d with
    | zero =>
      intro p hp
      rw [List.drop_eq_nil_of_le (by rw [h.len]; omega)]
      show some _ = _
      have : p = n := by omega
      rw [this, ← h.nm, h.nl, h.len]
    | succ d ih =>
      intro p hp
      have hpn : p < n := by omega
      have hl : p < T'.length := by rw [h.len]; exact hpn
      rw [List.drop_eq_getElem_cons hl]
      unfold ordT
      rw [if_pos (h.hp p hpn)]
      have er : T'[p] = (hdR T ks (nk (nmL T L ks p) p)).map (eL L ks N) := by
        have := h.row hpn
        rw [List.getElem?_eq_getElem hl] at this
        rw [Option.some.inj this]
        unfold hdR hd
        rw [h.at (by omega) (h.hp p hpn)]
      obtain ⟨x, hx⟩ := nmL_pre (T := T) (L := L) (ks := ks) (show p + 1 ≤ n by omega)
      rw [er, ordR_N (hdR T ks (nk (nmL T L ks p) p)) (nmL T L ks p) x (by rw [h.nm, hx]; rfl)]
      exact ih (p + 1) (by omega)
  have := go n 0 (by omega)
  rw [List.drop_zero] at this
  exact this
theorem Lst.least (h : Lst T m L ks N n T') (n0 : 0 < n) : IsLeast m T T' := by
  have lv : ∀ i, i < n → Live T' i := fun i hi => (eqv_live (h.eqv hi)).mpr (h.hd_live hi)
  have e0 : nk N 0 = nk ks 0 := by
    rw [h.at (j := 0) (Nat.zero_le _) (by simp [nmL])]
    rfl
  refine ⟨⟨fun r hr => ?_, ⟨fun r hr e he x hx => ?_⟩, fun i hi => lv i (by rw [← h.len]; exact hi), fun i j hi hj q => ?_, .inr h.ord⟩, ?_⟩
  · obtain ⟨p, hp, rfl⟩ := List.mem_iff_getElem.mp hr
    have hp' : p < n := by rw [← h.len]; exact hp
    have := h.row hp'
    rw [List.getElem?_eq_getElem hp] at this
    rw [Option.some.inj this, List.length_map]
    exact row_len h.rows (h.hd_lt hp')
  · obtain ⟨p, hp, rfl⟩ := List.mem_iff_getElem.mp hr
    obtain ⟨c, hc, rfl⟩ := List.mem_iff_getElem.mp he
    have hp' : p < n := by rw [← h.len]; exact hp
    have f : fol T' p c = some x := fol_of (List.getElem?_eq_getElem hp) (by rw [List.getElem?_eq_getElem hc, hx])
    obtain ⟨q, fq, lq, rfl⟩ := (h.fol_iff hp').mp f
    rw [h.len]
    exact (h.ix lq (h.mem hp' fq lq)).1
  · rw [h.len] at hi hj
    have k := (h.iff _ _ (h.hd_lt hi) (h.hd_lt hj)).mpr (((h.eqv hi).symm.trans q).trans (h.eqv hj))
    rw [h.hd_kind hi, h.hd_kind hj] at k
    have a := getD_some (l := N) (i := i) (d := 0) (by rw [h.nl]; exact hi)
    have b := getD_some (l := N) (i := j) (d := 0) (by rw [h.nl]; exact hj)
    exact nodup_at h.okN.nd (x := nk N i) a (by rw [k]; exact b)
  · refine Eqv.symm ((h.eqv n0).trans ?_)
    exact (h.iff _ _ (h.hd_lt n0) h.h0).mp (by rw [h.hd_kind n0, e0])
theorem canon_nil {m : Nat} : Canon m [] := ⟨fun r hr => absurd hr (List.not_mem_nil), ⟨fun r hr => absurd hr (List.not_mem_nil)⟩, fun i hi => absurd hi (Nat.not_lt_zero i), fun i j hi => absurd hi (Nat.not_lt_zero i), .inl rfl⟩
theorem eqv_dead {A B : Tab} (h : ¬ Live A i) (g : ¬ Live B j) : Eqv A i B j := fun α => ⟨fun x => absurd ⟨α, x⟩ h, fun x => absurd ⟨α, x⟩ g⟩
theorem nil_dead : ¬ Live [] i := fun h => absurd (live_lt h) (Nat.not_lt_zero i)
theorem Least.is (h : Least T T') (tin : TIn T) (hm : ∀ r ∈ T, r.length = m) : IsLeast m T T' := by
  rcases h with ⟨rfl, d⟩ | ⟨L, j, n, ll, h0, hl, hc, hn, hp, e⟩
  · exact ⟨canon_nil, eqv_dead d nil_dead⟩
  · have l0 := (ll.iff 0 h0).mp hl
    have ls : Lst T m L (kit T L (j + 1)) _ n T' := ⟨tin, hm, ll, l0, kit_len T L (j + 1), fun i i' h h' => kinds_iff ll tin hm hc h h', rfl, hn, hp, e⟩
    refine ls.least ?_
    cases n with
    | zero =>
      have : (nmL T L (kit T L (j + 1)) 0).length = 1 := rfl
      rw [hn] at this
      omega
    | succ n => omega
theorem Least.emp (h : Least T T') (tin : TIn T) (hm : ∀ r ∈ T, r.length = m) : T' = [] ↔ ¬ Live T 0 := by
  have il := h.is tin hm
  constructor
  · rintro rfl l
    exact nil_dead ((eqv_live il.2).mp l)
  · intro d
    cases T' with
    | nil => rfl
    | cons r R => exact absurd ((eqv_live il.2).mpr (il.1.live 0 (by simp))) d
end

/-! the rooms that go on -/

def sp_live (K : PySem.W.Frag) : Sp := fun vs H Q _ => ∃ (a : Addr) (T : Tab), vs = [.ref a] ∧ TabAt K H a T ∧ TIn T ∧ T.length ≤ 1000 ∧ (∀ r ∈ T, r.length ≤ 1000) ∧
  ∀ (L : List Bool) r H', LiveL T L → H r = none → Same H H' → H' r = some (.lst (L.map V.bl)) → Q (.ref r) H'
/-- a follow leads to a room that is on -/
def lvB (L : List Bool) : Option Nat → Bool
  | none => false
  | some n => L[n]?.getD false
theorem lvB_any {T : Tab} {L : List Bool} {i : Nat} {r : List (Option Nat)} (h : T[i]? = some r) : (r.map (lvB L)).any id = true ↔ ∃ c j, fol T i c = some j ∧ L[j]?.getD false = true := by
  rw [List.any_eq_true]
  constructor
  · rintro ⟨x, hx, e⟩
    obtain ⟨d, hd, rfl⟩ := List.mem_map.mp hx
    obtain ⟨c, hc⟩ := List.getElem?_of_mem hd
    cases d with
    | none => cases e
    | some j => exact ⟨c, j, fol_of h hc, e⟩
  · rintro ⟨c, j, f, l⟩
    obtain ⟨r', hr, hc⟩ := fol_mem f
    rw [h] at hr
    cases hr
    exact ⟨_, List.mem_map.mpr ⟨some j, List.mem_of_getElem? hc, rfl⟩, l⟩
section
variable {P : Program} {w : World} {K : PySem.W.Frag} {mg : Str → Option Value} {base : Heap} {f : Addr} {fd : FuncData}
theorem ok_live_rooms (F : FnP K "live_rooms" "live_rooms" s_live_rooms f fd) (B : Bi mg)  : FnOk P w K mg base CX0 1 f fd ["rooms"] (sp_live K) := by
  refine F.ok sc_live_rooms (fun vs H Q E h => by walk_at "len") (fun cdv A outer s H vs Q E hr h => ?_)
  have nd := sc_live_rooms.nd
  obtain ⟨a, T, rfl, ⟨vs, sq, ra⟩, tin, hn, hm, q⟩ := h
  refine ⟨_, PSs.nox (pss_cons (ps_set (i := 1) nd rfl (Or.inr rfl) (pe_lc (own := [("room", 2)]) (g := gName 2) (tt := tYes) (by rfl) nd (pi_list (pv 0)) (blkOk_by (own := [("room", 2)]) (N := ["rooms", "live", "room", "changed", "step", "at", "follow"]) (sc := defScope s_live_rooms) (by decide +kernel)) (fun _ _ _ _ _ => pg_name (i := 2) nd rfl (Or.inl rfl)) (fun _ _ _ _ _ => pts_nil) (fun _ _ _ _ _ => pe_bl)))
      (pss_cons (ps_set (i := 3) nd rfl (Or.inl rfl) pe_bl)
      (pss_cons (ps_while PassesOwn.never (pt_val (pv 3)) (pss_cons (ps_set (i := 3) nd rfl (Or.inl rfl) pe_bl)
      (pss_one (ps_for PassesOwn.never rfl (pi_range1 rfl B.range (pa_cons (pe_callB cb_len rfl B.len (by decide +kernel) (pa_cons (pv 0) pa_nil)) pa_nil)) (pg_name (i := 4) nd rfl (.inl rfl))
      (pss_cons (ps_set (i := 5) nd rfl (Or.inl rfl) (pe_op op_sub (pe_op op_sub (pe_callB cb_len rfl B.len (by decide +kernel) (pa_cons (pv 0) pa_nil)) pe_int) (pv 4)))
      (pss_one (ps_if (PW.pt (pw_and (pt_val (pe_ix ix_list (pv 1) (pv 5) (fun _ _ => rfl))) (pw_and1 (pt_not (pt_val (pe_callB (cr_any rfl) rfl B.any (by decide +kernel) (pa_cons (pe_lc (own := [("follow", 6)]) (g := gName 6) (tt := tYes) (by rfl) nd (pi_list (pe_ix ix_list (pv 0) (pv 5) (fun _ _ => rfl))) (blkOk_by (own := [("follow", 6)]) (N := ["rooms", "live", "room", "changed", "step", "at", "follow"]) (sc := defScope s_live_rooms) (by decide +kernel)) (fun _ _ _ _ _ => pg_name (i := 6) nd rfl (Or.inl rfl)) (fun _ _ _ _ _ => pts_nil) (fun _ _ _ _ _ => (pe_and (pe_cmpR op_notN (pv 6) pe_non (nomark _)) (pe_one (pe_ix (ixL_K (K := K) rfl) (pv 1) (pv 6) (fun _ _ => rfl)))))) pa_nil))))))) (pss_cons (ps_asg pe_bl (pg_sub (pv 1) (pv 5) set_list))
      (pss_one (ps_set (i := 3) nd rfl (Or.inl rfl) pe_bl))) pss_nil)))))))
      (pss_one (ps_ret (pv 1)))))), ?_⟩
  walk_at "s0"
  have ow := Own.start H
  have lv := ra.length
  walk_at "go"
  refine r_lc ?_
  walk_at "go"
  refine c_ilS sq ?_
  refine c_lcJ vs.length (by omega) (fun _ => rfl) (fun D i acc H' => Own H H' [(D, .lst acc)] ∧ acc = (List.replicate i true).map V.bl) (fun D nD => ⟨ow.new nD, rfl⟩) ?_ ?_ ?_ ?_
  · rintro D i acc H1 ⟨ow, rfl⟩ hi
    exact itl_go (Same.seq ow.toSame_of sq) hi
  · rintro D acc H1 ⟨ow, rfl⟩
    exact itl_stop (Same.seq ow.toSame_of sq)
  · rintro D i acc H1 x H2 R hi la ⟨ow, rfl⟩ ⟨rfl, hy⟩ hR
    walk_at "go"
    refine hR _ _ (ow.get 0 rfl) ⟨ow.put 0 rfl, ?_⟩
    rw [List.replicate_succ', List.map_append]
    rfl
  rintro D acc H1 nD ⟨ow, rfl⟩ la
  walk_at "go"
  refine r_while (fun m σ H' => ∃ (L : List Bool) (ch : Bool) (u4 u5 : Option V), σ = [some (.ref a), some (.ref D), none, some (.bl ch), u4, u5, none] ∧ L.length = T.length ∧ Own H H' [(D, .lst (L.map V.bl))] ∧ (∀ i, Live T i → L[i]? = some true) ∧ (ch = false → ∀ k, L[k]? = some true → ∃ c j, fol T k c = some j ∧ L[j]?.getD false = true) ∧ m = L.count true + (if ch then 1 else 0)) _ ⟨List.replicate vs.length true, true, none, none, rfl, by rw [List.length_replicate, lv], ow, fun i l => by rw [List.getElem?_replicate, if_pos (by rw [lv]; exact live_lt l)], fun z => (by cases z), rfl⟩ ?_
  rintro m σ H2 ⟨L, ch, u4, u5, rfl, hl, ow, hin, hcl, rfl⟩
  walk_at "go"
  cases ch with
  | false =>
    walk_at "go"
    refine q L D H2 ⟨hl, fun i hi => ⟨fun e => ?_, hin i⟩⟩ (ow.new0 g0) ow.toSame_of (ow.get 0 rfl)
    refine live_set (S := fun x => L[x]?.getD false = true) (by rw [e]; rfl) fun x hx => ?_
    refine hcl rfl x ?_
    cases z : L[x]? with
    | none => rw [z] at hx; cases hx
    | some b => rw [z] at hx; rw [show b = true from hx]
  | true =>
    walk_at "go"
    refine for_range (fun i σ' H' => ∃ (L' : List Bool) (ch : Bool) (u4 u5 : Option V), σ' = [some (.ref a), some (.ref D), none, some (.bl ch), u4, u5, none] ∧ L'.length = T.length ∧ Own H H' [(D, .lst (L'.map V.bl))] ∧ (∀ i, Live T i → L'[i]? = some true) ∧ (ch = false → ∀ k, T.length - i ≤ k → L'[k]? = some true → ∃ c j, fol T k c = some j ∧ L'[j]?.getD false = true) ∧ L'.count true + (if ch then 1 else 0) ≤ L.count true) ⟨L, false, _, _, rfl, hl, ow, hin, fun _ k hk e => by have := (List.getElem?_eq_some_iff.mp e).1; omega, by simp⟩ ?_ ?_
    · rintro i σ' H3 hi ⟨L', ch, u4, u5, rfl, hl', ow, hin, hcl, hc⟩
      have hi2 : i < T.length := by omega
      obtain ⟨k, hk⟩ : ∃ k, k = T.length - 1 - i := ⟨_, rfl⟩
      have kl : k < T.length := by omega
      have ki : ((vs.length : Int) - 1 - (0 + (i : Int))) = (k : Int) := by omega
      obtain ⟨b, hb⟩ : ∃ b, L'[k]? = some b := ⟨L'[k], List.getElem?_eq_getElem (by omega)⟩
      have hat : atI (L'.map V.bl) ((vs.length : Int) - 1 - (0 + (i : Int))) = some (.bl b) := at_nat ki (by rw [List.getElem?_map, hb]; rfl)
      obtain ⟨r, hr⟩ : ∃ r, T[k]? = some r := ⟨T[k], List.getElem?_eq_getElem kl⟩
      have hrT := List.mem_of_getElem? hr
      obtain ⟨v, hv, hra⟩ := ra.at hr
      obtain ⟨ar, rfl, srH⟩ := hra
      have sr := ow.toSame_of.seq srH
      have hvt : atI vs ((vs.length : Int) - 1 - (0 + (i : Int))) = some (.ref ar) := at_nat ki hv
      walk_at "go"
      cases b with
      | false =>
        walk_at "go"
        refine ⟨L', ch, _, _, rfl, hl', ow, hin, fun z k' hk' e => ?_, hc⟩
        by_cases y : k' = k
        · rw [y, hb] at e; cases e
        · exact hcl z k' (by omega) e
      | true =>
        walk_at "go"
        refine r_lc ?_
        walk_at "go"
        refine c_ilS sr ?_
        have hrl := hm r hrT
        refine c_lcJ (r.map vO).length (by rw [List.length_map]; omega) (fun _ => rfl) (fun D' j acc H' => acc = ((r.take j).map (lvB L')).map V.bl ∧ Own H H' [(D', .lst acc), (D, .lst (L'.map V.bl))]) ?_ ?_ ?_ ?_ ?_
        · intro D' nD'
          exact ⟨rfl, ow.new nD'⟩
        · rintro D' j acc H4 ⟨rfl, ow2⟩ hj
          exact itl_go (ow2.toSame_of.seq srH) hj
        · rintro D' acc H4 ⟨rfl, ow2⟩
          exact itl_stop (ow2.toSame_of.seq srH)
        · rintro D' j acc H4 x H5 R hj la' ⟨rfl, ow2⟩ ⟨rfl, hy⟩ hR
          have hx := hy _ (ow2.toSame_of.seq srH)
          rw [List.getElem?_map] at hx
          obtain ⟨e, he, rfl⟩ := Option.map_eq_some_iff.mp hx
          clear ow
          have ow := ow2
          have et : r.take (j + 1) = r.take j ++ [e] := by rw [List.take_succ, he]; rfl
          rw [et, List.map_append, List.map_append] at hR
          cases e with
          | none =>
            show tAndV _ _ _ _ _
            simp only [vO]
            walk_at "go"
            exact hR _ _ (ow.get 0 rfl) ⟨rfl, ow.put 0 rfl⟩
          | some n =>
            have hn1 : n < L'.length := by rw [hl']; exact tin.lt r hrT _ (List.mem_of_getElem? he) n rfl
            have hln : atI (L'.map V.bl) (n : Int) = some (.bl L'[n]) := at_nat rfl (by rw [List.getElem?_map, List.getElem?_eq_getElem hn1]; rfl)
            show tAndV _ _ _ _ _
            simp only [vO]
            walk_at "go"
            have eb : [lvB L' (some n)].map V.bl = [V.bl L'[n]] := by
              show [V.bl (L'[n]?.getD false)] = _
              rw [List.getElem?_eq_getElem hn1]
              rfl
            exact hR _ _ (ow.get 0 rfl) ⟨by rw [← eb]; rfl, ow.put 0 rfl⟩
        · rintro D' acc H4 nD' ⟨rfl, ow2⟩ la'
          clear ow
          have ow := ow2
          walk_at "go"
          refine r_any (SqL.of (ow.get 0 rfl)) ?_
          rw [List.length_map, List.take_length]
          have hany := lvB_any (L := L') hr
          generalize (r.map (lvB L')).any id = c at hany ⊢
          cases c with
          | true =>
            walk_at "go"
            refine ⟨L', ch, _, _, rfl, hl', ow.drop, hin, fun z k' hk' e => ?_, hc⟩
            by_cases y : k' = k
            · rw [y]; exact hany.mp rfl
            · exact hcl z k' (by omega) e
          | false =>
            walk_at "go"
            refine o_setL ow (i := 1) rfl (ixN_nat ki (by rw [List.length_map, hl']; exact kl)) ?_
            intro H6 ow
            walk_at "ow"
            walk_at "go"
            refine ⟨L'.set k false, true, _, _, rfl, by rw [List.length_set, hl'], ?_, fun i' l => ?_, fun z => (by cases z), ?_⟩
            · rw [List.map_set]
              exact ow.drop
            · have nk : i' ≠ k := fun e => by
                rw [e] at l
                obtain ⟨c, j, f, lj⟩ := l.next
                have := hany.mpr ⟨c, j, f, by rw [hin j lj]; rfl⟩
                cases this
              rw [List.getElem?_set_ne (Ne.symm nk)]
              exact hin i' l
            · have cs := count_set hb
              simp only [if_true]
              split at hc <;> omega
    · rintro σ' H3 ⟨L', ch, u4, u5, rfl, hl', ow, hin, hcl, hc⟩
      exact ⟨_, by simp; omega, L', ch, u4, u5, rfl, hl', ow, hin, fun z k e => hcl z k (by omega) e, rfl⟩
end

/-! the kinds of rooms -/

/-! the dict of keys -/
def kvsF (o : Nat) : List (List Int) → List (List Key × V)
  | [] => []
  | k :: r => (k.map Sum.inl, .int (o : Nat)) :: kvsF (o + 1) r
theorem inl_inj {k l : List Int} (h : k.map (Sum.inl : Int → Key) = l.map Sum.inl) : k = l := by
  induction k generalizing l with
  | nil => cases l with
    | nil => rfl
    | cons => cases h
  | cons a k ih => cases l with
    | nil => cases h
    | cons b l =>
      rw [List.map_cons, List.map_cons] at h
      obtain ⟨h1, h2⟩ := List.cons.inj h
      rw [ih h2, Sum.inl.inj h1]
theorem kvsF_len : ∀ (pl : List (List Int)) (o : Nat), (kvsF o pl).length = pl.length
  | [], _ => rfl
  | _ :: r, o => by rw [kvsF, List.length_cons, List.length_cons, kvsF_len r]
theorem kvsF_val : ∀ (pl : List (List Int)) (o : Nat) (k : List Int), valV (kvsF o pl) (k.map Sum.inl) = if k ∈ pl then some (.int ((o + pl.idxOf k : Nat) : Int)) else none
  | [], o, k => rfl
  | p :: r, o, k => by
    by_cases e : p = k
    · subst e
      rw [kvsF, valV_pos rfl, if_pos List.mem_cons_self, List.idxOf_cons_self]
      rfl
    · rw [kvsF, valV_neg (fun z => e (inl_inj z)), kvsF_val r (o + 1) k]
      by_cases m : k ∈ r
      · rw [if_pos m, if_pos (List.mem_cons_of_mem _ m), show (p :: r).idxOf k = r.idxOf k + 1 by rw [List.idxOf_cons, beq_false_of_ne e]; rfl]
        congr 3
        omega
      · rw [if_neg m, if_neg (fun z => (List.mem_cons.mp z).elim (fun y => e y.symm) m)]
theorem kvsF_app : ∀ (pl : List (List Int)) (o : Nat) (k : List Int), kvsF o (pl ++ [k]) = kvsF o pl ++ [(k.map Sum.inl, .int ((o + pl.length : Nat) : Int))]
  | [], o, k => rfl
  | p :: r, o, k => by
    rw [List.cons_append, kvsF, kvsF_app r, kvsF, List.cons_append, List.length_cons, show o + 1 + r.length = o + (r.length + 1) by omega]
theorem any_none {κ : Type} [DecidableEq κ] {kvs : List (κ × V)} {k : κ} (h : valV kvs k = none) : (kvs.any fun kv => decide (kv.1 = k)) = false := by
  unfold valV at h
  rw [Option.map_eq_none_iff, List.find?_eq_none] at h
  rw [List.any_eq_false]
  exact h
theorem kvsF_put {pl : List (List Int)} {k : List Int} (h : k ∉ pl) : putK (kvsF 0 pl) (k.map Sum.inl) (.int (pl.length : Nat)) = kvsF 0 (pl ++ [k]) := by
  have e : valV (kvsF 0 pl) (k.map Sum.inl) = none := by rw [kvsF_val, if_neg h]
  unfold putK
  rw [if_neg (by rw [any_none e]; decide), kvsF_app, Nat.zero_add]
theorem kV_map (k : List Int) : (k.map (Sum.inl : Int → Key)).map kV = k.map V.int := by rw [List.map_map]; rfl
/-! readings -/
def rTupOf (K : PySem.W.Frag) : List V → Hp → VK → Prop := fun xs H Q => ∃ p ys, xs = [.ref p] ∧ ((SqL K H p ys ∧ ∀ l, H l = none → Q (.ref l) (upd H l (.tup ys))) ∨ (SqT K H p ys ∧ Q (.ref p) H))
theorem cb_tupof {X : Cx} : CallR X (.type "tuple") (rTupOf X.K) := call_tuple_of
section
variable {K : PySem.W.Frag} {F H : Hp} {L : List (Addr × HO)} {a b : Addr} {i j : Nat} {Q : VK} {xs ys : List V} {k : List Int} {pl : List (List Int)} {v : V} {σ : L2.St}
theorem o_tupL (h : Own F H L) (s : SqL K H a xs) (q : ∀ p H', H p = none → Own F H' ((p, .tup xs) :: L) → Q (.ref p) H') : rTupOf K [.ref a] H Q := ⟨a, xs, rfl, .inl ⟨s, fun p n => q p _ n (h.new n)⟩⟩
theorem o_dnewT (h : Own F H L) (q : ∀ p H', H p = none → Own F H' ((p, .dT []) :: L) → Q (.ref p) H') : tDNewT σ H Q := fun p n => q p _ n (h.new n)
theorem o_dnT (e : H a = some (.dT (kvsF 0 pl))) (eb : H b = some (.tup (k.map V.int))) (q : Q (.bl (!decide (k ∈ pl))) H) : cDn Q (.ref b) (.ref a) H := by
  refine ⟨a, _, rfl, DGet.t (k := k.map Sum.inl) e (by rw [kV_map]; exact eb), ?_⟩
  rw [kvsF_val]
  by_cases m : k ∈ pl
  · rw [if_pos m]; rw [decide_eq_true m] at q; exact q
  · rw [if_neg m]; rw [decide_eq_false m] at q; exact q
theorem o_dgT (e : H a = some (.dT (kvsF 0 pl))) (eb : H b = some (.tup (k.map V.int))) (m : k ∈ pl) (q : Q (.int (pl.idxOf k : Nat)) H) : cDg Q (.ref a) (.ref b) H := by
  refine ⟨a, _, rfl, ?_, q⟩
  have g := DGet.t (k := k.map Sum.inl) e (by rw [kV_map]; exact eb)
  rw [kvsF_val, if_pos m, Nat.zero_add] at g
  exact g
theorem o_dsetT {R : Hp → Prop} (h : Own F H L) (e : L[i]? = some (a, .dT (kvsF 0 pl))) (eb : H b = some (.tup (k.map V.int))) (m : k ∉ pl) (z : pl.length ≤ 1000000) (hv : v = .int (pl.length : Nat)) (q : ∀ H', Own F H' (L.set i (a, .dT (kvsF 0 (pl ++ [k])))) → R H') : rSetD (.ref a) (.ref b) v H R := by
  subst hv
  refine ⟨a, _, rfl, DPut.t (k := k.map Sum.inl) (h.get i e) (by rw [kV_map]; exact eb) (by rw [kvsF_len]; exact Nat.lt_of_le_of_lt z (by decide)), ?_⟩
  rw [kvsF_put m]
  exact q _ (h.put i e)
theorem o_lenT (e : H a = some (.dT (kvsF 0 pl))) (q : Q (.int (pl.length : Nat)) H) : rLenT [.ref a] H Q := ⟨a, _, rfl, e, by rw [kvsF_len]; exact q⟩
theorem o_catL (h : Own F H L) (e1 : H a = some (.lst xs)) (e2 : H b = some (.lst ys)) (z : xs.length + ys.length ≤ 100000) (q : ∀ p H', H p = none → Own F H' ((p, .lst (xs ++ ys)) :: L) → Q (.ref p) H') : rCat (.ref a) (.ref b) H Q :=
  ⟨a, b, xs, ys, rfl, rfl, e1, e2, Nat.le_trans z (by decide), fun p n => q p _ n (h.new n)⟩
end
theorem Own.one {F H : Hp} {x : Addr × HO} {L : List (Addr × HO)} (h : Own F H (x :: L)) : Own F H [x] := ⟨h.sub, fun i a o e => by
  cases i with
  | zero => exact h.own 0 a o (by simpa using e)
  | succ i => simp at e, by simp⟩
/-- ints of naturals -/
def nI (ks : List Nat) : List V := ks.map fun k => .int (k : Nat)
theorem nI_at {ks : List Nat} {i k : Nat} (h : ks[i]? = some k) : atI (nI ks) (i : Int) = some (.int k) := at_nat rfl (by unfold nI; rw [List.getElem?_map, h]; rfl)
theorem nI_len (ks : List Nat) : (nI ks).length = ks.length := by unfold nI; rw [List.length_map]
def sp_kinds (K : PySem.W.Frag) : Sp := fun vs H Q _ => ∃ (a l : Addr) (T : Tab) (L : List Bool), vs = [.ref a, .ref l] ∧ TabAt K H a T ∧ SqL K H l (L.map V.bl) ∧ L.length = T.length ∧ TIn T ∧ 0 < T.length ∧ T.length ≤ 1000 ∧ (∀ r ∈ T, r.length ≤ 1000) ∧
  ∀ (j : Nat) r H', cn T L (j + 1) = cn T L j → H r = none → Same H H' → H' r = some (.lst (nI (kit T L (j + 1)))) → Q (.ref r) H'
set_option hygiene false in
local macro_rules | `(tactic| walk_at "r1") => `(tactic| first
  | ((with_reducible refine' Bs.o_dnewT ?p1 ?_); (case p1 => assumption); intro pD H' np ow)
  | ((with_reducible refine' Bs.o_tupL ?p1 ?p2 ?_); (case p1 => assumption); (case p2 => walk_at "hq"); intro pT H' np ow)
  | ((with_reducible refine' Bs.o_lenT ?p1 ?_); (case p1 => walk_at "hx"))
  | ((with_reducible refine' Bs.o_unpF ?p1 ?p2 ?_); (case p1 => walk_at "hq"); (case p2 => exact rfl)))
section
variable {P : Program} {w : World} {K : PySem.W.Frag} {mg : Str → Option Value} {base : Heap} {f : Addr} {fd : FuncData}
theorem ok_room_kinds (F : FnP K "room_kinds" "room_kinds" s_room_kinds f fd) (B : Bi mg)  : FnOk P w K mg base CX0 1 f fd ["rooms", "live"] (sp_kinds K) := by
  refine F.ok sc_room_kinds (fun vs H Q E h => by walk_at "len") (fun cdv A outer s H vs Q E hr h => ?_)
  have nd := sc_room_kinds.nd
  obtain ⟨a, l, T, L, rfl, ⟨vs, sq, ra⟩, sl, hL, tin, h0, hn, hm, q⟩ := h
  have hu : (A.deeper (envOfC ("room_kinds" : Str) (defScope s_room_kinds) s.heap.objs.size f cdv)).units + 1 < cLine := by have := hr.un; omega
  refine ⟨_, PSs.nox (pss_cons (ps_set (i := 2) nd rfl (Or.inr rfl) (pe_lc (own := [("room", 3)]) (g := gName 3) (tt := tYes) (by rfl) nd (pi_list (pv 0)) (blkOk_by (own := [("room", 3)]) (N := ["rooms", "live", "kinds", "room", "number", "found", "places", "later", "at", "key", "follow"]) (sc := defScope s_room_kinds) (by decide +kernel)) (fun _ _ _ _ _ => pg_name (i := 3) nd rfl (Or.inl rfl)) (fun _ _ _ _ _ => pts_nil) (fun _ _ _ _ _ => pe_int)))
      (pss_cons (ps_asg (pe_tup (pa_cons pe_int (pa_cons pe_int pa_nil))) (pg_tup rfl (pgs_cons (pg_name (i := 4) nd rfl (.inl rfl)) (pgs_cons (pg_name (i := 5) nd rfl (.inl rfl)) pgs_nil))))
      (pss_cons (ps_while PassesOwn.never (pt_cmpR op_ne (pv 5) (pv 4) (nomark _)) (pss_cons (ps_set (i := 6) nd rfl (Or.inl rfl) pe_dnewT)
      (pss_cons (ps_set (i := 7) nd rfl (Or.inl rfl) (pe_lst pa_nil))
      (pss_cons (ps_for PassesOwn.never rfl (pi_enum rfl B.enumerate (pa_cons (pv 0) pa_nil)) (pg_tup rfl (pgs_cons (pg_name (i := 8) nd rfl (.inl rfl)) (pgs_cons (pg_name (i := 3) nd rfl (.inl rfl)) pgs_nil)))
      (pss_cons (ps_set (i := 9) nd rfl (Or.inl rfl) (pe_op op_cat (pe_lst (pa_cons (pe_ix ix_list (pv 2) (pv 8) (fun _ _ => rfl)) pa_nil)) (pe_lc (own := [("follow", 10)]) (g := gName 10) (tt := tYes) (by rfl) nd (pi_list (pv 3)) (blkOk_by (own := [("follow", 10)]) (N := ["rooms", "live", "kinds", "room", "number", "found", "places", "later", "at", "key", "follow"]) (sc := defScope s_room_kinds) (by decide +kernel)) (fun _ _ _ _ _ => pg_name (i := 10) nd rfl (Or.inl rfl)) (fun _ _ _ _ _ => pts_nil) (fun _ _ _ _ _ => (pe_ifExp (PW.pt (pw_and (pt_cmpR op_notN (pv 10) pe_non (nomark _)) (pw_and1 (pt_val (pe_ix (ixL_K (K := K) rfl) (pv 1) (pv 10) (fun _ _ => rfl)))))) (pe_ix (ixL_K (K := K) rfl) (pv 2) (pv 10) (fun _ _ => rfl)) (pe_un un_neg pe_int))))))
      (pss_cons (ps_set (i := 9) nd rfl (Or.inl rfl) (pe_ifExp (pt_val (pe_ix ix_list (pv 1) (pv 8) (fun _ _ => rfl))) (pe_callTy cb_tupof rfl B.tuple (by decide +kernel) (pa_cons (pv 9) pa_nil)) (pe_tup (pa_cons (pe_un un_neg pe_int) pa_nil))))
      (pss_cons (ps_if (pt_cmp (pc_dnotin hu (pv 9) (pv 6))) (pss_one (ps_asg (pe_callB call_len_dT rfl B.len (by decide +kernel) (pa_cons (pv 6) pa_nil)) (pg_sub (pv 6) (pv 9) (set_dict hu)))) pss_nil)
      (pss_one (ps_expr (pe_bm PySem.F.plainAttrs_list PySem.F.slot_list_append PySem.F.type_list_append mt_append (pv 7) (pa_cons (pe_dget hu (pv 6) (pv 9) (fun _ _ => rfl)) pa_nil))))))))
      (pss_cons (ps_par (i := 4) (j := 5) rfl nd rfl rfl (by decide) rfl rfl (pa_cons (pv 5) (pa_cons (pe_callB call_len_dT rfl B.len (by decide +kernel) (pa_cons (pv 6) pa_nil)) pa_nil)) rfl)
      (pss_one (ps_set (i := 2) nd rfl (Or.inr rfl) (pv 7))))))))
      (pss_one (ps_ret (pv 2)))))), ?_⟩
  walk_at "s0"
  have ow := Own.start H
  have lv := ra.length
  walk_at "go"
  refine r_lc ?_
  walk_at "go"
  refine c_ilS sq ?_
  refine c_lcJ vs.length (by omega) (fun _ => rfl) (fun D i acc H' => Own H H' [(D, .lst acc)] ∧ acc = nI (List.replicate i 0)) (fun D nD => ⟨ow.new nD, rfl⟩) ?_ ?_ ?_ ?_
  · rintro D i acc H1 ⟨ow, rfl⟩ hi
    exact itl_go (Same.seq ow.toSame_of sq) hi
  · rintro D acc H1 ⟨ow, rfl⟩
    exact itl_stop (Same.seq ow.toSame_of sq)
  · rintro D i acc H1 x H2 R hi la ⟨ow, rfl⟩ ⟨rfl, hy⟩ hR
    walk_at "go"
    refine hR _ _ (ow.get 0 rfl) ⟨ow.put 0 rfl, ?_⟩
    unfold nI
    rw [List.replicate_succ', List.map_append]
    rfl
  rintro D acc H1 nD ⟨ow, rfl⟩ la
  rw [lv] at ow
  walk_at "go"
  refine r_while (fun m σ H' => ∃ (j : Nat) (k : Addr) (u3 u6 u7 u8 u9 : Option V), σ = [some (.ref a), some (.ref l), some (.ref k), u3, some (.int (if j = 0 then 0 else cn T L (j - 1) : Nat)), some (.int (cn T L j : Nat)), u6, u7, u8, u9, none] ∧ Own H H' [(k, .lst (nI (kit T L j)))] ∧ m = T.length + 1 - (if j = 0 then 0 else cn T L (j - 1))) _ ⟨0, D, _, _, _, _, _, rfl, ow.drop, rfl⟩ ?_
  rintro m σ H2 ⟨j, k, u3, u6, u7, u8, u9, rfl, ow, rfl⟩
  have c1 := cn_le (L := L) h0 j
  have c2 : (if j = 0 then 0 else cn T L (j - 1)) ≤ cn T L j := by
    cases j with
    | zero => exact Nat.zero_le _
    | succ j => exact cn_mono h0 j
  have kl := kit_len T L j
  walk_at "go"
  · generalize pL = lt at *
    refine ⟨a, vs, rfl, ow.toSame_of.seq sq, ?_⟩
    refine for_enum (fun i σ' H' => ∃ u3 u8 u9 : Option V, σ' = [some (.ref a), some (.ref l), some (.ref k), u3, some (.int (if j = 0 then 0 else cn T L (j - 1) : Nat)), some (.int (cn T L j : Nat)), some (.ref pD), some (.ref lt), u8, u9, none] ∧ Own H H' [(lt, .lst (nI ((List.range i).map (idK (keyAt T L (kit T L j)))))), (pD, .dT (kvsF 0 (plK (keyAt T L (kit T L j)) i))), (k, .lst (nI (kit T L j)))]) ⟨_, _, _, rfl, ow⟩ (fun i σ' H' hi ⟨u3, u8, u9, e, ow⟩ => ow.toSame_of.seq sq) ?_ ?_
    · rintro i x σ' H3 p hx ⟨u3, u8, u9, rfl, ow⟩ np
      have hi : i < T.length := by rw [← lv]; exact (List.getElem?_eq_some_iff.mp hx).1
      obtain ⟨r, hr⟩ : ∃ r, T[i]? = some r := ⟨T[i], List.getElem?_eq_getElem hi⟩
      have hrT := List.mem_of_getElem? hr
      obtain ⟨v, hv, hra⟩ := ra.at hr
      rw [hx] at hv
      cases hv
      obtain ⟨ar, rfl, srH⟩ := hra
      obtain ⟨b, hb⟩ : ∃ b, L[i]? = some b := ⟨L[i], List.getElem?_eq_getElem (by omega)⟩
      obtain ⟨kk, hkk⟩ : ∃ kk, (kit T L j)[i]? = some kk := ⟨(kit T L j)[i], List.getElem?_eq_getElem (by omega)⟩
      have hkat : atI (nI (kit T L j)) ((i : Nat) : Int) = some (.int kk) := nI_at hkk
      have hbat : atI (L.map V.bl) ((i : Nat) : Int) = some (.bl b) := at_nat rfl (by rw [List.getElem?_map, hb]; rfl)
      have ke : keyAt T L (kit T L j) i = keyOf L (kit T L j) r kk b := by unfold keyAt; rw [hr, hb, hkk]; rfl
      have hrl := hm r hrT
      replace ow := ow.new (o := .tup [.int ((i : Nat) : Int), .ref ar]) np
      walk_at "go"
      dsimp only [List.set_cons_zero, List.set_cons_succ]
      refine r_lc ?_
      walk_at "go"
      refine c_ilS (ow.toSame_of.seq srH) ?_
      refine c_lcJ (r.map vO).length (by rw [List.length_map]; omega) (fun _ => rfl) (fun D' m acc H' => acc = (r.take m).map (fun e => V.int (fK L (kit T L j) e)) ∧ Own H H' [(D', .lst acc), (pL, .lst [.int kk]), (p, .tup [.int ((i : Nat) : Int), .ref ar]), (lt, .lst (nI ((List.range i).map (idK (keyAt T L (kit T L j)))))), (pD, .dT (kvsF 0 (plK (keyAt T L (kit T L j)) i))), (k, .lst (nI (kit T L j)))]) ?_ ?_ ?_ ?_ ?_
      · intro D' nD'
        exact ⟨rfl, ow.new nD'⟩
      · rintro D' m acc H4 ⟨rfl, ow2⟩ hj
        exact itl_go (ow2.toSame_of.seq srH) hj
      · rintro D' acc H4 ⟨rfl, ow2⟩
        exact itl_stop (ow2.toSame_of.seq srH)
      · rintro D' m acc H4 x H5 R hj la' ⟨rfl, ow2⟩ ⟨rfl, hy⟩ hR
        have hx2 := hy _ (ow2.toSame_of.seq srH)
        rw [List.getElem?_map] at hx2
        obtain ⟨e, he, rfl⟩ := Option.map_eq_some_iff.mp hx2
        clear ow
        have ow := ow2
        have fin : ∀ z : Int, z = fK L (kit T L j) e → R (.int z) H5 := fun z hz => by
          subst hz
          refine hR _ _ (ow.get 0 rfl) ⟨?_, ow.put 0 rfl⟩
          rw [List.take_succ, he]
          simp
        cases e with
        | none =>
          show tIf _ _ _ _ _ _
          simp only [vO]
          walk_at "go"
          exact fin _ rfl
        | some n =>
          have hn1 : n < T.length := tin.lt r hrT _ (List.mem_of_getElem? he) n rfl
          have hln : atI (L.map V.bl) (n : Int) = some (.bl L[n]) := at_nat rfl (by rw [List.getElem?_map, List.getElem?_eq_getElem (by omega)]; rfl)
          have hkn : atI (nI (kit T L j)) (n : Int) = some (.int ((kit T L j)[n] : Nat)) := nI_at (List.getElem?_eq_getElem (by omega))
          have f1 : fK L (kit T L j) (some n) = if L[n] = true then (((kit T L j)[n] : Nat) : Int) else -1 := by
            show (if L[n]?.getD false = true then (((kit T L j)[n]?.getD 0 : Nat) : Int) else -1) = _
            rw [List.getElem?_eq_getElem (show n < L.length by omega), List.getElem?_eq_getElem (show n < (kit T L j).length by omega)]
            rfl
          rw [f1] at fin
          show tIf _ _ _ _ _ _
          simp only [vO]
          generalize L[n] = bn at *
          walk_at "go"
          cases bn with
          | true =>
            walk_at "go"
            exact fin _ rfl
          | false =>
            walk_at "go"
            exact fin _ rfl
      · rintro D' acc H4 nD' ⟨rfl, ow2⟩ la'
        rw [List.length_map, List.take_length] at ow2
        clear ow
        have ow := ow2
        refine o_catL ow (ow.get 1 rfl) (ow.get 0 rfl) (by simp; omega) ?_
        intro pC H' np ow
        walk_at "go"
        cases b
        all_goals walk_at "go"
        all_goals (have ek : H' pT = some (.tup ((keyAt T L (kit T L j) i).map V.int)) := (by rw [ow.get 0 rfl, ke]; simp [keyOf]))
        all_goals refine o_dnT (ow.get 6 rfl) ek ?_
        all_goals (generalize hF : keyAt T L (kit T L j) = F at *)
        all_goals (by_cases m : F i ∈ plK F i)
        all_goals first | rw [decide_eq_true m] | rw [decide_eq_false m]
        all_goals walk_at "go"
        all_goals first
          | (have ep : plK F (i + 1) = plK F i := (by rw [plK, insK, if_pos m])
             refine o_dgT (ow.get 6 rfl) ek m ?_
             walk_at "go"
             refine o_app ow (i := 5) rfl (by rw [nI_len]; simp; omega) ?_
             intro H7 ow
             walk_at "ow"
             walk_at "go"
             refine ⟨_, _, _, rfl, ?_⟩
             rw [ep, List.range_succ, List.map_append]
             have ei : idK F i = (plK F i).idxOf (F i) := (by unfold idK; rw [ep])
             have el : nI (List.map (idK F) (List.range i) ++ List.map (idK F) [i]) = nI (List.map (idK F) (List.range i)) ++ [V.int ((plK F i).idxOf (F i) : Nat)] := (by unfold nI; rw [List.map_append]; simp [ei])
             rw [el]
             exact ow.drop.drop.drop.drop.drop)
          | (have ep : plK F (i + 1) = plK F i ++ [F i] := (by rw [plK, insK, if_neg m])
             have h2 := ow.get 0 rfl
             refine o_dsetT ow (i := 6) rfl ek m (by have := plK_le F i; omega) rfl ?_
             intro H7 ow
             walk_at "ow"
             have ek7 := (ow.get 0 rfl).trans (h2.symm.trans ek)
             walk_at "go"
             refine o_dgT (ow.get 6 rfl) ek7 (List.mem_append_right _ (List.mem_singleton.mpr rfl)) ?_
             walk_at "go"
             refine o_app ow (i := 5) rfl (by rw [nI_len]; simp; omega) ?_
             intro H7 ow
             walk_at "ow"
             walk_at "go"
             refine ⟨_, _, _, rfl, ?_⟩
             rw [ep, List.range_succ, List.map_append]
             have ei : idK F i = (plK F i ++ [F i]).idxOf (F i) := (by unfold idK; rw [ep])
             have el : nI (List.map (idK F) (List.range i) ++ List.map (idK F) [i]) = nI (List.map (idK F) (List.range i)) ++ [V.int ((plK F i ++ [F i]).idxOf (F i) : Nat)] := (by unfold nI; rw [List.map_append]; simp [ei])
             rw [el]
             exact ow.drop.drop.drop.drop.drop)
    · rintro σ' H3 ⟨u3, u8, u9, rfl, ow⟩
      walk_at "go"
      have e1 : (if j + 1 = 0 then 0 else cn T L (j + 1 - 1)) = cn T L j := if_neg (by omega)
      have hc2 : cn T L j ≠ (if j = 0 then 0 else cn T L (j - 1)) := fun z => hc (congrArg Int.ofNat z)
      refine ⟨T.length + 1 - cn T L j, by omega, j + 1, lt, u3, some (.ref pD), some (.ref lt), u8, u9, by rw [e1, lv]; rfl, ?_, by rw [e1]⟩
      rw [lv] at ow
      exact Own.one ow
  · cases j with
    | zero => exact absurd hc (by simp [cn])
    | succ j =>
      have e : cn T L (j + 1) = cn T L j := by
        have := hc
        rw [if_neg (by omega)] at this
        have h2 := Int.ofNat.inj this
        exact h2
      exact q j k H2 e (ow.new0 g0) ow.toSame_of (ow.get 0 rfl)
end

/-! the least table -/

/-! dicts from naturals to naturals -/
structure DV (kvs : List (Key × V)) (S : List Nat) (g : Nat → Nat) : Prop where
  len : kvs.length ≤ S.length
  val : ∀ k : Nat, valV kvs (.inl (k : Int)) = if k ∈ S then some (.int (g k : Nat)) else none
theorem DV.nil (g : Nat → Nat) : DV [] [] g := ⟨Nat.le_refl _, fun k => rfl⟩
theorem DV.put {kvs : List (Key × V)} {S : List Nat} {g g' : Nat → Nat} {k v : Nat} (h : DV kvs S g) (n : k ∉ S) (e : g' k = v) (s : ∀ x ∈ S, g' x = g x) : DV (putK kvs (.inl (k : Int)) (.int (v : Nat))) (S ++ [k]) g' := by
  refine ⟨?_, fun x => ?_⟩
  · have := length_putK kvs (.inl (k : Int)) (.int (v : Nat))
    have := h.len
    rw [List.length_append, List.length_singleton]
    omega
  · rw [valV_put, h.val]
    by_cases z : x = k
    · subst z
      rw [if_pos rfl, if_pos (List.mem_append_right _ (List.mem_singleton.mpr rfl)), e]
    · rw [if_neg (show ¬ (Sum.inl (x : Int) : Key) = Sum.inl (k : Int) from fun y => z (Int.ofNat.inj (Sum.inl.inj y)))]
      by_cases m : x ∈ S
      · rw [if_pos m, if_pos (List.mem_append_left _ m), s x m]
      · rw [if_neg m, if_neg (fun y => (List.mem_append.mp y).elim m fun q => z (List.mem_singleton.mp q))]
theorem DV.stay {kvs : List (Key × V)} {S S' : List Nat} {g g' : Nat → Nat} (h : DV kvs S g) (l : S.length ≤ S'.length) (m : ∀ x, x ∈ S' ↔ x ∈ S) (s : ∀ x ∈ S, g' x = g x) : DV kvs S' g' := by
  refine ⟨Nat.le_trans h.len l, fun k => ?_⟩
  rw [h.val]
  by_cases z : k ∈ S
  · rw [if_pos z, if_pos ((m k).mpr z), s k z]
  · rw [if_neg z, if_neg (fun y => z ((m k).mp y))]
section
variable {K : PySem.W.Frag} {F H : Hp} {L : List (Addr × HO)} {a : Addr} {i k v : Nat} {Q : VK} {kvs : List (Key × V)} {S : List Nat} {g : Nat → Nat}
theorem DV.is (d : DV kvs S g) (k : Nat) : (valV kvs (.inl (k : Int))).isSome = decide (k ∈ S) := by
  rw [d.val]
  by_cases m : k ∈ S
  · rw [if_pos m, decide_eq_true m]; rfl
  · rw [if_neg m, decide_eq_false m]; rfl
theorem o_dgV (h : Own F H L) (e : L[i]? = some (a, .dK kvs)) (d : DV kvs S g) (m : k ∈ S) (q : Q (.int (g k : Nat)) H) : cDg Q (.ref a) (.int (k : Nat)) H :=
  o_dg h e (by rw [d.val, if_pos m]) q
/-! tables as data -/
def pO : Option Nat → PyData
  | none => .none
  | some n => .int n
def pR (r : List (Option Nat)) : PyData := .list (r.map pO)
theorem dp_vO : ∀ e : Option Nat, Dp K H (vO e) (pO e)
  | none => .non
  | some n => .int _
theorem dpa_row : ∀ r : List (Option Nat), DpAll K H (r.map vO) (r.map pO)
  | [] => .nil
  | e :: r => .cons (dp_vO e) (dpa_row r)
theorem RoomAt.dp {v : V} {r : List (Option Nat)} (h : RoomAt K H v r) : Dp K H v (pR r) := by
  obtain ⟨b, rfl, s⟩ := h
  exact .lst s (dpa_row r)
theorem RoomsAt.dp : ∀ {vs : List V} {T : Tab}, RoomsAt K H vs T → DpAll K H vs (T.map pR)
  | _, _, .nil => .nil
  | _, _, .cons a b => .cons a.dp b.dp
theorem TabAt.dp {T : Tab} (h : TabAt K H a T) : Dp K H (.ref a) (.list (T.map pR)) := by
  obtain ⟨vs, s, r⟩ := h
  exact .lst s r.dp
theorem lay_row : ∀ r : List (Option Nat), PyData.canLayAll0 (r.map pO) = true
  | [] => rfl
  | none :: r => by
    show (PyData.canLay0 .none && PyData.canLayAll0 (r.map pO)) = true
    rw [lay_row r]; rfl
  | some n :: r => by
    show (PyData.canLay0 (.int n) && PyData.canLayAll0 (r.map pO)) = true
    rw [lay_row r]; rfl
theorem dep_row : ∀ r : List (Option Nat), PyData.depthAll (r.map pO) = 0
  | [] => rfl
  | none :: r => by
    show max (PyData.depth .none) (PyData.depthAll (r.map pO)) = 0
    rw [dep_row r]; rfl
  | some n :: r => by
    show max (PyData.depth (.int n)) (PyData.depthAll (r.map pO)) = 0
    rw [dep_row r]; rfl
theorem lay_tab : ∀ T : Tab, PyData.canLayAll0 (T.map pR) = true
  | [] => rfl
  | r :: T => by
    show (PyData.canLayAll0 (r.map pO) && PyData.canLayAll0 (T.map pR)) = true
    rw [lay_tab T, lay_row r]; rfl
theorem dep_tab : ∀ T : Tab, PyData.depthAll (T.map pR) ≤ 1
  | [] => Nat.zero_le _
  | r :: T => by
    show max (PyData.depthAll (r.map pO) + 1) (PyData.depthAll (T.map pR)) ≤ 1
    have := dep_tab T
    rw [dep_row r]
    omega
theorem sh_tab (T : Tab) : SeqAt.shaped (.list (T.map pR)) = true := by
  have h1 : PyData.canLay0 (.list (T.map pR)) = true := lay_tab T
  have h2 : PyData.depth (.list (T.map pR)) ≤ 64 := by
    show PyData.depthAll (T.map pR) + 1 ≤ 64
    have := dep_tab T
    omega
  unfold SeqAt.shaped
  rw [h1, decide_eq_true h2]
  rfl
theorem o_eqTE {T : Tab} {c : Addr} (t : TabAt K H a T) (e : H c = some (.lst [])) (k : Q (.bl (decide (T = []))) H) : rEqD K (.ref a) (.ref c) H Q := by
  refine ⟨_, .list [], t.dp, .lst (SqL.of e) .nil, sh_tab T, sh_tab [], ?_⟩
  have z : PyData.eqv (.list (T.map pR)) (.list []) = decide (T = []) := by
    cases T with
    | nil => simp [PyData.eqv, PyData.eqvAll]
    | cons n ns => simp [PyData.eqv, PyData.eqvAll]
  rw [z]
  exact k
end
theorem RoomsAt.snoc {K : PySem.W.Frag} {H : Hp} {v : V} {r : List (Option Nat)} (h : RoomAt K H v r) : ∀ {vs : List V} {T : Tab}, RoomsAt K H vs T → RoomsAt K H (vs ++ [v]) (T ++ [r])
  | _, _, .nil => .cons h .nil
  | _, _, .cons a b => .cons a (RoomsAt.snoc h b)
theorem idxOf_at {ks : List Nat} {i n : Nat} (h : ks[i]? = some n) (m : n ∉ ks.take i) : ks.idxOf n = i := by
  obtain ⟨l, e⟩ := List.getElem?_eq_some_iff.mp h
  have e2 : ks = ks.take i ++ n :: ks.drop (i + 1) := by
    rw [← e, ← List.drop_eq_getElem_cons l, List.take_append_drop]
  have e3 : (ks.take i ++ n :: ks.drop (i + 1)).idxOf n = i := by
    rw [List.idxOf_append, if_neg m, List.idxOf_cons_self, List.length_take]
    omega
  rw [← e2] at e3
  exact e3
def sp_least (K : PySem.W.Frag) : Sp := fun vs H Q _ => ∃ (a : Addr) (T : Tab), vs = [.ref a] ∧ TabAt K H a T ∧ TIn T ∧ T.length ≤ 1000 ∧ (∀ r ∈ T, r.length ≤ 1000) ∧
  ∀ (T' : Tab) r H', Least T T' → H r = none → Same H H' → TabAt K (newF H H') r T' → Q (.ref r) H'
section
variable {P : Program} {w : World} {K : PySem.W.Frag} {mg : Str → Option Value} {base : Heap} {f : Addr} {fd : FuncData}
theorem ok_least_table (F : FnP K "least_table" "least_table" s_least_table f fd) (B : Bi mg) (c_live_rooms : Fo P w K mg base CX0 1 "live_rooms" ["rooms"] (sp_live K)) (c_room_kinds : Fo P w K mg base CX0 1 "room_kinds" ["rooms", "live"] (sp_kinds K)) : FnOk P w K mg base CX0 2 f fd ["rooms"] (sp_least K) := by
  refine F.ok sc_least_table (fun vs H Q E h => by walk_at "len") (fun cdv A outer s H vs Q E hr h => ?_)
  have nd := sc_least_table.nd
  obtain ⟨a, T, rfl, ta, tin, hn, hm, q⟩ := h
  have hu : (A.deeper (envOfC ("least_table" : Str) (defScope s_least_table) s.heap.objs.size f cdv)).units + 1 < cLine := by have := hr.un; omega
  refine ⟨_, PSs.nox (pss_cons (ps_set (i := 1) nd rfl (Or.inl rfl) (pe_fo c_live_rooms hr (by decide) (pa_cons (pv 0) pa_nil)))
      (pss_cons (ps_if (PW.pt (pw_or (pt_cmpR (op_eqD hr.units) (pv 0) (pe_lst pa_nil) (nomark _)) (pw_or1 (pt_not (pt_val (pe_ix ix_list (pv 1) pe_int (fun _ _ => rfl))))))) (pss_one (ps_ret (pe_lst pa_nil))) pss_nil)
      (pss_cons (ps_set (i := 2) nd rfl (Or.inl rfl) (pe_fo c_room_kinds hr (by decide) (pa_cons (pv 0) (pa_cons (pv 1) pa_nil))))
      (pss_cons (ps_set (i := 3) nd rfl (Or.inl rfl) pe_dnewK)
      (pss_cons (ps_for PassesOwn.never rfl (pi_enum rfl B.enumerate (pa_cons (pv 2) pa_nil)) (pg_tup rfl (pgs_cons (pg_name (i := 4) nd rfl (.inl rfl)) (pgs_cons (pg_name (i := 5) nd rfl (.inl rfl)) pgs_nil)))
      (pss_one (ps_if (pt_cmp (pc_dnotin hu (pv 5) (pv 3))) (pss_one (ps_asg (pv 4) (pg_sub (pv 3) (pv 5) (set_dict hu)))) pss_nil)))
      (pss_cons (ps_set (i := 6) nd rfl (Or.inl rfl) (pe_disp (pps_cons (pe_ix ix_list (pv 2) pe_int (fun _ _ => rfl)) pe_int pps_nil) rfl rfl (List.cons_ne_nil _ _) (Nat.le_of_ble_eq_true rfl)))
      (pss_cons (ps_set (i := 7) nd rfl (Or.inl rfl) (pe_lst (pa_cons (pe_ix ix_list (pv 2) pe_int (fun _ _ => rfl)) pa_nil)))
      (pss_cons (ps_set (i := 8) nd rfl (Or.inl rfl) (pe_lst pa_nil))
      (pss_cons (ps_while PassesOwn.never (pt_cmpR op_lt (pe_callB cb_len rfl B.len (by decide +kernel) (pa_cons (pv 8) pa_nil)) (pe_callB cb_len rfl B.len (by decide +kernel) (pa_cons (pv 7) pa_nil)) (nomark _)) (pss_cons (ps_set (i := 9) nd rfl (Or.inl rfl) (pe_lst pa_nil))
      (pss_cons (ps_for PassesOwn.never rfl (pi_list (pe_ix ix_list (pv 0) (pe_dget hu (pv 3) (pe_ix ix_list (pv 7) (pe_callB cb_len rfl B.len (by decide +kernel) (pa_cons (pv 8) pa_nil)) (fun _ _ => rfl)) (fun _ _ => rfl)) (fun _ _ => rfl))) (pg_name (i := 10) nd rfl (.inl rfl))
      (pss_cons (ps_set (i := 11) nd rfl (Or.inl rfl) (pe_and (pe_cmpR op_notN (pv 10) pe_non (nomark _)) (pe_one (pe_ix ix_list (pv 1) (pv 10) (fun _ _ => rfl)))))
      (pss_cons (ps_if (PW.pt (pw_and (pt_val (pv 11)) (pw_and1 (pt_cmp (pc_dnotin hu (pe_ix ix_list (pv 2) (pv 10) (fun _ _ => rfl)) (pv 6)))))) (pss_cons (ps_asg (pe_callB cb_len rfl B.len (by decide +kernel) (pa_cons (pv 7) pa_nil)) (pg_sub (pv 6) (pe_ix ix_list (pv 2) (pv 10) (fun _ _ => rfl)) (set_dict hu)))
      (pss_one (ps_expr (pe_bm PySem.F.plainAttrs_list PySem.F.slot_list_append PySem.F.type_list_append mt_append (pv 7) (pa_cons (pe_ix ix_list (pv 2) (pv 10) (fun _ _ => rfl)) pa_nil))))) pss_nil)
      (pss_one (ps_expr (pe_bm PySem.F.plainAttrs_list PySem.F.slot_list_append PySem.F.type_list_append mt_append (pv 9) (pa_cons (pe_ifExp (pt_val (pv 11)) (pe_dget hu (pv 6) (pe_ix ix_list (pv 2) (pv 10) (fun _ _ => rfl)) (fun _ _ => rfl)) pe_non) pa_nil)))))))
      (pss_one (ps_expr (pe_bm PySem.F.plainAttrs_list PySem.F.slot_list_append PySem.F.type_list_append mt_append (pv 8) (pa_cons (pv 9) pa_nil)))))))
      (pss_one (ps_ret (pv 8)))))))))))), ?_⟩
  walk_at "s0"
  walk_at "go"
  refine ⟨a, T, rfl, ta, tin, hn, hm, fun L l H1 ll nl s1 e1 => ?_⟩
  have hL := ll.len
  have ow := Own.start H1
  walk_at "go"
  refine o_eqTE (ta.same (s1.trans ow.toSame_of)) (ow.get 0 rfl) ?_
  by_cases hT : T = []
  · rw [decide_eq_true hT]
    walk_at "go"
    exact q [] _ _ (.inl ⟨rfl, by rw [hT]; exact nil_dead⟩) (same_none s1 (ow.new0 g0)) (s1.trans ow.toSame_of) ⟨[], SqL.of (newF_at (same_none s1 (ow.new0 g0)) (ow.get 0 rfl)), .nil⟩
  rw [decide_eq_false hT]
  have h0 : 0 < T.length := Nat.pos_of_ne_zero fun z => hT (List.length_eq_zero_iff.mp z)
  obtain ⟨b, hb⟩ : ∃ b, L[0]? = some b := ⟨L[0], List.getElem?_eq_getElem (by omega)⟩
  have hl0 : atI (L.map V.bl) 0 = some (.bl b) := at_nat (k := 0) rfl (by rw [List.getElem?_map, hb]; rfl)
  have sl : SqL K H1 l (L.map V.bl) := SqL.of e1
  walk_at "go"
  cases b with
  | false =>
    walk_at "go"
    exact q [] _ _ (.inl ⟨rfl, fun l => by have := (ll.iff 0 h0).mpr l; rw [hb] at this; cases this⟩) (same_none s1 (ow.new0 g0)) (s1.trans ow.toSame_of) ⟨[], SqL.of (newF_at (same_none s1 (ow.new0 g0)) (ow.get 0 rfl)), .nil⟩
  | true =>
    walk_at "go"
    have s1' := s1.trans ow.toSame_of
    refine ⟨a, l, T, L, rfl, ta.same s1', ow.toSame_of.seq sl, hL, tin, h0, hn, hm, fun j k H2 hc0 nK s2 e2 => ?_⟩
    replace s1 := s1'.trans s2
    replace sl := s2.seq (ow.toSame_of.seq sl)
    have ta2 := ta.same s1
    have kl := kit_len T L (j + 1)
    generalize hks : kit T L (j + 1) = ks at *
    have sk : SqL K H2 k (nI ks) := SqL.of e2
    clear ow
    have ow := Own.start H2
    walk_at "go"
    refine ⟨k, nI ks, rfl, ow.toSame_of.seq sk, ?_⟩
    refine for_enum (fun i σ' H' => ∃ (kvs : List (Key × V)) (u4 u5 : Option V), σ' = [some (.ref a), some (.ref l), some (.ref k), some (.ref pD), u4, u5, none, none, none, none, none, none] ∧ DV kvs (ks.take i) (fun x => ks.idxOf x) ∧ Own H2 H' [(pD, .dK kvs)]) ⟨[], _, _, rfl, DV.nil _, ow⟩ (fun i σ' H' hi ⟨kvs, u4, u5, e, dv, ow⟩ => ow.toSame_of.seq sk) ?_ ?_
    · rintro i x σ' H4 p hx ⟨kvs, u4, u5, rfl, dv, ow⟩ np
      have hi : i < ks.length := by rw [← nI_len]; exact (List.getElem?_eq_some_iff.mp hx).1
      obtain ⟨n, hn2⟩ : ∃ n, ks[i]? = some n := ⟨ks[i], List.getElem?_eq_getElem hi⟩
      have hx2 : x = .int (n : Nat) := by
        unfold nI at hx
        rw [List.getElem?_map, hn2] at hx
        exact (Option.some.inj hx).symm
      subst hx2
      have et : ks.take (i + 1) = ks.take i ++ [n] := by rw [List.take_succ, hn2]; rfl
      replace ow := ow.new (o := .tup [.int ((i : Nat) : Int), .int (n : Nat)]) np
      walk_at "go"
      rw [dv.is]
      by_cases m : n ∈ ks.take i
      · rw [decide_eq_true m]
        walk_at "go"
        refine ⟨kvs, _, _, rfl, ?_, ow.drop⟩
        rw [et]
        exact dv.stay (by rw [List.length_append]; omega) (fun x => ⟨fun z => (List.mem_append.mp z).elim id fun y => by rw [List.mem_singleton.mp y]; exact m, fun z => List.mem_append_left _ z⟩) fun x _ => rfl
      · rw [decide_eq_false m]
        walk_at "go"
        have lk := dv.len
        rw [List.length_take] at lk
        refine o_dset ow g1 (by omega) ?_
        intro H5 ow
        walk_at "ow"
        walk_at "go"
        refine ⟨_, _, _, rfl, ?_, ow.drop⟩
        rw [et]
        exact dv.put m (idxOf_at hn2 m) fun x _ => rfl
    · rintro σ' H4 ⟨hv, u4, u5, rfl, dh, ow⟩
      rw [nI_len, List.take_length] at dh
      have hk0 : atI (nI ks) 0 = some (.int (nk ks 0 : Nat)) := nI_at (k := nk ks 0) (i := 0) (by unfold nk; rw [List.getElem?_eq_getElem (show 0 < ks.length by omega)]; rfl)
      intro pP nP
      replace ow := ow.new (o := .dK []) nP
      unfold tPairs
      walk_at "go"
      unfold tPairs
      refine ⟨ow.get 0 rfl, [(.inl (nk ks 0 : Int), .int (0 : Nat))], rfl, Nat.le_of_ble_eq_true rfl, ?_⟩
      have dp : DV (mergeK [] [((.inl (nk ks 0 : Int) : Key), V.int (0 : Nat))]) (nmL T L ks 0) (fun x => (nmL T L ks 0).idxOf x) := (DV.nil (fun _ => 0)).put (List.not_mem_nil) (by simp [nmL]) (fun x hx => absurd hx List.not_mem_nil)
      generalize mergeK [] [((.inl (nk ks 0 : Int) : Key), V.int (0 : Nat))] = pv at *
      replace ow := ow.put 0 rfl (o := .dK pv)
      walk_at "ow"
      walk_at "go"
      rename_i nA _ _ _
      generalize pL = fA at *
      refine r_while (fun m σ H' => ∃ (i : Nat) (F : Hp) (kvs : List (Key × V)) (vs : List V) (u9 u10 u11 : Option V), σ = [some (.ref a), some (.ref l), some (.ref k), some (.ref pD), u4, u5, some (.ref pP), some (.ref nA), some (.ref fA), u9, u10, u11] ∧ Same H2 F ∧
        Own F H' [(fA, .lst vs), (nA, .lst (nI (nmL T L ks i))), (pP, .dK kvs), (pD, .dK hv)] ∧ RoomsAt K (newF H F) vs ((List.range i).map (rmL T L ks)) ∧ DV kvs (nmL T L ks i) (fun x => (nmL T L ks i).idxOf x) ∧ i ≤ (nmL T L ks i).length ∧ (∀ x, x < i → x < (nmL T L ks x).length) ∧ m = T.length + 1 - i) _
        ⟨0, H2, pv, [], _, _, _, rfl, Same.refl H2, ow, .nil, dp, Nat.zero_le _, fun x hx => absurd hx (Nat.not_lt_zero x), rfl⟩ ?_
      rintro m σ H8 ⟨i, F, kvs, vs, u9, u10, u11, rfl, hF, ow, rs, dv, hi, hp, rfl⟩
      have lv : vs.length = i := by rw [rs.length, List.length_map, List.length_range]
      have ok := nmOk (L := L) tin kl h0 i
      have lk := nodup_len ok.nd ok.sub
      have ln := nI_len (nmL T L ks i)
      by_cases hlt : i < (nmL T L ks i).length
      · obtain ⟨N, hN⟩ : ∃ N, N = nmL T L ks i := ⟨_, rfl⟩
        rw [← hN] at ow dv hi hlt ok lk ln
        have hxN : N[i]? = some (nk N i) := by unfold nk; rw [List.getElem?_eq_getElem hlt]; rfl
        obtain ⟨x, hx⟩ : ∃ x, x = nk N i := ⟨_, rfl⟩
        rw [← hx] at hxN
        have hxk : x ∈ ks := ok.sub x (List.mem_of_getElem? hxN)
        have hnat : atI (nI N) (vs.length : Int) = some (.int (x : Nat)) := by rw [lv]; exact nI_at hxN
        have hdv : valV hv (.inl (x : Int)) = some (.int (ks.idxOf x : Nat)) := by rw [dh.val, if_pos hxk]
        have hil := List.idxOf_lt_length_of_mem hxk
        obtain ⟨r, hr⟩ : ∃ r, T[ks.idxOf x]? = some r := ⟨_, List.getElem?_eq_getElem (by omega)⟩
        have hrT := List.mem_of_getElem? hr
        have hrow : hdR T ks x = r := by unfold hdR; rw [hr]; rfl
        obtain ⟨ts, sqT, raT⟩ := ta2.same hF
        obtain ⟨v, hvt, hra⟩ := raT.at hr
        obtain ⟨ar, rfl, srF⟩ := hra
        have htat : atI ts (ks.idxOf x : Nat) = some (.ref ar) := at_nat rfl hvt
        have slF := hF.seq sl
        have skF := hF.seq sk
        walk_at "go"
        generalize pL = rA at *
        refine c_ilS (ow.toSame_of.seq srF) ?_
        have hrl := hm r hrT
        refine for_list (fun c σ' H' => ∃ (kvs : List (Key × V)) (u10 u11 : Option V), σ' = [some (.ref a), some (.ref l), some (.ref k), some (.ref pD), u4, u5, some (.ref pP), some (.ref nA), some (.ref fA), some (.ref rA), u10, u11] ∧
          Own F H' [(rA, .lst (accR L ks N r c)), (fA, .lst vs), (nA, .lst (nI (fN L ks N (r.take c)))), (pP, .dK kvs), (pD, .dK hv)] ∧ DV kvs (fN L ks N (r.take c)) (fun x => (fN L ks N (r.take c)).idxOf x)) ⟨kvs, _, _, rfl, ow, dv⟩ (fun c σ' H' hc ⟨kvs, u10, u11, e, ow, dv⟩ => ow.toSame_of.seq srF) ?_ ?_
        · rintro c y σ' H9 hy ⟨kvs, u10, u11, rfl, ow, dv⟩
          rw [List.getElem?_map] at hy
          obtain ⟨e, he, rfl⟩ := Option.map_eq_some_iff.mp hy
          have heT := List.mem_of_getElem? he
          have hcl : c < r.length := (List.getElem?_eq_some_iff.mp he).1
          have et : r.take (c + 1) = r.take c ++ [e] := by rw [List.take_succ, he]; rfl
          have acs := accR_step (L := L) (ks := ks) (N0 := N) he
          rw [et, fN_snoc, acs]
          have okc : NmOk ks (fN L ks N (r.take c)) := nmOk_fold ok fun d hd n hn => by rw [kl]; exact tin.lt r hrT d (List.mem_of_mem_take hd) n hn
          have lkc := nodup_len okc.nd okc.sub
          have lac : (accR L ks N r c).length = c := by unfold accR; rw [List.length_map, List.length_take]; omega
          generalize fN L ks N (r.take c) = N' at *
          cases e with
          | none =>
            simp only [vO]
            walk_at "go"
            refine o_app ow (i := 0) rfl (by omega) ?_
            intro H10 ow
            walk_at "ow"
            walk_at "go"
            exact ⟨kvs, _, _, rfl, ow, dv⟩
          | some n =>
            have hn1 : n < T.length := tin.lt r hrT _ heT n rfl
            have hln : atI (L.map V.bl) (n : Int) = some (.bl L[n]) := at_nat rfl (by rw [List.getElem?_map, List.getElem?_eq_getElem (by omega)]; rfl)
            have hkn : atI (nI ks) (n : Int) = some (.int (nk ks n : Nat)) := nI_at (by unfold nk; rw [List.getElem?_eq_getElem (show n < ks.length by omega)]; rfl)
            have hgl : L[n]?.getD false = L[n] := by rw [List.getElem?_eq_getElem (show n < L.length by omega)]; rfl
            simp only [vO, addN, eL, hgl]
            generalize L[n] = bn at *
            cases bn with
            | false =>
              simp only [Bool.false_eq_true, false_and, if_false, vO]
              walk_at "go"
              refine o_app ow (i := 0) rfl (by omega) ?_
              intro H10 ow
              walk_at "ow"
              walk_at "go"
              exact ⟨kvs, _, _, rfl, ow, dv⟩
            | true =>
              by_cases m : nk ks n ∈ N'
              · have hval : valV kvs (.inl (nk ks n : Int)) = some (.int (N'.idxOf (nk ks n) : Nat)) := by rw [dv.val, if_pos m]
                simp only [m, not_true_eq_false, and_false, if_false, if_true, vO]
                walk_at "go"
                rw [dv.is, decide_eq_true m]
                walk_at "go"
                refine o_app ow (i := 0) rfl (by omega) ?_
                intro H10 ow
                walk_at "ow"
                walk_at "go"
                exact ⟨kvs, _, _, rfl, ow, dv⟩
              · simp only [m, not_false_eq_true, and_self, if_true, vO]
                walk_at "go"
                rw [dv.is, decide_eq_false m]
                walk_at "go"
                have dl := dv.len
                refine o_dset ow (i := 3) rfl (by omega) ?_
                intro H10 ow
                walk_at "ow"
                have hix : (N' ++ [nk ks n]).idxOf (nk ks n) = (nI N').length := by rw [List.idxOf_append, if_neg m, nI_len, List.idxOf_cons_self, Nat.zero_add]
                have dv2 := dv.put (g' := fun x => (N' ++ [nk ks n]).idxOf x) m hix fun x hx => idx_pre hx
                have hval : valV (putK kvs (.inl (nk ks n : Int)) (.int ((nI N').length : Nat))) (.inl (nk ks n : Int)) = some (.int ((N' ++ [nk ks n]).idxOf (nk ks n) : Nat)) := by rw [dv2.val, if_pos (List.mem_append_right _ (List.mem_singleton.mpr rfl))]
                generalize putK kvs (.inl (nk ks n : Int)) (.int ((nI N').length : Nat)) = kv2 at *
                walk_at "go"
                refine o_app ow (i := 2) rfl (by rw [nI_len]; omega) ?_
                intro H11 ow
                walk_at "ow"
                rw [show nI N' ++ [V.int (nk ks n : Nat)] = nI (N' ++ [nk ks n]) by unfold nI; rw [List.map_append]; rfl] at ow
                walk_at "go"
                refine o_app ow (i := 0) rfl (by omega) ?_
                intro H12 ow
                walk_at "ow"
                walk_at "go"
                exact ⟨kv2, _, _, rfl, ow, dv2⟩
        · rintro σ' H9 ⟨kvs, u10, u11, rfl, ow, dv⟩
          rw [List.length_map, List.take_length] at ow dv
          walk_at "go"
          refine o_app ow (i := 1) rfl (by omega) ?_
          intro H10 ow
          walk_at "ow"
          walk_at "go"
          have en : nmL T L ks (i + 1) = fN L ks N r := by
            show fN L ks (nmL T L ks i) (hdR T ks (nk (nmL T L ks i) i)) = _
            rw [← hN, ← hx, hrow]
          have er : (rmL T L ks i).map vO = accR L ks N r r.length := by
            unfold rmL accR
            rw [en, ← hN, ← hx, hrow, List.take_length, List.map_map]
            rfl
          have nrA := (ow.own 0 rA _ rfl).2
          obtain ⟨fz1, fz2⟩ := ow.frz
          obtain ⟨y, hy⟩ := fN_pre (L := L) (ks := ks) r N
          refine ⟨_, by omega, i + 1, _, kvs, vs ++ [.ref rA], _, _, _, rfl, hF.trans fz2, ?_, ?_, ?_, ?_, ?_, rfl⟩
          · rw [en]
            exact fz1
          · rw [List.range_succ, List.map_append]
            exact RoomsAt.snoc ⟨rA, rfl, by rw [er]; exact SqL.of (newF_at (same_none (s1.trans hF) nrA) upd_same)⟩ (rs.same (newF_mono fz2))
          · rw [en]
            exact dv
          · rw [en, hy, List.length_append]
            omega
          · intro x hx2
            by_cases z : x = i
            · rw [z, ← hN]; exact hlt
            · exact hp x (by omega)
      · walk_at "go"
        refine q _ _ _ (.inr ⟨L, j, i, ll, h0, hb, hc0, ?_⟩) (same_none s1 (same_none hF (ow.new0 g0))) (s1.trans (hF.trans ow.toSame_of)) ⟨vs, SqL.of (newF_at (same_none s1 (same_none hF (ow.new0 g0))) (ow.get 0 rfl)), rs.same (newF_mono ow.toSame_of)⟩
        rw [hks]
        exact ⟨by omega, hp, rfl⟩
end

/-! the constructor of the errors -/

section
variable {P : Program} {w : World} {K : PySem.W.Frag} {mg : Str → Option Value} {base : Heap}
theorem ok_excInit {f : Addr} {fd : FuncData} (F : FnP K "__init__" "BitError.__init__" s_BitError___init__ f fd) : FnOk P w K mg base CX0 1 f fd ["self", "value"] (sp_excInit K) := by
  refine F.ok sc_BitError___init__ (fun vs H Q E h => ?_) (fun cdv A outer s H vs Q E hr h => ?_)
  · obtain ⟨a, C, v, rfl, _⟩ := h
    rfl
  · obtain ⟨a, C, v, rfl, T, nv, ha, k⟩ := h
    refine ⟨_, PSs.nox (pss_one (ps_ost (pv 0) (pv 1))), ?_⟩
    exact ⟨v, rfl, .ref a, rfl, a, C, rfl, T, nv, .inl ⟨ha, fun dx h1 h2 => k dx h1 h2⟩⟩
end

/-! lengths of texts -/
def rLenSt : List V → Hp → VK → Prop := fun xs H Q => ∃ z : Str, xs = [.str z] ∧ z.length ≤ sizeLine ∧ Q (.int z.length) H
theorem cb_lenSt {X : Cx} : CallR X (.builtin "len") rLenSt := call_len_str
theorem r_lenSt {H : Hp} {Q : VK} {z : Str} (h : z.length ≤ 1000) (k : Q (.int z.length) H) : rLenSt [.str z] H Q := ⟨z, rfl, Nat.le_trans h (by decide), k⟩
set_option hygiene false in
local macro_rules | `(tactic| walk_at "r1") => `(tactic| first
  | ((with_reducible refine' Bs.r_lenSt ?p1 ?_); (case p1 => omega)))

/-! letters, rooms as they are given -/


structure TyS (K : PySem.W.Frag) : Prop where
  k : PySem.W.kitOne K (.type "str") (.type "str") = some true
/-- one letter from a to z -/
def isL (x : Str) : Bool := decide (x.length = 1) && ((!decide (x.cps.toList < ("a" : Str).cps.toList)) && !decide (("z" : Str).cps.toList < x.cps.toList))
def sp_letter : Sp := fun vs H Q _ => ∃ x : Str, vs = [.str x] ∧ x.length ≤ 1000 ∧ Q (.bl (isL x)) H
/-- a follow as it is given -/
def vZ : Option Int → V
  | none => .non
  | some i => .int i
def okF (n : Int) : Option Int → Bool
  | none => true
  | some i => decide (0 ≤ i) && decide (i < n)
def okR (m n : Int) (r : List (Option Int)) : Bool := decide ((r.length : Int) = m) && r.all (okF n)
def sp_room (K : PySem.W.Frag) : Sp := fun vs H Q _ => ∃ (a : Addr) (m n : Int) (r : List (Option Int)), vs = [.ref a, .int m, .int n] ∧ SqL K H a (r.map vZ) ∧ r.length ≤ 1000 ∧ ∀ H', Same H H' → Q (.bl (okR m n r)) H'
section
variable {K : PySem.W.Frag} {F H : Hp} {Q : VK} {x : Str} {σ : L2.St}
theorem r_isiS (ty : TyS K) (k : Q (.bl true) H) : rIsi K [.str x, .ty "str"] H Q := ⟨_, _, _, _, true, rfl, .ty _, .base (.str x), ty.k, k⟩
theorem r_chain {r r' : R2} {ta tb tc : TE} (k : ta σ H fun x H1 => tb σ H1 fun y H2 => r x y H2 fun z H3 => ∃ k, z = .bl k ∧ (if k = true then tc σ H3 fun w' H4 => r' y w' H4 Q else Q (.bl false) H3)) : tChain r r' ta tb tc σ H Q := k
end
set_option hygiene false in
local macro_rules | `(tactic| walk_at "r1") => `(tactic| first
  | with_reducible refine Bs.r_chain ?_
  | ((with_reducible refine' Bs.r_isiS ?p1 ?_); (case p1 => assumption)))
section
variable {P : Program} {w : World} {K : PySem.W.Frag} {mg : Str → Option Value} {base : Heap} {f : Addr} {fd : FuncData}
theorem ok_is_letter (F : FnP K "is_letter" "is_letter" s_is_letter f fd) (B : Bi mg) (ty_Str : TyS K) : FnOk P w K mg base CX0 1 f fd ["name"] (sp_letter) := by
  refine F.ok sc_is_letter (fun vs H Q E h => by walk_at "len") (fun cdv A outer s H vs Q E hr h => ?_)
  have nd := sc_is_letter.nd
  obtain ⟨x, rfl, hx, q⟩ := h
  refine ⟨_, PSs.nox (pss_one (ps_ret (pe_and (pe_callB call_isi rfl B.isinstance (by decide +kernel) (pa_cons (pv 0) (pa_cons (pe_bltn (v := .ty "str") rfl B.str (by decide +kernel) rfl) pa_nil))) (pe_and (pe_cmpR op_eq (pe_callB cb_lenSt rfl B.len (by decide +kernel) (pa_cons (pv 0) pa_nil)) pe_int (nomark _)) (pe_one (pe_chain op_le_str op_le_str pe_str (pv 0) pe_str)))))), ?_⟩
  walk_at "s0"
  walk_at "go"
  · have h1 : x.length = 1 := by omega
    refine ⟨_, _, rfl, rfl, _, rfl, ?_⟩
    unfold isL at q
    rw [decide_eq_true h1, Bool.true_and] at q
    by_cases z : x.cps.toList < ("a" : Str).cps.toList
    · rw [decide_eq_true z] at q ⊢
      rw [if_neg (by decide)]
      exact q
    · rw [decide_eq_false z] at q ⊢
      rw [if_pos (by decide)]
      walk_at "go"
      exact ⟨_, _, rfl, rfl, q⟩
  · unfold isL at q
    rw [decide_eq_false (fun z => hc (by omega)), Bool.false_and] at q
    exact q
theorem ok_is_room (F : FnP K "is_room" "is_room" s_is_room f fd) (B : Bi mg)  : FnOk P w K mg base CX0 1 f fd ["room", "letters", "number"] (sp_room K) := by
  refine F.ok sc_is_room (fun vs H Q E h => by walk_at "len") (fun cdv A outer s H vs Q E hr h => ?_)
  have nd := sc_is_room.nd
  obtain ⟨a, m, n, r, rfl, sq, hl, q⟩ := h
  refine ⟨_, PSs.nox (pss_cons (ps_if (pt_cmpR op_ne (pe_callB cb_len rfl B.len (by decide +kernel) (pa_cons (pv 0) pa_nil)) (pv 1) (nomark _)) (pss_one (ps_ret pe_bl)) pss_nil)
      (pss_cons (ps_for PassesOwn.never rfl (pi_list (pv 0)) (pg_name (i := 3) nd rfl (.inl rfl))
      (pss_one (ps_if (PW.pt (pw_and (pt_cmpR op_notN (pv 3) pe_non (nomark _)) (pw_and1 (pt_not (pt_chain op_le op_lt pe_int (pv 3) (pv 2)))))) (pss_one (ps_ret pe_bl)) pss_nil)))
      (pss_one (ps_ret pe_bl)))), ?_⟩
  walk_at "s0"
  have ow := Own.start H
  walk_at "go"
  · rw [show okR m n r = false by unfold okR; rw [decide_eq_false (by rw [List.length_map] at hc; exact hc)]; rfl] at q
    exact q H (Same.refl H)
  · refine c_ilS sq ?_
    rw [List.length_map] at hc
    refine for_list (fun i σ' H' => ∃ u : Option V, σ' = [some (.ref a), some (.int m), some (.int n), u] ∧ Own H H' [] ∧ (r.take i).all (okF n) = true) ⟨_, rfl, ow, rfl⟩ (fun i σ' H' hi ⟨u, e, ow, z⟩ => ow.toSame_of.seq sq) ?_ ?_
    · rintro i x σ' H1 hx ⟨u, rfl, ow, z⟩
      rw [List.getElem?_map] at hx
      obtain ⟨e, he, rfl⟩ := Option.map_eq_some_iff.mp hx
      have et : r.take (i + 1) = r.take i ++ [e] := by rw [List.take_succ, he]; rfl
      have nx : okF n e = true → (r.take (i + 1)).all (okF n) = true := fun y => by rw [et, List.all_append, z]; simp [y]
      have no : okF n e = false → Q (.bl false) H1 := fun y => by
        have : okR m n r = false := by
          unfold okR
          rw [List.all_eq_false.mpr ⟨e, List.mem_of_getElem? he, by rw [y]; decide⟩, Bool.and_false]
        rw [this] at q
        exact q H1 ow.toSame_of
      cases e with
      | none =>
        simp only [vZ]
        walk_at "go"
        exact ⟨ow, nx rfl⟩
      | some k =>
        simp only [vZ]
        walk_at "go"
        · exact no (by unfold okF; dsimp only; rw [decide_eq_false hc, Bool.and_false])
        · exact ⟨ow, nx (by unfold okF; dsimp only; rw [decide_eq_true (by assumption), decide_eq_true hc]; rfl)⟩
        · exact no (by unfold okF; dsimp only; rw [decide_eq_false hc, Bool.false_and])
    · rintro σ' H1 ⟨u, rfl, ow, z⟩
      rw [List.length_map, List.take_length] at z
      walk_at "go"
      rw [show okR m n r = true by unfold okR; rw [decide_eq_true hc, z]; rfl] at q
      exact q H1 ow.toSame_of
end

/-! the look at names -/

theorem pe_gint {X : Cx} {x : Str} {i : Int} {pos : Pos} (c : ∃ t, X.mg x = some (.int i t)) (hg : Gl X x := by rfl) (hd : (x == ("__debug__" : Str)) = false := by decide) : PE X (.Name x pos) (tC (.int i)) := by
  obtain ⟨t, h⟩ := c
  exact pe_glob hg h ⟨t, rfl⟩ hd
theorem mo_lof {K : PySem.W.Frag} {ta : TA} (h : MoA ta) : MoE (tCB (rLof K) ta) := fun σ H Q Q' m q => h σ H _ _ (fun vs H1 ⟨p, ys, e, s, k⟩ => ⟨p, ys, e, s, fun l n => m _ _ (k l n)⟩) q
def ltS (x y : Str) : Bool := decide (x.cps.toList < y.cps.toList)
def okAt (ns : List Str) (i : Nat) : Bool := isL (ns[i]?.getD Str.empty) && (decide (i = 0) || ltS (ns[i - 1]?.getD Str.empty) (ns[i]?.getD Str.empty))
/-- one to three ascending letters -/
def okN (ns : List Str) : Bool := decide (1 ≤ ns.length) && decide (ns.length ≤ 3) && (List.range ns.length).all (okAt ns)
/-- a list or a tuple -/
def SqE (K : PySem.W.Frag) (H : Hp) (a : Addr) (xs : List V) : Prop := SqL K H a xs ∨ SqT K H a xs
theorem SqE.same {K : PySem.W.Frag} {H H' : Hp} {a : Addr} {xs : List V} (h : SqE K H a xs) (s : Same H H') : SqE K H' a xs := h.imp (fun h => s.seq h) fun h => sqT_same s h
/-- a loop over enumerate of either -/
theorem for_enumE {K : PySem.W.Frag} {a : Addr} {xs : List V} {g : TG} {tb : TS} {D : Ends} {σ : L2.St} {H : Hp} (s : SqE K H a xs) (Pv : Nat → L2.St → Hp → Prop) (h0 : Pv 0 σ H) (hl : ∀ i σ H', i ≤ xs.length → Pv i σ H' → Same H H')
    (hs : ∀ i x σ H p, xs[i]? = some x → Pv i σ H → H p = none → g (.ref p) σ (upd H p (.tup [.int (i : Nat), x])) fun σ2 H2 => tb { D with nx := Pv (i + 1), ct := Pv (i + 1), bk := D.nx } σ2 H2) (hd : ∀ σ H, Pv xs.length σ H → D.nx σ H) :
    (SqL K H a xs ∧ ∃ W : Nat → Nat → L2.St → Hp → Prop, (∃ m, W 0 m σ H) ∧ ∀ i m σ H, W i m σ H →
      ((Ite K a).stop i H ∧ D.nx σ H) ∨ ((Ite K a).go i H ∧ ∃ N : L2.St → Hp → Prop, (∀ σ' H', N σ' H' → ∃ m', m' < m ∧ W (i + 1) m' σ' H') ∧ ∀ y H', (Ite K a).yld i H y H' → g y σ H' fun σ2 H2 => tb { D with nx := N, ct := N, bk := D.nx } σ2 H2)) ∨
    (SqT K H a xs ∧ ∃ W : Nat → Nat → L2.St → Hp → Prop, (∃ m, W 0 m σ H) ∧ ∀ i m σ H, W i m σ H →
      ((IteT K a).stop i H ∧ D.nx σ H) ∨ ((IteT K a).go i H ∧ ∃ N : L2.St → Hp → Prop, (∀ σ' H', N σ' H' → ∃ m', m' < m ∧ W (i + 1) m' σ' H') ∧ ∀ y H', (IteT K a).yld i H y H' → g y σ H' fun σ2 H2 => tb { D with nx := N, ct := N, bk := D.nx } σ2 H2)) := by
  rcases s with s | s
  · exact .inl ⟨s, for_enum Pv h0 (fun i σ H' hi p => (hl i σ H' hi p).seq s) hs hd⟩
  · exact .inr ⟨s, for_enumT Pv h0 (fun i σ H' hi p => sqT_same (hl i σ H' hi p) s) hs hd⟩
section
variable {K : PySem.W.Frag} {F H : Hp} {L : List (Addr × HO)} {a : Addr} {xs : List V} {Q : VK} {i : Int} {v : V}
theorem r_enumA {ta : TA} {σ : L2.St} {R : It → Hp → Prop} (k : ta σ H fun vs H1 => ∃ a xs, vs = [.ref a] ∧ ((SqL K H1 a xs ∧ R (Ite K a) H1) ∨ (SqT K H1 a xs ∧ R (IteT K a) H1))) : iEnumA K ta σ H R := k
theorem r_lenE (s : SqE K H a xs) (k : Q (.int xs.length) H) : rLenS K [.ref a] H Q := ⟨a, xs, rfl, s, k⟩
theorem r_ixE (s : SqE K H a xs) (g : atI xs i = some v) (k : Q v H) : rIx K (.ref a) (.int i) H Q := by
  rcases s with s | s
  · exact .inl ⟨a, xs, i, v, rfl, rfl, s, g, k⟩
  · exact .inr (.inl ⟨a, xs, i, v, rfl, rfl, s, g, k⟩)
theorem o_lofE (h : Own F H L) (s : SqE K H a xs) (q : ∀ l H', H l = none → Own F H' ((l, .lst xs) :: L) → Q (.ref l) H') : rLof K [.ref a] H Q := ⟨a, xs, rfl, s, fun l n => q l _ n (h.new n)⟩
end
def sp_names (K : PySem.W.Frag) (I : Addr) : Sp := fun vs H Q E => ∃ (a : Addr) (ns : List Str), vs = [.ref a] ∧ SqE K H a (ns.map V.str) ∧ ns.length ≤ 1000 ∧ (∀ x ∈ ns, x.length ≤ 1000) ∧
  (okN ns = true → ∀ H', Same H H' → Q .non H') ∧ (okN ns = false → ∀ d q H', Same H H' → H d = none → H q = none → H' d = some (.xd [("value", .ref q)]) → H' q = some (.lst (ns.map V.str)) → E (.ref I) (some d) H')
set_option hygiene false in
local macro_rules | `(tactic| walk_at "r1") => `(tactic| first
  | ((with_reducible refine' Bs.o_app ?p1 ?p2 ?p3 ?_); (case p1 => assumption); (case p2 => walk_at "oi"); (case p3 => omega); intro H' ow; walk_at "ow")
  | with_reducible refine Bs.r_enumA ?_
  | ((with_reducible refine' Bs.r_lenE ?p1 ?_); (case p1 => first | assumption | exact Bs.SqE.same (by assumption) (Bs.Own.toSame (by assumption))))
  | ((with_reducible refine' Bs.r_ixE ?p1 ?p2 ?_); (case p1 => first | assumption | exact Bs.SqE.same (by assumption) (Bs.Own.toSame (by assumption))); (case p2 => assumption))
  | ((with_reducible refine' Bs.o_lofE ?p1 ?p2 ?_); (case p1 => assumption); (case p2 => first | assumption | exact Bs.SqE.same (by assumption) (Bs.Own.toSame (by assumption))); intro pL H' np ow))
section
variable {P : Program} {w : World} {K : PySem.W.Frag} {mg : Str → Option Value} {base : Heap} {aInvalidNames f : Addr} {fd : FuncData}
theorem ok_check_names (F : FnP K "check_names" "check_names" s_check_names f fd) (B : Bi mg) (v_MOST_NAMES : ∃ t, mg "MOST_NAMES" = some (.int 3 t)) (x_InvalidNames : Xc P w K mg base "InvalidNames" aInvalidNames) (c_is_letter : Fo P w K mg base CX0 1 "is_letter" ["name"] (sp_letter)) : FnOk P w K mg base (L2.CX P w) 3 f fd ["names"] (sp_names K aInvalidNames) := by
  refine F.ok sc_check_names (fun vs H Q E h => by walk_at "len") (fun cdv A outer s H vs Q E hr h => ?_)
  have nd := sc_check_names.nd
  obtain ⟨a, ns, rfl, sq, hl, hx, q1, q2⟩ := h
  refine ⟨_, pss_cons (ps_if (pt_not (pt_chain op_le op_le pe_int (pe_callB cb_len rfl B.len (by decide +kernel) (pa_cons (pv 0) pa_nil)) (pe_gint v_MOST_NAMES))) (pss_one (ps_rx rfl (takes_of rfl rfl rfl rfl) x_InvalidNames hr (by decide) (pa_cons (pe_callTy cb_listof (by rfl) (by exact B.list) (by decide +kernel) (pa_cons (pv 0) pa_nil)) pa_nil) (mo_cons (mo_lof (mo_cons mo_var mo_nil)) mo_nil))) pss_nil)
      (pss_one (ps_for (passes_of rfl) rfl (pi_enumA rfl B.enumerate (pa_cons (pv 0) pa_nil)) (pg_tup rfl (pgs_cons (pg_name (i := 1) nd rfl (.inl rfl)) (pgs_cons (pg_name (i := 2) nd rfl (.inl rfl)) pgs_nil)))
      (pss_one (ps_if (PW.pt (pw_or (pt_not (pt_val (pe_fo c_is_letter hr (by decide) (pa_cons (pv 2) pa_nil)))) (pw_or1 (PW.pt (pw_and (pt_cmpR op_gt (pv 1) pe_int (nomark _)) (pw_and1 (pt_cmpR op_ge_str (pe_ix ix_seq (pv 0) (pe_op op_sub (pv 1) pe_int) (fun _ _ => rfl)) (pv 2) (nomark _)))))))) (pss_one (ps_rx rfl (takes_of rfl rfl rfl rfl) x_InvalidNames hr (by decide) (pa_cons (pe_callTy cb_listof (by rfl) (by exact B.list) (by decide +kernel) (pa_cons (pv 0) pa_nil)) pa_nil) (mo_cons (mo_lof (mo_cons mo_var mo_nil)) mo_nil))) pss_nil)))), ?_⟩
  walk_at "s0"
  have ow := Own.start H
  have ll : (ns.map V.str).length = ns.length := List.length_map _
  walk_at "go"
  · have e : okN ns = false := by unfold okN; rw [decide_eq_false (show ¬ ns.length ≤ 3 by omega), Bool.and_false, Bool.false_and]
    exact q2 e dX pL H' ow.toSame_of (ow.new0 g0) (ow.new0 g1) (ow.get 0 rfl) (ow.get 1 rfl)
  · refine ⟨a, ns.map V.str, rfl, ?_⟩
    refine for_enumE sq (fun i σ' H' => ∃ u1 u2 : Option V, σ' = [some (.ref a), u1, u2] ∧ Own H H' [] ∧ (List.range i).all (okAt ns) = true) ⟨_, _, rfl, ow, rfl⟩ (fun i σ' H' hi ⟨u1, u2, e, ow, z⟩ => ow.toSame_of) ?_ ?_
    · rintro i x σ' H1 p hx2 ⟨u1, u2, rfl, ow, z⟩ np
      rw [List.getElem?_map] at hx2
      obtain ⟨y, hy, rfl⟩ := Option.map_eq_some_iff.mp hx2
      have hi : i < ns.length := (List.getElem?_eq_some_iff.mp hy).1
      have yl := hx y (List.mem_of_getElem? hy)
      have ne : okAt ns i = false → okN ns = false := fun e => by
        unfold okN
        rw [List.all_eq_false.mpr ⟨i, List.mem_range.mpr hi, by rw [e]; decide⟩, Bool.and_false]
      have nx : okAt ns i = true → (List.range (i + 1)).all (okAt ns) = true := fun e => by
        rw [List.range_succ, List.all_append, z]
        simp [e]
      have ea : okAt ns i = (isL y && (decide (i = 0) || ltS (ns[i - 1]?.getD Str.empty) y)) := by unfold okAt; rw [hy]; rfl
      replace ow := ow.new (o := .tup [.int ((i : Nat) : Int), .str y]) np
      walk_at "go"
      refine ⟨y, rfl, yl, ?_⟩
      cases hb : isL y with
      | false =>
        rw [hb, Bool.false_and] at ea
        walk_at "go"
        exact q2 (ne ea) dX pL _ ow.toSame_of (ow.new0 g0) (ow.new0 g1) (ow.get 0 rfl) (ow.get 1 rfl)
      | true =>
        rw [hb, Bool.true_and] at ea
        by_cases i0 : i = 0
        · rw [decide_eq_true i0, Bool.true_or] at ea
          walk_at "go"
          exact ⟨ow.drop, nx ea⟩
        · rw [decide_eq_false i0, Bool.false_or] at ea
          obtain ⟨v, hv⟩ : ∃ v, ns[i - 1]? = some v := ⟨_, List.getElem?_eq_getElem (by omega)⟩
          have hat : atI (ns.map V.str) ((i : Int) - 1) = some (.str v) := at_nat (k := i - 1) (by omega) (by rw [List.getElem?_map, hv]; rfl)
          rw [hv] at ea
          walk_at "go"
          refine ⟨_, _, rfl, rfl, _, rfl, ?_⟩
          cases hc4 : decide (v.cps.toList < y.cps.toList) with
          | false =>
            walk_at "go"
            exact q2 (ne (by rw [ea]; exact hc4)) dX pL _ ow.toSame_of (ow.new0 g0) (ow.new0 g1) (ow.get 0 rfl) (ow.get 1 rfl)
          | true =>
            walk_at "go"
            exact ⟨ow.drop, nx (by rw [ea]; exact hc4)⟩
    · rintro σ' H1 ⟨u1, u2, rfl, ow, z⟩
      rw [ll] at z
      exact q1 (by unfold okN; rw [z, decide_eq_true (show 1 ≤ ns.length by omega), decide_eq_true (show ns.length ≤ 3 by omega)]; rfl) H1 ow.toSame_of
  · have e : okN ns = false := by unfold okN; rw [decide_eq_false (show ¬ 1 ≤ ns.length by omega), Bool.false_and, Bool.false_and]
    exact q2 e dX pL H' ow.toSame_of (ow.new0 g0) (ow.new0 g1) (ow.get 0 rfl) (ow.get 1 rfl)
end

/-! a making of an object -/
def cMk (C : Addr) (n m : Nat) (sp : Sp) (gV : List V → List V → List V) (Q : VK) (E : XK) (vs zs : List V) (H : Hp) : Prop := vs.length = n ∧ zs.length = m ∧
  ∀ x dx, H x = none → H dx = none → dx ≠ x → sp (gV (.ref x :: vs) zs) (upd (upd H dx (.own x)) x (.ins C dx [])) (fun v H3 => v = .non ∧ Q (.ref x) H3) E

/-! making solutions -/

/-! tables as they are given -/
abbrev Raw := List (List (Option Int))
inductive RawsAt (K : PySem.W.Frag) (H : Hp) : List V → Raw → Prop
  | nil : RawsAt K H [] []
  | cons {b : Addr} {r : List (Option Int)} {vs : List V} {R : Raw} : SqL K H b (r.map vZ) → RawsAt K H vs R → RawsAt K H (.ref b :: vs) (r :: R)
def RawAt (K : PySem.W.Frag) (H : Hp) (a : Addr) (R : Raw) : Prop := ∃ vs, SqL K H a vs ∧ RawsAt K H vs R
def toR (r : List (Option Int)) : List (Option Nat) := r.map fun e => e.map Int.toNat
def toT (R : Raw) : Tab := R.map toR
section
variable {K : PySem.W.Frag} {H H' : Hp} {vs : List V} {R : Raw} {a : Addr} {m n : Int}
theorem RawsAt.same (s : Same H H') : ∀ {vs : List V} {R : Raw}, RawsAt K H vs R → RawsAt K H' vs R
  | _, _, .nil => .nil
  | _, _, .cons a b => .cons (s.seq a) (b.same s)
theorem RawAt.same (h : RawAt K H a R) (s : Same H H') : RawAt K H' a R := by
  obtain ⟨vs, q, r⟩ := h
  exact ⟨vs, s.seq q, r.same s⟩
theorem RawsAt.length : ∀ {vs : List V} {R : Raw}, RawsAt K H vs R → vs.length = R.length
  | _, _, .nil => rfl
  | _, _, .cons _ b => by rw [List.length_cons, List.length_cons, b.length]
theorem RawsAt.at : ∀ {vs : List V} {R : Raw} {i : Nat} {r : List (Option Int)}, RawsAt K H vs R → R[i]? = some r → ∃ b, vs[i]? = some (.ref b) ∧ SqL K H b (r.map vZ)
  | _, _, 0, _, .cons a _, e => by cases e; exact ⟨_, rfl, a⟩
  | _, _, i + 1, _, .cons _ b, e => RawsAt.at (i := i) b e
theorem vZ_ok {e : Option Int} (h : okF n e = true) : vZ e = vO (e.map Int.toNat) := by
  cases e with
  | none => rfl
  | some i =>
    unfold okF at h
    have h1 := of_decide_eq_true (ban h).1
    show V.int i = V.int ((i.toNat : Nat) : Int)
    rw [Int.toNat_of_nonneg h1]
theorem toR_ok {r : List (Option Int)} (h : okR m n r = true) : r.map vZ = (toR r).map vO := by
  unfold toR
  rw [List.map_map]
  exact List.map_congr_left fun e he => vZ_ok (List.all_eq_true.mp (ban h).2 e he)
theorem RawsAt.rooms : ∀ {vs : List V} {R : Raw}, RawsAt K H vs R → (∀ r ∈ R, okR m n r = true) → RoomsAt K H vs (toT R)
  | _, _, .nil, _ => .nil
  | _, _, .cons a b, h => .cons ⟨_, rfl, by rw [← toR_ok (h _ List.mem_cons_self)]; exact a⟩ (b.rooms fun r hr => h r (List.mem_cons_of_mem _ hr))
theorem RawAt.tab (t : RawAt K H a R) (h : ∀ r ∈ R, okR m n r = true) : TabAt K H a (toT R) := by
  obtain ⟨vs, q, r⟩ := t
  exact ⟨vs, q, r.rooms h⟩
theorem toT_len (R : Raw) : (toT R).length = R.length := List.length_map _
theorem toR_len (r : List (Option Int)) : (toR r).length = r.length := List.length_map _
theorem toT_in (h : ∀ r ∈ R, okR m (R.length : Nat) r = true) : TIn (toT R) := by
  refine ⟨fun r hr e he k hk => ?_⟩
  subst hk
  unfold toT at hr
  obtain ⟨s, hs, rfl⟩ := List.mem_map.mp hr
  unfold toR at he
  obtain ⟨d, hd, ed⟩ := List.mem_map.mp he
  obtain ⟨i, rfl, rfl⟩ := Option.map_eq_some_iff.mp ed
  have o := List.all_eq_true.mp (ban (h s hs)).2 _ hd
  unfold okF at o
  have h1 := of_decide_eq_true (ban o).1
  have h2 := of_decide_eq_true (ban o).2
  rw [toT_len]
  omega
theorem toT_rows (h : ∀ r ∈ R, okR m n r = true) : ∀ r ∈ toT R, (r.length : Int) = m := by
  intro r hr
  unfold toT at hr
  obtain ⟨s, hs, rfl⟩ := List.mem_map.mp hr
  rw [toR_len]
  exact of_decide_eq_true (ban (h s hs)).1
end
theorem SqL.minus {K : PySem.W.Frag} {H : Hp} {a p C dx : Addr} {xs : List V} {fs : List (Str × V)} (h : SqL K H a xs) (e : H p = some (.ins C dx fs)) : SqL K (fun c => if c = p then none else H c) a xs := by
  have ne : ∀ o, H a = some o → (∀ C dx fs, o ≠ .ins C dx fs) → (if a = p then none else H a) = some o := fun o h1 h2 => by
    rw [if_neg (fun z => h2 C dx fs (by rw [z, e] at h1; exact (Option.some.inj h1).symm))]
    exact h1
  rcases h with (h | ⟨o, h⟩) | h
  · exact .inl (.inl (ne _ h (fun _ _ _ z => by cases z)))
  · exact .inl (.inr ⟨o, ne _ h (fun _ _ _ z => by cases z)⟩)
  · exact .inr h
theorem SqT.minus {K : PySem.W.Frag} {H : Hp} {a p C dx : Addr} {xs : List V} {fs : List (Str × V)} (h : SqT K H a xs) (e : H p = some (.ins C dx fs)) : SqT K (fun c => if c = p then none else H c) a xs := by
  have ne : ∀ o, H a = some o → (∀ C dx fs, o ≠ .ins C dx fs) → (if a = p then none else H a) = some o := fun o h1 h2 => by
    rw [if_neg (fun z => h2 C dx fs (by rw [z, e] at h1; exact (Option.some.inj h1).symm))]
    exact h1
  rcases h with (h | ⟨o, h⟩) | h
  · exact .inl (.inl (ne _ h (fun _ _ _ z => by cases z)))
  · exact .inl (.inr ⟨o, ne _ h (fun _ _ _ z => by cases z)⟩)
  · exact .inr h
theorem SqE.minus {K : PySem.W.Frag} {H : Hp} {a p C dx : Addr} {xs : List V} {fs : List (Str × V)} (h : SqE K H a xs) (e : H p = some (.ins C dx fs)) : SqE K (fun c => if c = p then none else H c) a xs := h.imp (fun h => Bs.SqL.minus h e) fun h => Bs.SqT.minus h e
/-- a tuple, or else a list -/
def SqB (K : PySem.W.Frag) (H : Hp) (a : Addr) (isT : Bool) (xs : List V) : Prop := if isT = true then SqT K H a xs else SqL K H a xs
theorem SqB.e {K : PySem.W.Frag} {H : Hp} {a : Addr} {isT : Bool} {xs : List V} (h : SqB K H a isT xs) : SqE K H a xs := by
  cases isT with
  | true => exact .inr h
  | false => exact .inl h
theorem SqB.same {K : PySem.W.Frag} {H H' : Hp} {a : Addr} {isT : Bool} {xs : List V} (h : SqB K H a isT xs) (s : Same H H') : SqB K H' a isT xs := by
  cases isT with
  | true => exact sqT_same s h
  | false => exact s.seq h
theorem SqB.minus {K : PySem.W.Frag} {H : Hp} {a p C dx : Addr} {isT : Bool} {xs : List V} {fs : List (Str × V)} (h : SqB K H a isT xs) (e : H p = some (.ins C dx fs)) : SqB K (fun c => if c = p then none else H c) a isT xs := by
  cases isT with
  | true => exact Bs.SqT.minus h e
  | false => exact Bs.SqL.minus h e
/-- tuple(x) of either: a tuple that stands still -/
theorem c_tupB {K : PySem.W.Frag} {F H : Hp} {L : List (Addr × HO)} {a : Addr} {isT : Bool} {xs : List V} {Q : VK} (h : Own F H L) (s : SqB K F a isT xs) (q : ∀ t F' H', Own F' H' L → Same F F' → SqT K F' t xs → (if isT = true then t = a else H t = none ∧ F' t = some (.tup xs)) → Q (.ref t) H') : rTupOf K [.ref a] H Q := by
  cases isT with
  | false =>
    have s : SqL K F a xs := s
    refine ⟨a, xs, rfl, .inl ⟨h.toSame.seq s, fun l n => ?_⟩⟩
    have o := h.new (o := .tup xs) n
    exact q l _ _ o.frz.1 o.frz.2 (SqT.of upd_same) ⟨n, upd_same⟩
  | true =>
    have s : SqT K F a xs := s
    exact ⟨a, xs, rfl, .inr ⟨sqT_same h.toSame s, q a F H h (Same.refl F) s rfl⟩⟩
theorem RawsAt.minus {K : PySem.W.Frag} {H : Hp} {p C dx : Addr} {fs : List (Str × V)} (e : H p = some (.ins C dx fs)) : ∀ {vs : List V} {R : Raw}, RawsAt K H vs R → RawsAt K (fun c => if c = p then none else H c) vs R
  | _, _, .nil => .nil
  | _, _, .cons a b => .cons (Bs.SqL.minus a e) (b.minus e)
theorem RoomsAt.minus {K : PySem.W.Frag} {H : Hp} {p C dx : Addr} {fs : List (Str × V)} (e : H p = some (.ins C dx fs)) : ∀ {vs : List V} {T : Tab}, RoomsAt K H vs T → RoomsAt K (fun c => if c = p then none else H c) vs T
  | _, _, .nil => .nil
  | _, _, .cons ⟨a, e1, s⟩ b => .cons ⟨a, e1, Bs.SqL.minus s e⟩ (b.minus e)
theorem sk_ne : ¬ (("kept_names" : Str) = "rooms") := by decide +kernel
theorem put_sol (x y : V) : putF "rooms" y (putF "kept_names" x []) = [(("kept_names" : Str), x), ("rooms", y)] := by
  have e1 : putF "kept_names" x [] = [(("kept_names" : Str), x)] := rfl
  rw [e1]
  show (if ("kept_names" : Str) = "rooms" then [(("kept_names" : Str), y)] else (("kept_names" : Str), x) :: putF "rooms" y []) = _
  rw [if_neg sk_ne]
  rfl
/-- the fields of solutions -/
abbrev sfl (x y : V) : List (Str × V) := [("kept_names", x), ("rooms", y)]
def two (n : Nat) : Int := 2 ^ n
def sp_Sol_init (K : PySem.W.Frag) (C IN IT : Addr) : Sp := fun vs H Q E => ∃ (p dx a b : Addr) (isT : Bool) (ns : List Str) (R : Raw), vs = [.ref p, .ref a, .ref b] ∧ H p = some (.ins C dx []) ∧ SqB K H a isT (ns.map V.str) ∧ ns.length ≤ 1000 ∧ (∀ x ∈ ns, x.length ≤ 1000) ∧
  RawAt K H b R ∧ R.length ≤ 1000 ∧ (∀ r ∈ R, r.length ≤ 1000) ∧
  (okN ns = false → ∀ d q H', Same H H' → H d = none → H q = none → H' d = some (.xd [("value", .ref q)]) → H' q = some (.lst (ns.map V.str)) → E (.ref IN) (some d) H') ∧
  (okN ns = true → ∀ (i : Nat) r, R[i]? = some r → okR (two ns.length) (R.length : Nat) r = false → (∀ j r, j < i → R[j]? = some r → okR (two ns.length) (R.length : Nat) r = true) → ∀ d H', Same H H' → H d = none → H' d = some (.xd [("value", .int (i : Nat))]) → E (.ref IT) (some d) H') ∧
  (okN ns = true → (∀ r ∈ R, okR (two ns.length) (R.length : Nat) r = true) → ∀ T' t r H', IsLeast (2 ^ ns.length) (toT R) T' → T'.length ≤ R.length → H r = none → Mut p (.ins C dx (sfl (.ref t) (.ref r))) H H' → (if isT = true then t = a else H t = none ∧ H' t = some (.tup (ns.map V.str))) → TabAt K (newF H H') r T' → Q .non H')
section
variable {P : Program} {w : World} {K : PySem.W.Frag} {mg : Str → Option Value} {base : Heap} {CS aInvalidNames aInvalidTable f : Addr} {fd : FuncData}
theorem ok_Solutions___init__ (F : FnP K "__init__" "Solutions.__init__" s_Solutions___init__ f fd) (B : Bi mg) (c_check_names : Fo P w K mg base (L2.CX P w) 3 "check_names" ["names"] (sp_names K aInvalidNames)) (c_is_room : Fo P w K mg base CX0 1 "is_room" ["room", "letters", "number"] (sp_room K)) (x_InvalidTable : Xc P w K mg base "InvalidTable" aInvalidTable) (c_least_table : Fo P w K mg base CX0 2 "least_table" ["rooms"] (sp_least K)) (clS : Cls K CS) (nSn : NoAttr K CS "kept_names") (nSr : NoAttr K CS "rooms") : FnOk P w K mg base (L2.CX P w) 6 f fd ["self", "names", "table"] (sp_Sol_init K CS aInvalidNames aInvalidTable) := by
  refine F.ok sc_Solutions___init__ (fun vs H Q E h => by walk_at "len") (fun cdv A outer s H vs Q E hr h => ?_)
  have nd := sc_Solutions___init__.nd
  obtain ⟨p, dx, a, b, isT, ns, R, rfl, ep, sqb, hl, hx, ⟨vs, sb, ra⟩, hR, hr2, q1, q2, q3⟩ := h
  have sq := sqb.e
  refine ⟨_, pss_cons (ps_expr (pe_fx c_check_names hr (by decide) (fun σ => passAt (takes_of rfl rfl rfl rfl) σ) (pa_cons (pv 1) pa_nil)))
      (pss_cons (ps_for (passes_of rfl) rfl (pi_enum rfl B.enumerate (pa_cons (pv 2) pa_nil)) (pg_tup rfl (pgs_cons (pg_name (i := 3) nd rfl (.inl rfl)) (pgs_cons (pg_name (i := 4) nd rfl (.inl rfl)) pgs_nil)))
      (pss_one (ps_if (pt_not (pt_val (pe_fo c_is_room hr (by decide) (pa_cons (pv 4) (pa_cons (pe_op op_shlW pe_int (pe_callB cb_len rfl B.len (by decide +kernel) (pa_cons (pv 1) pa_nil))) (pa_cons (pe_callB cb_len rfl B.len (by decide +kernel) (pa_cons (pv 2) pa_nil)) pa_nil)))))) (pss_one (ps_rx rfl (takes_of rfl rfl rfl rfl) x_InvalidTable hr (by decide) (pa_cons (pv 3) pa_nil) (mo_cons mo_var mo_nil))) pss_nil)))
      (pss_cons (ps_fld (pv 0) (pe_callTy cb_tupof rfl B.tuple (by decide +kernel) (pa_cons (pv 1) pa_nil)) rfl)
      (pss_one (ps_fld (pv 0) (pe_fo c_least_table hr (by decide) (pa_cons (pv 2) pa_nil)) rfl)))), ?_⟩
  walk_at "s0"
  walk_at "go"
  refine ⟨a, ns, rfl, sq, hl, hx, fun ok H1 s1 => ?_, fun no d q H1 s1 nd nq e1 e2 => q1 no d q H1 s1 nd nq e1 e2⟩
  have l3 : ns.length ≤ 3 := of_decide_eq_true (ban (ban ok).1).2
  walk_at "go"
  refine ⟨b, vs, rfl, s1.seq sb, ?_⟩
  have lv := ra.length
  have ln : (ns.map V.str).length = ns.length := List.length_map _
  refine for_enum (fun i σ' H' => ∃ u3 u4 : Option V, σ' = [some (.ref p), some (.ref a), some (.ref b), u3, u4] ∧ Same H H' ∧ ∀ j r, j < i → R[j]? = some r → okR (two ns.length) (R.length : Nat) r = true) ⟨_, _, rfl, s1, fun j r hj => absurd hj (Nat.not_lt_zero j)⟩ (fun i σ' H' hi ⟨u3, u4, e, s, z⟩ => s.seq sb) ?_ ?_
  · rintro i x σ' H2 c hx2 ⟨u3, u4, rfl, s2, z⟩ nc
    have hi : i < R.length := by rw [← lv]; exact (List.getElem?_eq_some_iff.mp hx2).1
    obtain ⟨r, hr⟩ : ∃ r, R[i]? = some r := ⟨_, List.getElem?_eq_getElem hi⟩
    obtain ⟨rb, hvb, srH⟩ := ra.at hr
    rw [hx2] at hvb
    cases hvb
    have ow := (Own.start H2).new (o := .tup [.int ((i : Nat) : Int), .ref rb]) nc
    have sq2 := sq.same s2
    have sb2 := s2.seq sb
    walk_at "go"
    have em : (1 : Int) * 2 ^ ((List.map V.str ns).length : Int).toNat = two ns.length := by rw [ln, Int.one_mul]; rfl
    rw [em, lv]
    refine ⟨rb, two ns.length, (R.length : Nat), r, rfl, ow.toSame_of.seq (s2.seq srH), hr2 r (List.mem_of_getElem? hr), fun H3 s3 => ?_⟩
    replace ow := ow.same s3
    cases hb : okR (two ns.length) (R.length : Nat) r with
    | false =>
      walk_at "go"
      exact q2 ok i r hr hb z dX _ (s2.trans ow.toSame_of) (same_none s2 (ow.new0 g0)) (ow.get 0 rfl)
    | true =>
      walk_at "go"
      refine ⟨s2.trans ow.toSame_of, fun j r' hj hr' => ?_⟩
      by_cases y : j = i
      · rw [y, hr] at hr'
        cases hr'
        exact hb
      · exact z j r' (by omega) hr'
  · rintro σ' H2 ⟨u3, u4, rfl, s2, z⟩
    have ow := (Own.take1 (s2 _ _ ep))
    have ep2 := s2 _ _ ep
    have sqF := Bs.SqB.minus (sqb.same s2) ep2
    have sbF := Bs.SqL.minus (s2.seq sb) ep2
    have raF := (ra.same s2).minus ep2
    have all : ∀ r ∈ R, okR (two ns.length) (R.length : Nat) r = true := fun r hr => by
      obtain ⟨i, hi, rfl⟩ := List.mem_iff_getElem.mp hr
      exact z i _ (by omega) (List.getElem?_eq_getElem hi)
    have rw2 : ∀ r ∈ toT R, r.length = 2 ^ ns.length := fun r hr => by
      have := toT_rows all r hr
      unfold two at this
      have e : ((2 ^ ns.length : Nat) : Int) = 2 ^ ns.length := by simp
      omega
    obtain ⟨F0, hF0⟩ : ∃ F0 : Hp, F0 = fun c => if c = p then none else H2 c := ⟨_, rfl⟩
    rw [← hF0] at ow sqF sbF raF
    have h3 : ∀ c o, c ≠ p → H c = some o → F0 c = some o := fun c o nc e => by rw [hF0]; show (if c = p then none else H2 c) = some o; rw [if_neg nc]; exact s2 _ _ e
    walk_at "go"
    refine c_tupB ow sqF ?_
    intro t F1 H3 ow fs st tn
    walk_at "go"
    have kp : ∀ c o, c ≠ p → H c = some o → F1 c = some o := fun c o nc e => fs _ _ (h3 c o nc e)
    refine ⟨b, toT R, rfl, ⟨vs, ow.toSame.seq (fs.seq sbF), ((raF.same fs).rooms all).same ow.toSame⟩, toT_in all, by rw [toT_len]; exact hR, fun r hr => ?_, fun T' r H4 le nr s3 tab => ?_⟩
    · unfold toT at hr
      obtain ⟨s, hs, rfl⟩ := List.mem_map.mp hr
      rw [toR_len]
      exact hr2 s hs
    · have ep0 := ow.get 0 rfl
      have ow2 := ow.same s3
      have ep3 := ow2.get 0 rfl
      have kp0 : ∀ c o, c ≠ p → H c = some o → H' c = some o := fun c o nc e => ow.sub _ _ (kp c o nc e)
      have up : ∀ c, H' c = none → H c = none := fun c n => by
        cases z : H c with
        | none => rfl
        | some u =>
          by_cases y : c = p
          · rw [y, ep0] at n; cases n
          · rw [kp0 c u y z] at n; cases n
      have nn : ∀ c o, newF H' H4 c = some o → H c = none ∧ c ≠ p ∧ H4 c = some o := fun c o e => by
        unfold newF at e
        split at e
        · cases e
        · rename_i n1
          have n1' : H' c = none := by
            cases z : H' c with
            | none => rfl
            | some u => rw [z] at n1; exact absurd rfl n1
          exact ⟨up c n1', (fun z => by rw [z, ep0] at n1'; cases n1'), e⟩
      clear ow
      have ow := Own.take1 ep3
      walk_at "go"
      rw [put_sol] at ow
      have mt := ow.mut_of g0
      refine q3 ok all T' t r _ (le.is (toT_in all) rw2) (by rw [← toT_len]; exact le.len (toT_in all)) (up r nr) ⟨mt.here, fun c o nc e => mt.keep c o nc (s3 _ _ (kp0 c o nc e))⟩ ?_ (tab.same fun c o e => ?_)
      · cases isT with
        | true => exact tn
        | false =>
          obtain ⟨t1, t2⟩ := tn
          have e1 := ow2.sub _ _ t2
          have np : t ≠ p := fun z => by rw [z, ep3] at e1; cases e1
          exact ⟨same_none s2 t1, mt.keep _ _ np e1⟩
      · obtain ⟨n1, n2, n3⟩ := nn c o e
        exact newF_at n1 (mt.keep _ _ n2 n3)
end

/-! the call that makes solutions -/
/-- an own class whose constructor may raise -/
structure ClX (P : Program) (w : World) (K : PySem.W.Frag) (mg : Str → Option Value) (base : Heap) (x : Str) (C : Addr) (k : Nat) (ps : List Str) (sp : Sp) : Prop where
  gC : mg x = some (.ref C)
  ex : ∃ (f : Addr) (fd : FuncData), Mk K C f ∧ FnOk P w K mg base (L2.CX P w) k f fd ps sp ∧ Cb K fd ps ps.length [] gPos
section
variable {X : Cx} {x : Str} {C : Addr} {j k : Nat} {ps : List Str} {sp : Sp} {p pos : Pos} {e : Expr} {es : List Expr} {ta : TA} {n : Str} {E : L2.St → XK}
theorem pe_mkCX (c : ClX X.prog X.w X.K X.mg X.base x C k (n :: ps) sp) (hr : Room j X.A) (hj : k + 1 ≤ j) (hx : ∀ σ, PassesAt (L2.CX X.prog X.w) X σ (E σ)) (ha : PA X (e :: es) ta) (hg : Gl X x := by rfl)
    (hall : (backToKw pos (keywordEach [] X.env)).all (·.1.isSome) = true := by rfl) (hks : (backToKw pos (keywordEach [] X.env)).filterMap (·.1) = [] := by rfl)
    (hdb : (x == ("__debug__" : Str)) = false := by decide) (he : starEach (e :: es) X.env = (false, eval e X.env) :: starEach es X.env := by rfl)
    (hpl : ((backTo pos (starEach (e :: es) X.env)).any (·.1) || (backToKw pos (keywordEach [] X.env)).any (·.1.isNone)) = false := by rfl) :
    PE X (.Call (.Name x p) (e :: es) [] pos) (tMkS C ps.length 0 sp gPos E ta tNil) := by
  obtain ⟨f, fd, M, F, b⟩ := c.ex
  exact pe_mkS (n := ps.length) M F (hr.mono hj) c.gC b hx ha pk_nil hg hall hks hdb he hpl
end
theorem clX_of {P : Program} {w : World} {K : PySem.W.Frag} {h base : Heap} {mg : Str → Option Value} {x : Str} {k : Nat} {fd : FuncData} {ps : List Str} {sp : Sp} (X : K.In h) (G : h.Ns mainGlobals mg) (g : qGlo x K = true) (m : qMkr x K = true)
    (ok : FnOk P w K mg base (L2.CX P w) k (He.ma K (He.ga K x) "__init__") fd ps sp) (b : Binds K fd ps []) : ClX P w K mg base x (He.ga K x) k ps sp := ⟨He.glo_ok X G g, _, fd, He.mkr_ok m, ok, cb_pos b⟩
theorem r_mkS2 {C : Addr} {n m : Nat} {sp : Sp} {gV : List V → List V → List V} {E : L2.St → XK} {t : TA} {σ : L2.St} {H : Hp} {Q : VK} (k : t σ H fun vs H1 => cMk C n m sp gV Q (E σ) vs [] H1) : tMkS C n m sp gV E t tNil σ H Q := k
theorem cMk_S {K : PySem.W.Frag} {C IN IT a b : Addr} {ns : List Str} {R : Raw} {Q : VK} {E : XK} {H : Hp} {isT : Bool} (sq : SqB K H a isT (ns.map V.str)) (hl : ns.length ≤ 1000) (hx : ∀ x ∈ ns, x.length ≤ 1000) (ra : RawAt K H b R) (hR : R.length ≤ 1000) (hr : ∀ r ∈ R, r.length ≤ 1000)
    (k1 : okN ns = false → ∀ d q H', Same H H' → H d = none → H q = none → H' d = some (.xd [("value", .ref q)]) → H' q = some (.lst (ns.map V.str)) → E (.ref IN) (some d) H')
    (k2 : okN ns = true → ∀ (i : Nat) r, R[i]? = some r → okR (two ns.length) (R.length : Nat) r = false → (∀ j r, j < i → R[j]? = some r → okR (two ns.length) (R.length : Nat) r = true) → ∀ d H', Same H H' → H d = none → H' d = some (.xd [("value", .int (i : Nat))]) → E (.ref IT) (some d) H')
    (k3 : okN ns = true → (∀ r ∈ R, okR (two ns.length) (R.length : Nat) r = true) → ∀ T' p dS t r H', IsLeast (2 ^ ns.length) (toT R) T' → T'.length ≤ R.length → H p = none → H r = none → Same H H' → H' p = some (.ins C dS (sfl (.ref t) (.ref r))) → (if isT = true then t = a else H t = none ∧ H' t = some (.tup (ns.map V.str))) → TabAt K (newF H H') r T' → Q (.ref p) H') :
    cMk C 2 0 (sp_Sol_init K C IN IT) gPos Q E [.ref a, .ref b] [] H := by
  refine ⟨rfl, rfl, fun x dx n1 n2 ne => ?_⟩
  have s1 : Same H (upd (upd H dx (.own x)) x (.ins C dx [])) := fun c o e => by rw [upd_ne (ne_of_none e n1), upd_ne (ne_of_none e n2)]; exact e
  exact ⟨x, dx, a, b, isT, ns, R, rfl, upd_same, sq.same s1, hl, hx, ra.same s1, hR, hr, fun n d q H' s nd nq e1 e2 => k1 n d q H' (s1.trans s) (same_none s1 nd) (same_none s1 nq) e1 e2,
    fun o i r h1 h2 h3 d H' s nd e => k2 o i r h1 h2 h3 d H' (s1.trans s) (same_none s1 nd) e,
    fun o al T' t r H' le ll nr m st tt => ⟨rfl, k3 o al T' x dx t r H' le ll n1 (same_none s1 nr) (fun c o e => m.keep c o (ne_of_none e n1) (s1 c o e)) m.here (by
      cases isT with
      | true => exact st
      | false => exact ⟨same_none s1 st.1, st.2⟩) (tt.same (newF_pre s1))⟩⟩
set_option hygiene false in
local macro_rules | `(tactic| walk_at "r1") => `(tactic| first
  | with_reducible refine Bs.r_mkS2 ?_)

/-! plain: states reached by letters, numbered as they are reached first -/
abbrev Sta := List Int
def addS (N : List Sta) : Option Sta → List Sta
  | none => N
  | some s => insK N s
def numS (N : List Sta) : Option Sta → Option Nat
  | none => none
  | some s => some (N.idxOf s)
def foldS (N : List Sta) (r : List (Option Sta)) : List Sta := r.foldl addS N
section
variable {N : List Sta} {s : Sta} {e : Option Sta} {r : List (Option Sta)}
theorem addS_pre (N : List Sta) (e : Option Sta) : ∃ x, addS N e = N ++ x := by
  cases e with
  | none => exact ⟨[], (List.append_nil _).symm⟩
  | some s =>
    unfold addS insK
    dsimp only
    split
    · exact ⟨[], (List.append_nil _).symm⟩
    · exact ⟨_, rfl⟩
theorem foldS_pre : ∀ (r : List (Option Sta)) (N : List Sta), ∃ x, foldS N r = N ++ x
  | [], N => ⟨[], (List.append_nil _).symm⟩
  | e :: r, N => by
    obtain ⟨x, hx⟩ := addS_pre N e
    obtain ⟨y, hy⟩ := foldS_pre r (addS N e)
    refine ⟨x ++ y, ?_⟩
    show foldS (addS N e) r = _
    rw [hy, hx, List.append_assoc]
theorem foldS_snoc (N : List Sta) (r : List (Option Sta)) (e : Option Sta) : foldS N (r ++ [e]) = addS (foldS N r) e := by
  unfold foldS
  rw [List.foldl_append]
  rfl
theorem mem_addS : s ∈ addS N e ↔ s ∈ N ∨ e = some s := by
  cases e with
  | none => simp [addS]
  | some d =>
    show s ∈ insK N d ↔ _
    rw [mem_insK]
    exact ⟨fun h => h.imp id fun h => by rw [h], fun h => h.imp id fun h => (Option.some.inj h).symm⟩
theorem mem_foldS : ∀ {r : List (Option Sta)} {N : List Sta}, s ∈ foldS N r ↔ s ∈ N ∨ some s ∈ r
  | [], N => by simp [foldS]
  | e :: r, N => by
    show s ∈ foldS (addS N e) r ↔ _
    rw [mem_foldS, mem_addS, List.mem_cons, or_assoc]
    exact ⟨fun h => h.imp id fun h => h.imp (fun h => h.symm) id, fun h => h.imp id fun h => h.imp (fun h => h.symm) id⟩
theorem nodup_insK (h : N.Nodup) : (insK N s).Nodup := by
  unfold insK
  split
  · exact h
  · rename_i n
    rw [List.nodup_append]
    exact ⟨h, by simp, fun a ha b hb e => n (by rw [← List.mem_singleton.mp hb, ← e]; exact ha)⟩
theorem nodup_foldS : ∀ {r : List (Option Sta)} {N : List Sta}, N.Nodup → (foldS N r).Nodup
  | [], _, h => h
  | e :: r, N, h => by
    show (foldS (addS N e) r).Nodup
    refine nodup_foldS ?_
    cases e with
    | none => exact h
    | some s => exact nodup_insK h
theorem idx_preS {x : List Sta} (h : s ∈ N) : (N ++ x).idxOf s = N.idxOf s := by rw [List.idxOf_append, if_pos h]
theorem numS_pre {x : List Sta} (h : ∀ s, e = some s → s ∈ N) : numS (N ++ x) e = numS N e := by
  cases e with
  | none => rfl
  | some s => exact congrArg some (idx_preS (h s rfl))
/-- the row so far -/
def accS (N : List Sta) (r : List (Option Sta)) (i : Nat) : List V := (r.take i).map fun e => vO (numS (foldS N (r.take i)) e)
theorem accS_step {i : Nat} (h : r[i]? = some e) : accS N r (i + 1) = accS N r i ++ [vO (numS (addS (foldS N (r.take i)) e) e)] := by
  have e1 : r.take (i + 1) = r.take i ++ [e] := by rw [List.take_succ, h]; rfl
  unfold accS
  rw [e1, foldS_snoc, List.map_append]
  congr 1
  refine List.map_congr_left fun d hd => ?_
  obtain ⟨x, hx⟩ := addS_pre (foldS N (r.take i)) e
  rw [hx, numS_pre]
  rintro s rfl
  exact mem_foldS.mpr (.inr hd)
end
section
variable {st : Sta → Nat → Option Sta} {m n i j c : Nat} {b : Sta}
def rowS (st : Sta → Nat → Option Sta) (m : Nat) (s : Sta) : List (Option Sta) := (List.range m).map (st s)
def atS (N : List Sta) (i : Nat) : Sta := N[i]?.getD []
def nS (st : Sta → Nat → Option Sta) (m : Nat) (b : Sta) : Nat → List Sta
  | 0 => [b]
  | j + 1 => foldS (nS st m b j) (rowS st m (atS (nS st m b j) j))
def roomS (st : Sta → Nat → Option Sta) (m : Nat) (b : Sta) (j : Nat) : List (Option Nat) := (rowS st m (atS (nS st m b j) j)).map (numS (nS st m b (j + 1)))
def tabS (st : Sta → Nat → Option Sta) (m : Nat) (b : Sta) (n : Nat) : Tab := (List.range n).map (roomS st m b)
theorem rowS_at (h : c < m) (s : Sta) : (rowS st m s)[c]? = some (st s c) := by
  unfold rowS
  rw [List.getElem?_map, List.getElem?_range h]
  rfl
theorem rowS_len (s : Sta) : (rowS st m s).length = m := by unfold rowS; rw [List.length_map, List.length_range]
theorem nS_pre (h : i ≤ j) : ∃ x, nS st m b j = nS st m b i ++ x := by
  induction h with
  | refl => exact ⟨[], (List.append_nil _).symm⟩
  | @step k h ih =>
    obtain ⟨x, hx⟩ := ih
    obtain ⟨y, hy⟩ := foldS_pre (rowS st m (atS (nS st m b k) k)) (nS st m b k)
    refine ⟨x ++ y, ?_⟩
    show foldS (nS st m b k) _ = _
    rw [hy, hx, List.append_assoc]
theorem nS_nodup : ∀ j, (nS st m b j).Nodup
  | 0 => by simp [nS]
  | j + 1 => nodup_foldS (nS_nodup j)
/-- all states lie in a set that the steps keep -/
theorem nS_all {p : Sta → Prop} (hb : p b) (hs : ∀ s c s', p s → c < m → st s c = some s' → p s') : ∀ j, (∀ i, i < j → i < (nS st m b i).length) → ∀ s ∈ nS st m b j, p s
  | 0, _ => fun s h => by rw [List.mem_singleton.mp h]; exact hb
  | j + 1, hp => by
    intro s h
    have ih := nS_all hb hs j fun i hi => hp i (by omega)
    rcases mem_foldS.mp h with h | h
    · exact ih s h
    · obtain ⟨c, hc, e⟩ := List.mem_map.mp h
      refine hs (atS (nS st m b j) j) c s (ih _ ?_) (List.mem_range.mp hc) e
      unfold atS
      rw [List.getElem?_eq_getElem (hp j (by omega))]
      exact List.getElem_mem _
/-- the states are all found -/
structure ExN (st : Sta → Nat → Option Sta) (m : Nat) (b : Sta) (n : Nat) : Prop where
  nl : (nS st m b n).length = n
  hp : ∀ i, i < n → i < (nS st m b i).length
theorem atS_pre (hj : j ≤ n) (hi : i < (nS st m b j).length) : atS (nS st m b n) i = atS (nS st m b j) i := by
  obtain ⟨x, hx⟩ := nS_pre (st := st) (m := m) (b := b) hj
  unfold atS
  rw [hx, List.getElem?_append_left hi]
theorem atS_mem {N : List Sta} (h : i < N.length) : atS N i ∈ N := by
  unfold atS
  rw [List.getElem?_eq_getElem h]
  exact List.getElem_mem h
theorem tabS_len : (tabS st m b n).length = n := by unfold tabS; rw [List.length_map, List.length_range]
theorem tabS_rows : ∀ r ∈ tabS st m b n, r.length = m := by
  intro r hr
  obtain ⟨j, _, rfl⟩ := List.mem_map.mp hr
  unfold roomS
  rw [List.length_map, rowS_len]
theorem ExN.pos (h : ExN st m b n) : 0 < n := by
  cases n with
  | zero =>
    have := h.nl
    simp [nS] at this
  | succ n => omega
theorem ExN.fol (h : ExN st m b n) (hi : i < n) (hc : c < m) : fol (tabS st m b n) i c = (st (atS (nS st m b n) i) c).map fun s => (nS st m b n).idxOf s := by
  have er : (tabS st m b n)[i]? = some (roomS st m b i) := by
    unfold tabS
    rw [List.getElem?_map, List.getElem?_range hi]
    rfl
  rw [fol_row er, atS_pre (by omega) (h.hp i hi)]
  unfold roomS
  rw [List.getElem?_map, rowS_at hc]
  cases e : st (atS (nS st m b i) i) c with
  | none => rfl
  | some s =>
    show some ((nS st m b (i + 1)).idxOf s) = some ((nS st m b n).idxOf s)
    congr 1
    obtain ⟨x, hx⟩ := nS_pre (st := st) (m := m) (b := b) (show i + 1 ≤ n from hi)
    rw [hx]
    refine (idx_preS (mem_foldS.mpr (.inr ?_))).symm
    rw [← e]
    exact List.mem_map.mpr ⟨c, List.mem_range.mpr hc, rfl⟩
theorem ExN.mem (h : ExN st m b n) (hi : i < n) (hc : c < m) {s : Sta} (e : st (atS (nS st m b n) i) c = some s) : s ∈ nS st m b n := by
  obtain ⟨x, hx⟩ := nS_pre (st := st) (m := m) (b := b) (show i + 1 ≤ n from hi)
  rw [hx]
  refine List.mem_append_left _ (mem_foldS.mpr (.inr ?_))
  rw [atS_pre (by omega) (h.hp i hi)] at e
  rw [← e]
  exact List.mem_map.mpr ⟨c, List.mem_range.mpr hc, rfl⟩
theorem ExN.idx (h : ExN st m b n) {s : Sta} (hs : s ∈ nS st m b n) : (nS st m b n).idxOf s < n ∧ atS (nS st m b n) ((nS st m b n).idxOf s) = s := by
  have l := List.idxOf_lt_length_of_mem hs
  refine ⟨by rw [h.nl] at l; exact l, ?_⟩
  unfold atS
  rw [List.getElem?_eq_getElem l, List.getElem_idxOf]
  rfl
theorem ExN.tin (h : ExN st m b n) : TIn (tabS st m b n) := by
  refine ⟨fun r hr e he x hx => ?_⟩
  rw [tabS_len]
  obtain ⟨i, hi, rfl⟩ := List.mem_iff_getElem.mp hr
  obtain ⟨c, hc, rfl⟩ := List.mem_iff_getElem.mp he
  have hc' : c < m := by rw [← tabS_rows _ (List.getElem_mem hi)]; exact hc
  have hi' : i < n := by rw [tabS_len] at hi; exact hi
  have f : Bs.fol (tabS st m b n) i c = some x := fol_of (List.getElem?_eq_getElem hi) (by rw [List.getElem?_eq_getElem hc, hx])
  rw [h.fol hi' hc'] at f
  obtain ⟨s, es, rfl⟩ := Option.map_eq_some_iff.mp f
  exact (h.idx (h.mem hi' hc' es)).1
theorem ExN.at0 (h : ExN st m b n) : atS (nS st m b n) 0 = b := by
  rw [atS_pre (j := 0) (Nat.zero_le _) (by simp [nS])]
  rfl
/-- the rows of such a table -/
theorem ExN.acc (h : ExN st m b n) {α : Nat → Nat} : Acc (tabS st m b n) 0 α ↔ ∃ s : Nat → Sta, s 0 = b ∧ ∀ k, α k < m ∧ st (s k) (α k) = some (s (k + 1)) := by
  constructor
  · rintro ⟨t, t0, ht⟩
    have hc : ∀ k, α k < m := fun k => fol_c tabS_rows (ht k)
    have hl : ∀ k, t k < n := fun k => by have := fol_lt (ht k); rw [tabS_len] at this; exact this
    refine ⟨fun k => atS (nS st m b n) (t k), ?_, fun k => ⟨hc k, ?_⟩⟩
    · show atS _ (t 0) = b
      rw [t0]
      exact h.at0
    · have e := ht k
      rw [h.fol (hl k) (hc k)] at e
      obtain ⟨s, es, ei⟩ := Option.map_eq_some_iff.mp e
      show st (atS _ (t k)) (α k) = some (atS _ (t (k + 1)))
      rw [es, ← ei, (h.idx (h.mem (hl k) (hc k) es)).2]
  · rintro ⟨s, s0, hs⟩
    have hm : ∀ k, s k ∈ nS st m b n := fun k => by
      induction k with
      | zero =>
        rw [s0]
        obtain ⟨x, hx⟩ := nS_pre (st := st) (m := m) (b := b) (Nat.zero_le n)
        rw [hx]
        exact List.mem_append_left _ (by simp [nS])
      | succ k ih =>
        obtain ⟨hi, ha⟩ := h.idx ih
        exact h.mem hi (hs k).1 (by rw [ha]; exact (hs k).2)
    refine ⟨fun k => (nS st m b n).idxOf (s k), ?_, fun k => ?_⟩
    · show (nS st m b n).idxOf (s 0) = 0
      obtain ⟨x, hx⟩ := nS_pre (st := st) (m := m) (b := b) (Nat.zero_le n)
      rw [hx, s0, idx_preS (by simp [nS])]
      simp [nS]
    · obtain ⟨hi, ha⟩ := h.idx (hm k)
      rw [h.fol hi (hs k).1, ha, (hs k).2]
      rfl
theorem nodup_lenS : ∀ {l m : List Sta}, l.Nodup → (∀ x ∈ l, x ∈ m) → l.length ≤ m.length
  | [], m, _, _ => Nat.zero_le _
  | a :: l, m, h, s => by
    obtain ⟨h1, h2⟩ := List.nodup_cons.mp h
    have ha : a ∈ m := s a List.mem_cons_self
    have := nodup_lenS (l := l) (m := m.erase a) h2 fun x hx => (List.mem_erase_of_ne (fun z : x = a => h1 (by rw [← z]; exact hx))).mpr (s x (List.mem_cons_of_mem _ hx))
    rw [List.length_erase_of_mem ha] at this
    have := List.length_pos_of_mem ha
    rw [List.length_cons]
    omega
end

/-! plain: two tables side by side -/
def eI : Option Nat → Int
  | none => -1
  | some n => n
def dI (i : Int) : Option Nat := if i < 0 then none else some i.toNat
theorem dI_eI (e : Option Nat) : dI (eI e) = e := by
  cases e with
  | none => rfl
  | some n => unfold dI eI; dsimp only; rw [if_neg (by omega)]; simp
def pS (x y : Option Nat) : Sta := [eI x, eI y]
def s1 (s : Sta) : Option Nat := dI (s[0]?.getD 0)
def s2 (s : Sta) : Option Nat := dI (s[1]?.getD 0)
theorem s1_pS {x y : Option Nat} : s1 (pS x y) = x := dI_eI x
theorem s2_pS {x y : Option Nat} : s2 (pS x y) = y := dI_eI y
def fo2 (T : Tab) (x : Option Nat) (c : Nat) : Option Nat := x.bind fun i => fol T i c
/-- whether a pair is lost -/
def lostP (both : Bool) (x y : Option Nat) : Bool := if both then x.isNone || y.isNone else x.isNone && y.isNone
def stP (A B : Tab) (both : Bool) (s : Sta) (c : Nat) : Option Sta :=
  if lostP both (fo2 A (s1 s) c) (fo2 B (s2 s) c) = true then none else some (pS (fo2 A (s1 s) c) (fo2 B (s2 s) c))
def z0 (T : Tab) : Option Nat := if T = [] then none else some 0
/-- what paired returns -/
def Paired (both : Bool) (m : Nat) (A B T : Tab) : Prop := (T = [] ∧ lostP both (z0 A) (z0 B) = true) ∨ (lostP both (z0 A) (z0 B) = false ∧ ∃ n, ExN (stP A B both) m (pS (z0 A) (z0 B)) n ∧ T = tabS (stP A B both) m (pS (z0 A) (z0 B)) n)
section
variable {A B T : Tab} {both : Bool} {m n : Nat} {α : Nat → Nat} {x y : Option Nat}
theorem z0_nil (h : z0 T = none) : T = [] := by
  unfold z0 at h
  split at h
  · assumption
  · cases h
theorem acc_z0 (h : Acc T 0 α) : z0 T = some 0 := by
  unfold z0
  rw [if_neg]
  rintro rfl
  exact nil_dead ⟨α, h⟩
theorem stP_some {s s' : Sta} {c : Nat} (h : stP A B both s c = some s') : s' = pS (fo2 A (s1 s) c) (fo2 B (s2 s) c) ∧ lostP both (fo2 A (s1 s) c) (fo2 B (s2 s) c) = false := by
  unfold stP at h
  split at h
  · cases h
  · rename_i n
    exact ⟨(Option.some.inj h).symm, by simpa using n⟩
/-- a side that is never lost goes on -/
theorem side_acc {s : Nat → Sta} {g : Sta → Option Nat} {T : Tab} (h0 : g (s 0) = z0 T) (hs : ∀ k, g (s (k + 1)) = fo2 T (g (s k)) (α k)) (hn : ∀ k, g (s k) ≠ none) : Acc T 0 α := by
  have e : ∀ k, g (s k) = some ((g (s k)).getD 0) := fun k => by
    cases z : g (s k) with
    | none => exact absurd z (hn k)
    | some v => rfl
  refine ⟨fun k => (g (s k)).getD 0, ?_, fun k => ?_⟩
  · show (g (s 0)).getD 0 = 0
    rw [h0]
    unfold z0
    split <;> rfl
  · have := hs k
    rw [e k, e (k + 1)] at this
    exact this.symm
theorem side_lost {s : Nat → Sta} {g : Sta → Option Nat} {T : Tab} (hs : ∀ k, g (s (k + 1)) = fo2 T (g (s k)) (α k)) {k : Nat} (h : g (s k) = none) : ∀ d, g (s (k + d)) = none
  | 0 => h
  | d + 1 => by
    have := hs (k + d)
    rw [side_lost hs h d] at this
    exact this
theorem paired_acc (hA : ∀ r ∈ A, r.length = m) (hB : ∀ r ∈ B, r.length = m) (h : Paired both m A B T) : Acc T 0 α ↔ if both then Acc A 0 α ∧ Acc B 0 α else Acc A 0 α ∨ Acc B 0 α := by
  rcases h with ⟨rfl, hl⟩ | ⟨hl, n, ex, rfl⟩
  · refine ⟨fun a => absurd ⟨α, a⟩ nil_dead, fun a => ?_⟩
    unfold lostP at hl
    cases both with
    | true =>
      obtain ⟨a, b⟩ := a
      rw [acc_z0 a, acc_z0 b] at hl
      cases hl
    | false =>
      rcases a with a | a
      · rw [acc_z0 a] at hl
        cases hl
      · rw [acc_z0 a] at hl
        simp at hl
  · rw [ex.acc]
    constructor
    · rintro ⟨s, s0, hs⟩
      have e1 : ∀ k, s1 (s (k + 1)) = fo2 A (s1 (s k)) (α k) := fun k => by rw [(stP_some (hs k).2).1, s1_pS]
      have e2 : ∀ k, s2 (s (k + 1)) = fo2 B (s2 (s k)) (α k) := fun k => by rw [(stP_some (hs k).2).1, s2_pS]
      have b1 : s1 (s 0) = z0 A := by rw [s0, s1_pS]
      have b2 : s2 (s 0) = z0 B := by rw [s0, s2_pS]
      have nl : ∀ k, lostP both (s1 (s k)) (s2 (s k)) = false := fun k => by
        cases k with
        | zero => rw [b1, b2]; exact hl
        | succ k => rw [e1, e2]; exact (stP_some (hs k).2).2
      cases both with
      | true =>
        have n1 : ∀ k, s1 (s k) ≠ none := fun k z => by have := nl k; rw [z] at this; simp [lostP] at this
        have n2 : ∀ k, s2 (s k) ≠ none := fun k z => by have := nl k; rw [z] at this; simp [lostP] at this
        exact ⟨side_acc b1 e1 n1, side_acc b2 e2 n2⟩
      | false =>
        by_cases z : ∃ k, s1 (s k) = none
        · refine .inr (side_acc b2 e2 fun j w => ?_)
          obtain ⟨k, hk⟩ := z
          have q1 := side_lost e1 hk j
          have q2 := side_lost e2 w k
          have := nl (k + j)
          rw [q1, show k + j = j + k by omega, q2] at this
          simp [lostP] at this
        · exact .inl (side_acc b1 e1 fun j w => z ⟨j, w⟩)
    · intro a
      let s : Nat → Sta := fun k => Nat.rec (pS (z0 A) (z0 B)) (fun k y => (stP A B both y (α k)).getD []) k
      have st : ∀ k, lostP both (fo2 A (s1 (s k)) (α k)) (fo2 B (s2 (s k)) (α k)) = false → stP A B both (s k) (α k) = some (s (k + 1)) ∧ s (k + 1) = pS (fo2 A (s1 (s k)) (α k)) (fo2 B (s2 (s k)) (α k)) := fun k z => by
        have e : stP A B both (s k) (α k) = some (pS (fo2 A (s1 (s k)) (α k)) (fo2 B (s2 (s k)) (α k))) := by
          unfold stP
          rw [if_neg (by rw [z]; decide)]
        have e' : s (k + 1) = pS (fo2 A (s1 (s k)) (α k)) (fo2 B (s2 (s k)) (α k)) := by
          show (stP A B both (s k) (α k)).getD [] = _
          rw [e]
          rfl
        exact ⟨by rw [e', e], e'⟩
      have lt : ∀ k, α k < m := fun k => by
        cases both with
        | true => exact (by obtain ⟨⟨t, _, h⟩, _⟩ := a; exact fol_c hA (h k))
        | false =>
          rcases a with ⟨t, _, h⟩ | ⟨t, _, h⟩
          · exact fol_c hA (h k)
          · exact fol_c hB (h k)
      suffices go : ∀ k, lostP both (fo2 A (s1 (s k)) (α k)) (fo2 B (s2 (s k)) (α k)) = false from ⟨s, rfl, fun k => ⟨lt k, (st k (go k)).1⟩⟩
      cases both with
      | true =>
        obtain ⟨⟨t, t0, ht⟩, ⟨u, u0, hu⟩⟩ := a
        have za := acc_z0 (T := A) ⟨t, t0, ht⟩
        have zb := acc_z0 (T := B) ⟨u, u0, hu⟩
        have inv : ∀ k, s k = pS (some (t k)) (some (u k)) := fun k => by
          induction k with
          | zero => show pS (z0 A) (z0 B) = _; rw [za, zb, t0, u0]
          | succ k ih =>
            have f1 : fo2 A (s1 (s k)) (α k) = some (t (k + 1)) := by rw [ih, s1_pS]; exact ht k
            have f2 : fo2 B (s2 (s k)) (α k) = some (u (k + 1)) := by rw [ih, s2_pS]; exact hu k
            rw [(st k (by rw [f1, f2]; rfl)).2, f1, f2]
        intro k
        rw [inv k, s1_pS, s2_pS, show fo2 A (some (t k)) (α k) = some (t (k + 1)) from ht k, show fo2 B (some (u k)) (α k) = some (u (k + 1)) from hu k]
        rfl
      | false =>
        rcases a with ⟨t, t0, ht⟩ | ⟨t, t0, ht⟩
        · have za := acc_z0 (T := A) ⟨t, t0, ht⟩
          have inv : ∀ k, s1 (s k) = some (t k) := fun k => by
            induction k with
            | zero => show s1 (pS (z0 A) (z0 B)) = _; rw [s1_pS, za, t0]
            | succ k ih =>
              have f1 : fo2 A (s1 (s k)) (α k) = some (t (k + 1)) := by rw [ih]; exact ht k
              rw [(st k (by rw [f1]; rfl)).2, s1_pS, f1]
          intro k
          rw [inv k, show fo2 A (some (t k)) (α k) = some (t (k + 1)) from ht k]
          rfl
        · have zb := acc_z0 (T := B) ⟨t, t0, ht⟩
          have inv : ∀ k, s2 (s k) = some (t k) := fun k => by
            induction k with
            | zero => show s2 (pS (z0 A) (z0 B)) = _; rw [s2_pS, zb, t0]
            | succ k ih =>
              have f1 : fo2 B (s2 (s k)) (α k) = some (t (k + 1)) := by rw [ih]; exact ht k
              rw [(st k (by rw [f1]; simp [lostP])).2, s2_pS, f1]
          intro k
          rw [inv k, show fo2 B (some (t k)) (α k) = some (t (k + 1)) from ht k]
          simp [lostP]
/-- a pair of rooms of both tables -/
def okP (A B : Tab) (s : Sta) : Prop := ∃ x y, s = pS x y ∧ (∀ i, x = some i → i < A.length) ∧ ∀ i, y = some i → i < B.length
theorem okP_b : okP A B (pS (z0 A) (z0 B)) := by
  refine ⟨_, _, rfl, fun i h => ?_, fun i h => ?_⟩
  · unfold z0 at h
    split at h
    · cases h
    · rename_i n; cases h; exact List.length_pos_iff.mpr n
  · unfold z0 at h
    split at h
    · cases h
    · rename_i n; cases h; exact List.length_pos_iff.mpr n
theorem fo2_in (tA : TIn A) {c i : Nat} (h : fo2 A x c = some i) : i < A.length := by
  cases x with
  | none => cases h
  | some j => exact fol_in tA h
theorem okP_step (tA : TIn A) (tB : TIn B) {s s' : Sta} {c : Nat} (h : stP A B both s c = some s') : okP A B s' := by
  rw [(stP_some h).1]
  exact ⟨_, _, rfl, fun i e => fo2_in tA e, fun i e => fo2_in tB e⟩
def opts (n : Nat) : List (Option Nat) := none :: (List.range n).map some
def allP (a b : Nat) : List Sta := (opts a).flatMap fun x => (opts b).map fun y => pS x y
theorem opts_len (n : Nat) : (opts n).length = n + 1 := by unfold opts; rw [List.length_cons, List.length_map, List.length_range]
theorem allP_len (a b : Nat) : (allP a b).length = (a + 1) * (b + 1) := by
  unfold allP
  rw [List.length_flatMap]
  simp only [List.length_map, opts_len]
  rw [List.map_const', List.sum_replicate_nat, opts_len]
theorem mem_opts {n : Nat} (h : ∀ i, x = some i → i < n) : x ∈ opts n := by
  unfold opts
  cases x with
  | none => exact List.mem_cons_self
  | some i => exact List.mem_cons_of_mem _ (List.mem_map.mpr ⟨i, List.mem_range.mpr (h i rfl), rfl⟩)
theorem okP_mem {s : Sta} (h : okP A B s) : s ∈ allP A.length B.length := by
  obtain ⟨x, y, rfl, h1, h2⟩ := h
  exact List.mem_flatMap.mpr ⟨x, mem_opts h1, List.mem_map.mpr ⟨y, mem_opts h2, rfl⟩⟩
theorem nS_P (tA : TIn A) (tB : TIn B) {j : Nat} (hp : ∀ i, i < j → i < (nS (stP A B both) m (pS (z0 A) (z0 B)) i).length) : (∀ s ∈ nS (stP A B both) m (pS (z0 A) (z0 B)) j, okP A B s) ∧ (nS (stP A B both) m (pS (z0 A) (z0 B)) j).length ≤ (A.length + 1) * (B.length + 1) := by
  have h := nS_all (st := stP A B both) (m := m) (p := okP A B) okP_b (fun s c s' _ _ e => okP_step tA tB e) j hp
  refine ⟨h, ?_⟩
  rw [← allP_len]
  exact nodup_lenS (nS_nodup j) fun x hx => okP_mem (h x hx)
theorem Paired.rows (h : Paired both m A B T) : ∀ r ∈ T, r.length = m := by
  rcases h with ⟨rfl, _⟩ | ⟨_, n, ex, rfl⟩
  · exact fun r hr => absurd hr List.not_mem_nil
  · exact tabS_rows
theorem Paired.tin (h : Paired both m A B T) : TIn T := by
  rcases h with ⟨rfl, _⟩ | ⟨_, n, ex, rfl⟩
  · exact ⟨fun r hr => absurd hr List.not_mem_nil⟩
  · exact ex.tin
theorem Paired.len (tA : TIn A) (tB : TIn B) (h : Paired both m A B T) : T.length ≤ (A.length + 1) * (B.length + 1) := by
  rcases h with ⟨rfl, _⟩ | ⟨_, n, ex, rfl⟩
  · exact Nat.zero_le _
  · rw [tabS_len]
    have := (nS_P (both := both) (m := m) tA tB (j := n) ex.hp).2
    rw [ex.nl] at this
    exact this
end

/-! tuples of ints: in, ==; lists of such tuples; {t: 0} -/
/-- tuples of ints that stand still -/
inductive TupsAt (H : Hp) : List V → List Sta → Prop
  | nil : TupsAt H [] []
  | cons {q : Addr} {s : Sta} {us : List V} {N : List Sta} : H q = some (.tup (s.map V.int)) → TupsAt H us N → TupsAt H (.ref q :: us) (s :: N)
section
variable {K : PySem.W.Frag} {F H H' : Hp} {L : List (Addr × HO)} {us : List V} {N : List Sta} {s : Sta} {Q : VK} {p q : Addr}
theorem TupsAt.same (z : Same H H') : ∀ {us : List V} {N : List Sta}, TupsAt H us N → TupsAt H' us N
  | _, _, .nil => .nil
  | _, _, .cons a b => .cons (z _ _ a) (b.same z)
theorem TupsAt.length : ∀ {us : List V} {N : List Sta}, TupsAt H us N → us.length = N.length
  | _, _, .nil => rfl
  | _, _, .cons _ b => by rw [List.length_cons, List.length_cons, b.length]
theorem TupsAt.at : ∀ {us : List V} {N : List Sta} {i : Nat}, TupsAt H us N → N[i]? = some s → ∃ q, us[i]? = some (.ref q) ∧ H q = some (.tup (s.map V.int))
  | _, _, 0, .cons a _, e => by cases e; exact ⟨_, rfl, a⟩
  | _, _, i + 1, .cons _ b, e => TupsAt.at (i := i) b e
theorem TupsAt.snoc (h : H q = some (.tup (s.map V.int))) : ∀ {us : List V} {N : List Sta}, TupsAt H us N → TupsAt H (us ++ [.ref q]) (N ++ [s])
  | _, _, .nil => .cons h .nil
  | _, _, .cons a b => .cons a (TupsAt.snoc h b)
theorem inV_ints (i : Int) : ∀ ks : List Int, inV (.int i) (ks.map V.int) = decide (i ∈ ks)
  | [] => rfl
  | k :: ks => by
    have ih := inV_ints i ks
    unfold inV at ih ⊢
    rw [List.map_cons, List.any_cons, ih]
    have e : eqV (.int k) (.int i) = decide (k = i) := rfl
    rw [e]
    by_cases h1 : k = i
    · subst h1; simp
    · by_cases h2 : i ∈ ks
      · simp [h2]
      · simp [h1, h2, Ne.symm h1]
theorem flat_ints : ∀ ks : List Int, (ks.map V.int).all flatV = true
  | [] => rfl
  | k :: ks => by rw [List.map_cons, List.all_cons, flat_ints ks]; rfl
theorem r_inT {i : Int} {ks : List Int} (h : SqT K H p (ks.map V.int)) (k : Q (.bl (decide (i ∈ ks))) H) : rIn K false (.int i) (.ref p) H Q :=
  ⟨p, _, rfl, .inr h, rfl, flat_ints ks, by rw [inV_ints]; exact k⟩
theorem o_eqT2 {t b u v : Int} {p1 p2 : Addr} (s1 : SqT K H p1 [.int t, .int b]) (s2 : SqT K H p2 [.int u, .int v]) (k : Q (.bl (decide (t = u ∧ b = v))) H) : rEqD K (.ref p1) (.ref p2) H Q := by
  refine ⟨.tuple [.int t, .int b], .tuple [.int u, .int v], .tup s1 (.cons (.int _) (.cons (.int _) .nil)), .tup s2 (.cons (.int _) (.cons (.int _) .nil)), rfl, rfl, ?_⟩
  have z : PyData.eqv (.tuple [.int t, .int b]) (.tuple [.int u, .int v]) = decide (t = u ∧ b = v) := by
    simp [PyData.eqv, PyData.eqvAll, Bool.decide_and]
    rfl
  rw [z]
  exact k
end

/-! two tables side by side: the walk -/


def sp_pf (K : PySem.W.Frag) : Sp := fun vs H Q _ => ∃ (a b p : Addr) (A B : Tab) (x y : Option Nat) (c m : Nat), vs = [.ref a, .ref b, .ref p, .int (c : Nat)] ∧ TabAt K H a A ∧ TabAt K H b B ∧ SqT K H p [.int (eI x), .int (eI y)] ∧
  (∀ i, x = some i → i < A.length) ∧ (∀ i, y = some i → i < B.length) ∧ c < m ∧ (∀ r ∈ A, r.length = m) ∧ (∀ r ∈ B, r.length = m) ∧
  ∀ r H', H r = none → Same H H' → H' r = some (.tup ((pS (fo2 A x c) (fo2 B y c)).map V.int)) → Q (.ref r) H'
def sp_paired (K : PySem.W.Frag) : Sp := fun vs H Q _ => ∃ (a b : Addr) (A B : Tab) (m : Nat) (both : Bool), vs = [.ref a, .ref b, .int (m : Nat), .bl both] ∧ TabAt K H a A ∧ TabAt K H b B ∧ TIn A ∧ TIn B ∧ (A.length + 1) * (B.length + 1) ≤ 1000 ∧ m ≤ 100 ∧ (∀ r ∈ A, r.length = m) ∧ (∀ r ∈ B, r.length = m) ∧
  ∀ (T : Tab) r H', Paired both m A B T → H r = none → Same H H' → TabAt K H' r T → Q (.ref r) H'
theorem TabAt.fol {K : PySem.W.Frag} {H : Hp} {a : Addr} {T : Tab} (h : TabAt K H a T) {i c m : Nat} (hi : i < T.length) (hc : c < m) (hm : ∀ r ∈ T, r.length = m) : ∃ ts ar rs, SqL K H a ts ∧ atI ts (i : Int) = some (.ref ar) ∧ SqL K H ar rs ∧ atI rs (c : Int) = some (vO (Bs.fol T i c)) := by
  obtain ⟨ts, sq, ra⟩ := h
  obtain ⟨r, hr⟩ : ∃ r, T[i]? = some r := ⟨_, List.getElem?_eq_getElem hi⟩
  obtain ⟨v, hv, ar, rfl, sr⟩ := ra.at hr
  refine ⟨ts, ar, _, sq, at_nat rfl hv, sr, at_nat rfl ?_⟩
  have hl := hm r (List.mem_of_getElem? hr)
  rw [List.getElem?_map, fol_row hr, List.getElem?_eq_getElem (show c < r.length by omega)]
  rfl
theorem o_neTE {K : PySem.W.Frag} {H : Hp} {T : Tab} {a c : Addr} {Q : VK} (t : TabAt K H a T) (e : H c = some (.lst [])) (k : Q (.bl (!decide (T = []))) H) : rNeD K (.ref a) (.ref c) H Q := by
  refine ⟨_, .list [], t.dp, .lst (SqL.of e) .nil, sh_tab T, sh_tab [], ?_⟩
  have z : PyData.eqv (.list (T.map pR)) (.list []) = decide (T = []) := by
    cases T with
    | nil => simp [PyData.eqv, PyData.eqvAll]
    | cons n ns => simp [PyData.eqv, PyData.eqvAll]
  rw [z]
  exact k
theorem eI_lost {x : Option Nat} : eI x = -1 ↔ x = none := by
  cases x with
  | none => exact ⟨fun _ => rfl, fun _ => rfl⟩
  | some n => exact ⟨fun h => by have : (n : Int) = -1 := h; omega, fun h => by cases h⟩
theorem lost_in {x y : Option Nat} : decide ((-1 : Int) ∈ pS x y) = lostP true x y := by
  have e : (-1 : Int) ∈ pS x y ↔ x = none ∨ y = none := by
    unfold pS
    rw [List.mem_cons, List.mem_singleton, ← eI_lost, ← eI_lost]
    exact ⟨fun h => h.imp Eq.symm Eq.symm, fun h => h.imp Eq.symm Eq.symm⟩
  rw [decide_eq_decide.mpr e]
  cases x <;> cases y <;> rfl
theorem lost_eq {x y : Option Nat} : decide (eI x = -1 ∧ eI y = -1) = lostP false x y := by
  rw [decide_eq_decide.mpr (show (eI x = -1 ∧ eI y = -1) ↔ (x = none ∧ y = none) by rw [eI_lost, eI_lost])]
  cases x <;> cases y <;> rfl
theorem r_lost {K : PySem.W.Frag} {F H : Hp} {L : List (Addr × HO)} {j : Nat} {p : Addr} {x y : Option Nat} {both : Bool} {σ : L2.St} {Q : VK} (h : Own F H L) (ep : F p = some (.tup ((pS x y).map V.int))) (ej : σ[j]? = some (some (.ref p))) (k : ∀ H', Own F H' L → Q (.bl (lostP both x y)) H') :
    if both = true then tOp (rIn K false) (tUn (rU fun i => V.int (-i)) (tC (V.int 1))) (tVar j) σ H Q else tOp (rEqD K) (tVar j) (tTup (tCons (tUn (rU fun i => V.int (-i)) (tC (V.int 1))) (tCons (tUn (rU fun i => V.int (-i)) (tC (V.int 1))) tNil))) σ H Q := by
  have ow := h
  have vj : ∀ {R : VK} {H : Hp}, R (.ref p) H → tVar j σ H R := fun {R H} r => ⟨_, ej, r⟩
  cases both with
  | true =>
    rw [if_pos rfl]
    walk_at "go"
    refine vj ?_
    refine r_inT (SqT.of (ow.gets ep)) ?_
    rw [lost_in]
    exact k H h
  | false =>
    rw [if_neg (by decide)]
    walk_at "go"
    refine vj ?_
    walk_at "go"
    refine o_eqT2 (SqT.of (ow.gets ep)) (SqT.of (ow.get 0 rfl)) ?_
    rw [lost_eq]
    exact k _ ow.drop
section
variable {P : Program} {w : World} {K : PySem.W.Frag} {mg : Str → Option Value} {base : Heap} {f : Addr} {fd : FuncData}
theorem ok_pair_follow (F : FnP K "pair_follow" "pair_follow" s_pair_follow f fd) (B : Bi mg)  : FnOk P w K mg base CX0 1 f fd ["one", "other", "pair", "letter"] (sp_pf K) := by
  refine F.ok sc_pair_follow (fun vs H Q E h => by walk_at "len") (fun cdv A outer s H vs Q E hr h => ?_)
  have nd := sc_pair_follow.nd
  obtain ⟨a, b, p, A, B, x, y, c, m, rfl, ta, tb, sp, hx, hy, hc, hA, hB, q⟩ := h
  refine ⟨_, PSs.nox (pss_cons (ps_set (i := 4) nd rfl (Or.inl rfl) (pe_ifExp (pt_cmpR op_ge (pe_ix ix_tup (pv 2) pe_int (fun _ _ => rfl)) pe_int (nomark _)) (pe_ix ix_list (pe_ix ix_list (pv 0) (pe_ix ix_tup (pv 2) pe_int (fun _ _ => rfl)) (fun _ _ => rfl)) (pv 3) (fun _ _ => rfl)) pe_non))
      (pss_cons (ps_set (i := 5) nd rfl (Or.inl rfl) (pe_ifExp (pt_cmpR op_ge (pe_ix ix_tup (pv 2) pe_int (fun _ _ => rfl)) pe_int (nomark _)) (pe_ix ix_list (pe_ix ix_list (pv 1) (pe_ix ix_tup (pv 2) pe_int (fun _ _ => rfl)) (fun _ _ => rfl)) (pv 3) (fun _ _ => rfl)) pe_non))
      (pss_one (ps_ret (pe_tup (pa_cons (pe_ifExp (pt_cmpR op_isN (pv 4) pe_non (nomark _)) (pe_un un_neg pe_int) (pv 4)) (pa_cons (pe_ifExp (pt_cmpR op_isN (pv 5) pe_non (nomark _)) (pe_un un_neg pe_int) (pv 5)) pa_nil))))))), ?_⟩
  walk_at "s0"
  have ow := Own.start H
  have fx : ∀ {d : Addr} {T : Tab} {x : Option Nat}, TabAt K H d T → (∀ i, x = some i → i < T.length) → (∀ r ∈ T, r.length = m) → (x = none ∧ fo2 T x c = none) ∨ ∃ (i : Nat) (ts rs : List V) (ar : Addr), x = some i ∧ SqL K H d ts ∧ atI ts (i : Int) = some (.ref ar) ∧ SqL K H ar rs ∧ ((fo2 T x c = none ∧ atI rs (c : Int) = some .non) ∨ ∃ n : Nat, fo2 T x c = some n ∧ atI rs (c : Int) = some (.int (n : Nat))) := by
    intro d T x t hx hm
    cases x with
    | none => exact .inl ⟨rfl, rfl⟩
    | some i =>
      obtain ⟨ts, ar, rs, h1, h2, h3, h4⟩ := t.fol (hx i rfl) hc hm
      refine .inr ⟨i, ts, rs, ar, rfl, h1, h2, h3, ?_⟩
      show (Bs.fol T i c = none ∧ _) ∨ ∃ n : Nat, Bs.fol T i c = some n ∧ _
      cases e : Bs.fol T i c with
      | none => rw [e] at h4; exact .inl ⟨rfl, h4⟩
      | some n => rw [e] at h4; exact .inr ⟨n, rfl, h4⟩
  have e0 : atI [V.int (eI x), V.int (eI y)] 0 = some (.int (eI x)) := rfl
  have e1 : atI [V.int (eI x), V.int (eI y)] 1 = some (.int (eI y)) := rfl
  rcases fx ta hx hA with ⟨rfl, f1⟩ | ⟨i, ts, rs, ar, rfl, s1, a1, s2, ⟨f1, a2⟩ | ⟨n, f1, a2⟩⟩ <;> rcases fx tb hy hB with ⟨rfl, f2⟩ | ⟨j, us, ss, as, rfl, s3, a3, s4, ⟨f2, a4⟩ | ⟨k, f2, a4⟩⟩ <;> rw [f1, f2] at q <;> unfold pS at q <;> simp only [eI] at e0 e1 sp q <;> walk_at "go" <;> first | contradiction | exact q pT _ (ow.new0 g0) ow.toSame_of (ow.get 0 rfl)
theorem ok_paired (F : FnP K "paired" "paired" s_paired f fd) (B : Bi mg) (c_pair_follow : Fo P w K mg base CX0 1 "pair_follow" ["one", "other", "pair", "letter"] (sp_pf K)) : FnOk P w K mg base CX0 2 f fd ["one", "other", "letters", "both"] (sp_paired K) := by
  refine F.ok sc_paired (fun vs H Q E h => by walk_at "len") (fun cdv A outer s H vs Q E hr h => ?_)
  have nd := sc_paired.nd
  have hu : (A.deeper (envOfC ("paired" : Str) (defScope s_paired) s.heap.objs.size f cdv)).units + 1 < cLine := by have := hr.un; omega
  obtain ⟨a, b, T1, T2, m, both, rfl, ta, tb, ti1, ti2, hn, hm, h1, h2, q⟩ := h
  refine ⟨_, PSs.nox (C8.pss_cut (ps_set (i := 4) nd rfl (Or.inl rfl) (pe_tup (pa_cons (pe_ifExp (pt_cmpR (op_neD hr.units) (pv 0) (pe_lst pa_nil) (nomark _)) pe_int (pe_un un_neg pe_int)) (pa_cons (pe_ifExp (pt_cmpR (op_neD hr.units) (pv 1) (pe_lst pa_nil) (nomark _)) pe_int (pe_un un_neg pe_int)) pa_nil))))
      (pss_cons (ps_set (i := 5) nd rfl (Or.inl rfl) (pe_ifExp (pt_val (pv 3)) (pe_cmpR op_in_seq (pe_un un_neg pe_int) (pv 4) rfl) (pe_cmpR (op_eqD hr.units) (pv 4) (pe_tup (pa_cons (pe_un un_neg pe_int) (pa_cons (pe_un un_neg pe_int) pa_nil))) (nomark _))))
      (pss_cons (ps_if (pt_val (pv 5)) (pss_one (ps_ret (pe_lst pa_nil))) pss_nil)
      (pss_cons (ps_set (i := 6) nd rfl (Or.inl rfl) (pe_dispT hu (pv 4) pe_int))
      (pss_cons (ps_set (i := 7) nd rfl (Or.inl rfl) (pe_lst (pa_cons (pv 4) pa_nil)))
      (pss_cons (ps_set (i := 8) nd rfl (Or.inl rfl) (pe_lst pa_nil))
      (pss_cons (ps_while PassesOwn.never (pt_cmpR op_lt (pe_callB cb_len rfl B.len (by decide +kernel) (pa_cons (pv 8) pa_nil)) (pe_callB cb_len rfl B.len (by decide +kernel) (pa_cons (pv 7) pa_nil)) (nomark _)) (pss_cons (ps_set (i := 9) nd rfl (Or.inl rfl) (pe_lst pa_nil))
      (pss_cons (ps_for PassesOwn.never rfl (pi_range1 rfl B.range (pa_cons (pv 2) pa_nil)) (pg_name (i := 10) nd rfl (.inl rfl))
      (pss_cons (ps_set (i := 11) nd rfl (Or.inl rfl) (pe_fo c_pair_follow hr (by decide) (pa_cons (pv 0) (pa_cons (pv 1) (pa_cons (pe_ix ix_list (pv 7) (pe_callB cb_len rfl B.len (by decide +kernel) (pa_cons (pv 8) pa_nil)) (fun _ _ => rfl)) (pa_cons (pv 10) pa_nil))))))
      (pss_cons (ps_set (i := 5) nd rfl (Or.inl rfl) (pe_ifExp (pt_val (pv 3)) (pe_cmpR op_in_seq (pe_un un_neg pe_int) (pv 11) rfl) (pe_cmpR (op_eqD hr.units) (pv 11) (pe_tup (pa_cons (pe_un un_neg pe_int) (pa_cons (pe_un un_neg pe_int) pa_nil))) (nomark _))))
      (pss_cons (ps_if (PW.pt (pw_and (pt_not (pt_val (pv 5))) (pw_and1 (pt_cmp (pc_dnotin hu (pv 11) (pv 6)))))) (pss_cons (ps_asg (pe_callB cb_len rfl B.len (by decide +kernel) (pa_cons (pv 7) pa_nil)) (pg_sub (pv 6) (pv 11) (set_dict hu)))
      (pss_one (ps_expr (pe_bm PySem.F.plainAttrs_list PySem.F.slot_list_append PySem.F.type_list_append mt_append (pv 7) (pa_cons (pv 11) pa_nil))))) pss_nil)
      (pss_one (ps_expr (pe_bm PySem.F.plainAttrs_list PySem.F.slot_list_append PySem.F.type_list_append mt_append (pv 9) (pa_cons (pe_ifExp (pt_val (pv 5)) pe_non (pe_dget hu (pv 6) (pv 11) (fun _ _ => rfl))) pa_nil))))))))
      (pss_one (ps_expr (pe_bm PySem.F.plainAttrs_list PySem.F.slot_list_append PySem.F.type_list_append mt_append (pv 8) (pa_cons (pv 9) pa_nil)))))))
      (pss_one (ps_ret (pv 8)))))))))), ?_⟩
  walk_at "s0"
  have ow := Own.start H
  refine r_cut (fun σ' H' => ∃ p, σ' = [some (.ref a), some (.ref b), some (.int (m : Nat)), some (.bl both), some (.ref p), none, none, none, none, none, none, none] ∧ Own H H' [(p, .tup ((pS (z0 T1) (z0 T2)).map V.int))]) ?_ ?_
  · have nz : ∀ {T : Tab}, T = [] → eI (z0 T) = -1 := fun {T} e => by unfold z0; rw [if_pos e]; rfl
    have pz : ∀ {T : Tab}, T ≠ [] → eI (z0 T) = 0 := fun {T} e => by unfold z0; rw [if_neg e]; rfl
    have ez : (pS (z0 T1) (z0 T2)).map V.int = [V.int (eI (z0 T1)), V.int (eI (z0 T2))] := rfl
    rw [ez]
    walk_at "go"
    refine o_neTE (ta.same ow.toSame_of) (ow.get 0 rfl) ?_
    by_cases c1 : T1 = []
    · rw [decide_eq_true c1, nz c1]
      walk_at "go"
      refine o_neTE (tb.same ow.toSame_of) (ow.get 0 rfl) ?_
      by_cases c2 : T2 = []
      · rw [decide_eq_true c2, nz c2]
        walk_at "go"
        exact ow.one
      · rw [decide_eq_false c2, pz c2]
        walk_at "go"
        exact ow.one
    · rw [decide_eq_false c1, pz c1]
      walk_at "go"
      refine o_neTE (tb.same ow.toSame_of) (ow.get 0 rfl) ?_
      by_cases c2 : T2 = []
      · rw [decide_eq_true c2, nz c2]
        walk_at "go"
        exact ow.one
      · rw [decide_eq_false c2, pz c2]
        walk_at "go"
        exact ow.one
  rintro σ' H1 ⟨p, rfl, ow⟩
  obtain ⟨fz1, fz2⟩ := ow.frz
  have hp0 : (upd H p (.tup ((pS (z0 T1) (z0 T2)).map V.int))) p = some (.tup ((pS (z0 T1) (z0 T2)).map V.int)) := upd_same
  generalize upd H p (.tup ((pS (z0 T1) (z0 T2)).map V.int)) = F0 at fz1 fz2 hp0
  clear ow
  have ow := fz1
  walk_at "go"
  refine r_lost ow hp0 rfl ?_
  intro H2 ow
  walk_at "go"
  cases hl : lostP both (z0 T1) (z0 T2) with
  | true =>
    walk_at "go"
    exact q [] _ _ (.inl ⟨rfl, hl⟩) (same_none fz2 (ow.new0 g0)) (fz2.trans ow.toSame) ⟨[], SqL.of (ow.get 0 rfl), .nil⟩
  | false =>
    walk_at "go"
    intro pP nP
    replace ow := ow.new (o := .dT []) nP
    walk_at "go"
    refine ⟨ow.get 0 rfl, p, (pS (z0 T1) (z0 T2)).map Sum.inl, rfl, by rw [kV_map]; exact ow.gets hp0, ?_⟩
    obtain ⟨b0, hb0⟩ : ∃ b0, b0 = pS (z0 T1) (z0 T2) := ⟨_, rfl⟩
    rw [← hb0] at hp0
    replace ow := ow.put 0 rfl (o := .dT [((pS (z0 T1) (z0 T2)).map Sum.inl, V.int 0)])
    rw [← hb0]
    walk_at "ow"
    rw [← hb0] at ow
    have nsp := fun {j : Nat} => nS_P (both := both) (m := m) (j := j) ti1 ti2
    rw [← hb0] at nsp
    have tu0 : TupsAt F0 [.ref p] (nS (stP T1 T2 both) m b0 0) := .cons hp0 .nil
    have kv0 : [((b0.map Sum.inl : List Key), V.int 0)] = kvsF 0 (nS (stP T1 T2 both) m b0 0) := rfl
    rw [kv0] at ow
    clear kv0
    walk_at "go"
    rename_i nA _ _ _
    generalize pL = fA at *
    refine r_while (fun w' σ H' => ∃ (i : Nat) (F : Hp) (vs us : List V) (u9 u10 u11 : Option V) (lo : Bool), σ = [some (.ref a), some (.ref b), some (.int (m : Nat)), some (.bl both), some (.ref p), some (.bl lo), some (.ref pP), some (.ref nA), some (.ref fA), u9, u10, u11] ∧ Same F0 F ∧
      Own F H' [(fA, .lst vs), (nA, .lst us), (pP, .dT (kvsF 0 (nS (stP T1 T2 both) m b0 i)))] ∧ RoomsAt K F vs ((List.range i).map (roomS (stP T1 T2 both) m b0)) ∧ TupsAt F us (nS (stP T1 T2 both) m b0 i) ∧ (∀ x, x < i → x < (nS (stP T1 T2 both) m b0 x).length) ∧ i ≤ (nS (stP T1 T2 both) m b0 i).length ∧ w' = (T1.length + 1) * (T2.length + 1) + 1 - i) _
      ⟨0, F0, [], _, _, _, _, _, rfl, Same.refl F0, ow, .nil, tu0, fun x hx => absurd hx (Nat.not_lt_zero x), Nat.zero_le _, rfl⟩ ?_
    rintro w' σ H8 ⟨i, F, vs, us, u9, u10, u11, lo, rfl, hF, ow, rs, tu, hp, hi, rfl⟩
    have lv : vs.length = i := by rw [rs.length, List.length_map, List.length_range]
    have lu := tu.length
    obtain ⟨okN, lk⟩ := nsp hp
    by_cases hlt : i < (nS (stP T1 T2 both) m b0 i).length
    · walk_at "go"
      generalize pL = rA at *
      obtain ⟨N, hN⟩ : ∃ N, N = nS (stP T1 T2 both) m b0 i := ⟨_, rfl⟩
      rw [← hN] at ow tu okN lk hlt lu
      have hsN : atS N i ∈ N := atS_mem hlt
      have hsi : N[i]? = some (atS N i) := by unfold atS; rw [List.getElem?_eq_getElem hlt]; rfl
      obtain ⟨x, y, hxy, hx, hy⟩ := okN _ hsN
      obtain ⟨q0, hu0, hq0⟩ := tu.at hsi
      have hui : i < us.length := by omega
      generalize hs : atS N i = sA at *
      subst hxy
      refine for_range (fun c σ' H' => ∃ (F' : Hp) (us' : List V) (u10 u11 : Option V) (lo : Bool), σ' = [some (.ref a), some (.ref b), some (.int (m : Nat)), some (.bl both), some (.ref p), some (.bl lo), some (.ref pP), some (.ref nA), some (.ref fA), some (.ref rA), u10, u11] ∧ Same F F' ∧
        Own F' H' [(rA, .lst (accS N (rowS (stP T1 T2 both) m (pS x y)) c)), (fA, .lst vs), (nA, .lst us'), (pP, .dT (kvsF 0 (foldS N ((rowS (stP T1 T2 both) m (pS x y)).take c))))] ∧ TupsAt F' us' (foldS N ((rowS (stP T1 T2 both) m (pS x y)).take c)) ∧ us'[i]? = some (.ref q0)) ⟨F, us, _, _, _, rfl, Same.refl F, ow, tu, hu0⟩ ?_ ?_
      · rintro c σ' H9 hc ⟨F', us', u10, u11, lo, rfl, hF', ow, tu, hu1⟩
        have hc2 : c < m := by omega
        have hat : atI us' (vs.length : Int) = some (.ref q0) := by rw [lv]; exact at_nat rfl hu1
        have here : (rowS (stP T1 T2 both) m (pS x y))[c]? = some (stP T1 T2 both (pS x y) c) := rowS_at hc2 _
        have et : (rowS (stP T1 T2 both) m (pS x y)).take (c + 1) = (rowS (stP T1 T2 both) m (pS x y)).take c ++ [stP T1 T2 both (pS x y) c] := by rw [List.take_succ, here]; rfl
        have acs := accS_step (N := N) here
        rw [et, foldS_snoc, acs]
        have lac : (accS N (rowS (stP T1 T2 both) m (pS x y)) c).length = c := by unfold accS; rw [List.length_map, List.length_take, rowS_len]; omega
        have lN : (foldS N ((rowS (stP T1 T2 both) m (pS x y)).take c)).length ≤ 1000 := by
          have nd : (foldS N ((rowS (stP T1 T2 both) m (pS x y)).take c)).Nodup := nodup_foldS (by rw [hN]; exact nS_nodup i)
          refine Nat.le_trans (nodup_lenS (m := allP T1.length T2.length) nd fun z hz => ?_) (by rw [allP_len]; exact hn)
          refine okP_mem ?_
          rcases mem_foldS.mp hz with h | h
          · exact okN z h
          · obtain ⟨d, _, e⟩ := List.mem_map.mp (List.mem_of_mem_take h)
            exact okP_step ti1 ti2 e
        have lu' := tu.length
        generalize accS N (rowS (stP T1 T2 both) m (pS x y)) c = ac at *
        generalize foldS N ((rowS (stP T1 T2 both) m (pS x y)).take c) = N' at *
        walk_at "go"
        have FH := (hF.trans hF').trans ow.toSame
        have FH2 := fz2.trans FH
        refine ⟨a, b, q0, T1, T2, x, y, c, m, by rw [Int.zero_add]; rfl, ta.same FH2, tb.same FH2, SqT.of (ow.gets (hF' _ _ hq0)), hx, hy, hc2, h1, h2, fun r H10 nr s2 er => ?_⟩
        replace ow := ow.newS nr s2 er
        obtain ⟨fy1, fy2⟩ := ow.frz
        have hr0 : (upd F' r (.tup ((pS (fo2 T1 x c) (fo2 T2 y c)).map V.int))) r = some (.tup ((pS (fo2 T1 x c) (fo2 T2 y c)).map V.int)) := upd_same
        generalize upd F' r (.tup ((pS (fo2 T1 x c) (fo2 T2 y c)).map V.int)) = F2 at fy1 fy2 hr0
        clear ow
        have ow := fy1
        have tu2 := tu.same fy2
        have hF2 := hF'.trans fy2
        walk_at "go"
        refine r_lost ow hr0 rfl ?_
        intro H11 ow
        have est : stP T1 T2 both (pS x y) c = if lostP both (fo2 T1 x c) (fo2 T2 y c) = true then none else some (pS (fo2 T1 x c) (fo2 T2 y c)) := by unfold stP; rw [s1_pS, s2_pS]
        rw [est]
        cases hlo : lostP both (fo2 T1 x c) (fo2 T2 y c) with
        | true =>
          rw [if_pos rfl]
          walk_at "go"
          exact ⟨F2, us', _, _, _, rfl, hF2, ow, tu2, hu1⟩
        | false =>
          rw [if_neg (by decide)]
          generalize pS (fo2 T1 x c) (fo2 T2 y c) = s' at *
          walk_at "go"
          refine o_dnT (ow.get 3 rfl) (ow.gets hr0) ?_
          by_cases mem : s' ∈ N'
          · rw [decide_eq_true mem]
            walk_at "go"
            refine o_dgT (ow.get 3 rfl) (ow.gets hr0) mem ?_
            walk_at "go"
            have ea : addS N' (some s') = N' := by unfold addS insK; dsimp only; rw [if_pos mem]
            rw [ea]
            exact ⟨F2, us', _, _, _, rfl, hF2, ow, tu2, hu1⟩
          · rw [decide_eq_false mem]
            walk_at "go"
            refine o_dsetT ow (i := 3) rfl (ow.gets hr0) mem (by omega) (by rw [lu']) ?_
            intro H12 ow
            walk_at "ow"
            walk_at "go"
            refine o_dgT (ow.get 3 rfl) (ow.gets hr0) (List.mem_append_right _ (List.mem_singleton.mpr rfl)) ?_
            walk_at "go"
            have ea : addS N' (some s') = N' ++ [s'] := by unfold addS insK; dsimp only; rw [if_neg mem]
            rw [ea]
            exact ⟨F2, us' ++ [V.ref r], _, _, _, rfl, hF2, ow, tu2.snoc hr0, by rw [List.getElem?_append_left (List.getElem?_eq_some_iff.mp hu1).1]; exact hu1⟩
      · rintro σ' H9 ⟨F', us', u10, u11, lo, rfl, hF', ow, tu, hu1⟩
        have el : (rowS (stP T1 T2 both) m (pS x y)).take m = rowS (stP T1 T2 both) m (pS x y) := List.take_of_length_le (by rw [rowS_len]; exact Nat.le_refl _)
        have en : nS (stP T1 T2 both) m b0 (i + 1) = foldS N (rowS (stP T1 T2 both) m (pS x y)) := by
          show foldS (nS (stP T1 T2 both) m b0 i) (rowS (stP T1 T2 both) m (atS (nS (stP T1 T2 both) m b0 i) i)) = _
          rw [← hN, hs]
        have er : (roomS (stP T1 T2 both) m b0 i).map vO = accS N (rowS (stP T1 T2 both) m (pS x y)) m := by
          unfold roomS accS
          rw [en, ← hN, hs, el, List.map_map]
          rfl
        have em : ((m : Nat) : Int).toNat = m := by omega
        rw [em, el] at ow tu
        walk_at "go"
        obtain ⟨fy1, fy2⟩ := ow.frz
        obtain ⟨z, hz⟩ := foldS_pre (rowS (stP T1 T2 both) m (pS x y)) N
        refine ⟨_, ?_, i + 1, _, vs ++ [.ref rA], us', _, _, _, _, rfl, hF.trans (hF'.trans fy2), ?_, ?_, ?_, ?_, ?_, rfl⟩
        · omega
        · rw [en]
          exact fy1
        · rw [List.range_succ, List.map_append]
          exact RoomsAt.snoc ⟨rA, rfl, by rw [er]; exact SqL.of upd_same⟩ (rs.same (hF'.trans fy2))
        · rw [en]
          exact tu.same fy2
        · intro x' hx'
          by_cases z : x' = i
          · rw [z, ← hN]; exact hlt
          · exact hp x' (by omega)
        · rw [en, hz, List.length_append]
          omega
    · walk_at "go"
      refine q _ _ _ (.inr ⟨hl, i, ?_, rfl⟩) (same_none fz2 (same_none hF (ow.new0 g0))) (fz2.trans (hF.trans ow.toSame)) ⟨vs, SqL.of (ow.get 0 rfl), ?_⟩
      · rw [← hb0]
        exact ⟨by omega, hp⟩
      · rw [← hb0]
        exact rs.same ow.toSame
end

/-! the law's pool of draws -/
/-- a pool: its list -/
abbrev wl (x y z : Int) : HO := .lst [.int x, .int y, .int z]
structure WOk (y z : Int) : Prop where
  y0 : 0 ≤ y
  y1 : y < 2 ^ 62
  z0 : 0 ≤ z
  z1 : z ≤ 1000000
set_option hygiene false in
local macro_rules | `(tactic| walk_at "sd") => `(tactic| first
  | exact Bs.cpw 110 (by omega) (by omega) (by omega))
def sp_pool (K : PySem.W.Frag) : Sp := fun vs H Q _ => ∃ (a : Addr) (ns : List Int) (k : Nat), vs = [.ref a, .int k] ∧ SqL K H a (ns.map V.int) ∧ ns.length ≤ 63 ∧ k ≤ 63 ∧
  ∀ p x y H', H p = none → H' p = some (wl x y 0) → Same H H' → WOk y 0 → Q (.ref p) H'
/-- spans that the pool bears: hidden, for omega knows no such numbers -/
structure DrB (m : Int) : Prop where
  lt : m.natAbs < 2 ^ 2000
theorem drB {m : Int} (h : m < 2 ^ 100) (h1 : 1 ≤ m := by omega) : DrB m := ⟨Nat.lt_of_lt_of_le (show m.natAbs < 2 ^ 100 by omega) (Nat.pow_le_pow_right (by decide) (by decide))⟩
theorem drN {m : Int} (h : DrB m) (_ : 1 ≤ m) : m.natAbs < 2 ^ 2000 := h.lt
def sp_draw : Sp := fun vs H Q _ => ∃ (a : Addr) (x y z m : Int), vs = [.ref a, .int m] ∧ H a = some (wl x y z) ∧ WOk y z ∧ z < 1000000 ∧ 1 ≤ m ∧ DrB m ∧
  ∀ v x' z' H', 0 ≤ v → v < m → z ≤ z' → z' ≤ z + 1 → Mut a (wl x' y z') H H' → Q (.int v) H'

/-! the well of draws of the laws of counting -/


theorem sq_lt {i : Int} (a : Nat) (h0 : 0 ≤ i) (h : i < 2 ^ a) : i * i < 2 ^ (a + a) := by
  have h1 : i * i ≤ i * 2 ^ a := Int.mul_le_mul_of_nonneg_left (Int.le_of_lt h) h0
  have h2 : i * 2 ^ a < 2 ^ a * 2 ^ a := Int.mul_lt_mul_of_pos_right h (Int.pow_pos (by decide))
  rw [Int.pow_add]
  omega
set_option hygiene false in
local macro_rules | `(tactic| walk_at "sd") => `(tactic| first
  | assumption)
section
variable {P : Program} {w : World} {K : PySem.W.Frag} {mg : Str → Option Value} {base : Heap} {f : Addr} {fd : FuncData}
theorem ok__law_well (F : FnP K "_law_well" "_law_well" s__law_well f fd) (B : Bi mg)  : FnOk P w K mg base CX0 1 f fd ["_law_script", "_law_place"] (sp_pool K) := by
  refine F.ok sc__law_well (fun vs H Q E h => by walk_at "len") (fun cdv A outer s H vs Q E hr h => ?_)
  have nd := sc__law_well.nd
  obtain ⟨a, ns, k, rfl, hS, hl, hk, q⟩ := h
  refine ⟨_, PSs.nox (pss_cons (ps_set (i := 2) nd rfl (Or.inl rfl) pe_int)
      (pss_cons (ps_if (pt_cmpR op_lt (pv 1) (pe_callB cb_len rfl B.len (by decide +kernel) (pa_cons (pv 0) pa_nil)) (nomark _)) (pss_one (ps_set (i := 2) nd rfl (Or.inl rfl) (pe_ix ix_list (pv 0) (pv 1) (fun _ _ => rfl)))) pss_nil)
      (pss_one (ps_ret (pe_lst (pa_cons (pe_callB (cb_max2 rfl) rfl B.max (by decide +kernel) (pa_cons pe_int (pa_cons (pe_op op_sub (pe_callB cb_abs rfl B.abs (by decide +kernel) (pa_cons (pv 2) pa_nil)) (pe_op op_powW pe_int pe_int)) pa_nil))) (pa_cons (pe_op op_add (pe_op op_mod (pe_callTy cb_int1 rfl B.int (by decide +kernel) (pa_cons (pv 2) pa_nil)) pe_int) (pe_op op_mulO pe_int (pe_op op_add (pv 1) pe_int))) (pa_cons pe_int pa_nil)))))))), ?_⟩
  walk_at "s0"
  have ow := Own.start H
  walk_at "go"
  · rw [List.length_map] at hc
    refine r_ixL hS (at_map (by omega)) ?_
    walk_at "go"
    exact q pL _ _ H' (ow.new0 g0) (ow.get 0 rfl) ow.toSame_of ⟨by omega, by omega, by omega, by omega⟩
  · exact q pL _ _ H' (ow.new0 g0) (ow.get 0 rfl) ow.toSame_of ⟨by omega, by omega, by omega, by omega⟩
theorem ok__law_dip (F : FnP K "_law_dip" "_law_dip" s__law_dip f fd) (B : Bi mg)  : FnOk P w K mg base CX0 1 f fd ["_law_well_here", "_law_span"] (sp_draw) := by
  refine F.ok sc__law_dip (fun vs H Q E h => by walk_at "len") (fun cdv A outer s H vs Q E hr h => ?_)
  have nd := sc__law_dip.nd
  obtain ⟨a, x, y, z, m, rfl, ha, ⟨y0, y1, z0, z1⟩, hz, hm, hM, q⟩ := h
  have cdx : CDivW x m := cdivw 2000 (by omega) (drN hM hm) (by decide) (by decide)
  refine ⟨_, PSs.nox (pss_cons (ps_if (pt_cmpR op_gt (pe_ix ix_list (pv 0) pe_int (fun _ _ => rfl)) pe_int (nomark _)) (pss_cons (ps_set (i := 2) nd rfl (Or.inl rfl) (pe_op op_mod (pe_callTy cb_int1 rfl B.int (by decide +kernel) (pa_cons (pe_ix ix_list (pv 0) pe_int (fun _ _ => rfl)) pa_nil)) (pv 1)))
      (pss_cons (ps_asg (pe_op op_fdivW (pe_ix ix_list (pv 0) pe_int (fun _ _ => rfl)) (pv 1)) (pg_sub (pv 0) pe_int set_list))
      (pss_one (ps_ret (pv 2))))) pss_nil)
      (pss_cons (ps_asg (pe_op op_add (pe_ix ix_list (pv 0) pe_int (fun _ _ => rfl)) pe_int) (pg_sub (pv 0) pe_int set_list))
      (pss_cons (ps_set (i := 3) nd rfl (Or.inl rfl) (pe_ix ix_list (pv 0) pe_int (fun _ _ => rfl)))
      (C8.pss_cut (ps_set (i := 4) nd rfl (Or.inl rfl) (pe_op op_add (pe_ix ix_list (pv 0) pe_int (fun _ _ => rfl)) (pe_op op_mulO (pe_op op_mulO pe_int (pv 3)) (pv 3))))
      (C8.pss_cut (ps_set (i := 5) nd rfl (Or.inl rfl) (pe_op op_mod (pe_callTy cb_int1 rfl B.int (by decide +kernel) (pa_cons (pe_op op_powW (pv 4) pe_int) pa_nil)) pe_int))
      (C8.pss_cut (ps_set (i := 4) nd rfl (Or.inl rfl) (pe_op op_add (pe_op op_mulO (pv 5) (pv 5)) (pe_op op_mulO pe_int (pv 3))))
      (C8.pss_cut (ps_set (i := 5) nd rfl (Or.inl rfl) (pe_op op_mod (pe_callTy cb_int1 rfl B.int (by decide +kernel) (pa_cons (pe_op op_powW (pv 4) pe_int) pa_nil)) pe_int))
      (pss_one (ps_ret (pe_op op_mod (pe_callTy cb_int1 rfl B.int (by decide +kernel) (pa_cons (pe_op op_fdivW (pv 5) pe_int) pa_nil)) (pv 1))))))))))), ?_⟩
  walk_at "s0"
  have ow := Own.take1 ha
  walk_at "go"
  · exact q _ _ _ _ (Int.emod_nonneg _ (by omega)) (Int.emod_lt_of_pos _ (by omega)) (by omega) (by omega) (ow.mut_of g0)
  have w1 : z + 1 ≤ 1000000 := by omega
  have q0 : 0 ≤ z + 1 := by omega
  have s2 : (z + 1) * (z + 1) < 2 ^ 40 := sq_lt 20 q0 (by omega)
  have s2p : 0 ≤ (z + 1) * (z + 1) := Int.mul_nonneg q0 q0
  have m1 : IntMulOk 86028121 (z + 1) := mok_l (by decide) (by decide)
  have m2 : IntMulOk (86028121 * (z + 1)) (z + 1) := mok_r (by omega) (by omega)
  have e2 : 86028121 * (z + 1) * (z + 1) = 86028121 * ((z + 1) * (z + 1)) := Int.mul_assoc _ _ _
  refine r_cut (fun σ' H' => ∃ (se : Int) (u : Option V), σ' = [some (.ref a), some (.int m), none, some (.int (z + 1)), some (.int se), u] ∧ 0 ≤ se ∧ se < 2 ^ 80 ∧ Own (fun b => if b = a then none else H b) H' [(a, wl x y (z + 1))]) ?_ ?_
  · walk_at "go"
    exact ⟨by rw [e2]; omega, by rw [e2]; omega, ow⟩
  clear ow
  rintro σ' H1 ⟨se, u, rfl, se0, se1, ow⟩
  have c1 : CPw se 3 := cpw 80 (by decide) (by omega) (by decide)
  refine r_cut (fun σ' H' => ∃ (st : Int), σ' = [some (.ref a), some (.int m), none, some (.int (z + 1)), some (.int se), some (.int st)] ∧ 0 ≤ st ∧ st < 2 ^ 90 ∧ Own (fun b => if b = a then none else H b) H' [(a, wl x y (z + 1))]) ?_ ?_
  · walk_at "go"
    exact ⟨Int.emod_nonneg _ (by decide), Int.lt_trans (Int.emod_lt_of_pos _ (by decide)) (by decide), ow⟩
  clear ow
  rintro σ' H2 ⟨st, rfl, st0, st1, ow⟩
  have m3 : IntMulOk st st := mok_w 90 90 (by omega) (by omega) (by decide)
  have m4 : IntMulOk 982451653 (z + 1) := mok_l (by decide) (by decide)
  have sq := sq_lt 90 st0 st1
  have sqp : 0 ≤ st * st := Int.mul_nonneg st0 st0
  refine r_cut (fun σ' H' => ∃ (sf : Int), σ' = [some (.ref a), some (.int m), none, some (.int (z + 1)), some (.int sf), some (.int st)] ∧ 0 ≤ sf ∧ sf < 2 ^ 181 ∧ Own (fun b => if b = a then none else H b) H' [(a, wl x y (z + 1))]) ?_ ?_
  · walk_at "go"
    have : (2 : Int) ^ (90 + 90) = 2 ^ 180 := rfl
    exact ⟨by omega, by omega, ow⟩
  clear ow
  rintro σ' H3 ⟨sf, rfl, sf0, sf1, ow⟩
  have c2 : CPw sf 3 := cpw 181 (by decide) (by omega) (by decide)
  refine r_cut (fun σ' H' => ∃ (su : Int), σ' = [some (.ref a), some (.int m), none, some (.int (z + 1)), some (.int sf), some (.int su)] ∧ 0 ≤ su ∧ su < 2 ^ 130 ∧ Own (fun b => if b = a then none else H b) H' [(a, wl x y (z + 1))]) ?_ ?_
  · walk_at "go"
    exact ⟨Int.emod_nonneg _ (by decide), Int.lt_trans (Int.emod_lt_of_pos _ (by decide)) (by decide), ow⟩
  clear ow
  rintro σ' H4 ⟨su, rfl, su0, su1, ow⟩
  walk_at "go"
  exact q _ _ _ _ (Int.emod_nonneg _ (by omega)) (Int.emod_lt_of_pos _ (by omega)) (by omega) (by omega) (ow.mut_of g0)
end

/-! the law's names -/
theorem c_draw {F H : Hp} {L : List (Addr × HO)} {i : Nat} {a : Addr} {x y z m : Int} {Q : VK} {E : XK} (h : Own F H L) (e : L[i]? = some (a, wl x y z)) (wk : WOk y z) (hz : z < 1000000) (hm : 1 ≤ m) (hM : m < 2 ^ 100)
    (k : ∀ v x' z' H', 0 ≤ v → v < m → z ≤ z' → z' ≤ z + 1 → WOk y z' → Own F H' (L.set i (a, wl x' y z')) → Q (.int v) H') : sp_draw ([.ref a, .int m] ++ []) H Q E :=
  ⟨a, x, y, z, m, rfl, h.get i e, wk, hz, hm, drB hM, fun v x' z' H' v0 v1 h1 h2 mt => k v x' z' H' v0 v1 h1 h2 ⟨wk.y0, wk.y1, by have := wk.z0; omega, by omega⟩ (h.mut i e mt)⟩
theorem r_ixStr {z : Str} {i : Int} {c : Nat} {Q : VK} {H : Hp} (h : z.length ≤ 1000) (e : atI z.cps.toList i = some c) (k : Q (.str ⟨#[c]⟩) H) : rIxS (.str z) (.int i) H Q := ⟨z, i, c, rfl, rfl, Nat.le_trans h (by decide), e, k⟩
/-- the letter of a number -/
def letS (k : Nat) : Str := ⟨#[97 + k]⟩
def alph : Str := "abcdefghijklmnopqrstuvwxyz"
theorem alph_len : alph.length = 26 := by decide +kernel
theorem alph_at0 : ∀ k : Fin 26, alph.cps.toList[k.val]? = some (97 + k.val) := by decide +kernel
theorem alph_at {k : Nat} (h : k < 26) : atI alph.cps.toList (k : Int) = some (97 + k) := atI_nat (alph_at0 ⟨k, h⟩)
def lets (ks : List Nat) : List V := ks.map fun k => .str (letS k)
set_option hygiene false in
local macro_rules | `(tactic| walk_at "r1") => `(tactic| ((with_reducible refine' Bs.c_draw ?p1 ?p2 ?p3 ?p4 ?p5 ?p6 ?_); (case p1 => assumption); (case p2 => walk_at "oi"); (case p3 => assumption); (case p4 => omega); (case p5 => omega); (case p6 => omega); intro vw xw zw H' v0 v1 z0 z1 wk ow; walk_at "ow"))
def sp_lnames : Sp := fun vs H Q _ => ∃ (a : Addr) (x y z : Int) (c : Nat), vs = [.ref a, .int (c : Nat)] ∧ H a = some (wl x y z) ∧ WOk y z ∧ z + 10 ≤ 1000000 ∧ c ≤ 3 ∧
  ∀ ks x' z' r H', ks.length = c → ks.Pairwise (· < ·) → (∀ k ∈ ks, k < 26) → z ≤ z' → z' ≤ z + 4 → H r = none → Mut a (wl x' y z') H H' → H' r = some (.lst (lets ks)) → Q (.ref r) H'

/-! the names of the laws of counting -/

section
variable {P : Program} {w : World} {K : PySem.W.Frag} {mg : Str → Option Value} {base : Heap} {f : Addr} {fd : FuncData}
theorem ok__law_letters (F : FnP K "_law_letters" "_law_letters" s__law_letters f fd) (B : Bi mg) (c__law_dip : Fo P w K mg base CX0 1 "_law_dip" ["_law_well_here", "_law_span"] (sp_draw)) : FnOk P w K mg base CX0 2 f fd ["_law_well_here", "_law_count"] (sp_lnames) := by
  refine F.ok sc__law_letters (fun vs H Q E h => by walk_at "len") (fun cdv A outer s H vs Q E hr h => ?_)
  have nd := sc__law_letters.nd
  obtain ⟨a, x, y, z, c, rfl, ha, wk, hz, hc, q⟩ := h
  have z0 := wk.z0
  refine ⟨_, PSs.nox (pss_cons (ps_par (i := 2) (j := 3) rfl nd rfl rfl (by decide) rfl rfl (pa_cons (pe_lst pa_nil) (pa_cons (pe_fo c__law_dip hr (by decide) (pa_cons (pv 0) (pa_cons pe_int pa_nil))) pa_nil)) rfl)
      (pss_cons (ps_for PassesOwn.never rfl (pi_range1 rfl B.range (pa_cons (pv 1) pa_nil)) (pg_name (i := 4) nd rfl (.inl rfl))
      (pss_cons (ps_expr (pe_bm PySem.F.plainAttrs_list PySem.F.slot_list_append PySem.F.type_list_append mt_append (pv 2) (pa_cons (pe_ix ix_str pe_str (pv 3) (fun _ _ => rfl)) pa_nil)))
      (pss_one (ps_set (i := 3) nd rfl (Or.inl rfl) (pe_op op_add (pe_op op_add (pv 3) pe_int) (pe_fo c__law_dip hr (by decide) (pa_cons (pv 0) (pa_cons pe_int pa_nil))))))))
      (pss_one (ps_ret (pv 2))))), ?_⟩
  walk_at "s0"
  have ow := Own.take1 ha
  walk_at "go"
  refine for_range (fun i σ' H' => ∃ (ks : List Nat) (x' z' at_ : Int) (u4 : Option V), σ' = [some (.ref a), some (.int (c : Nat)), some (.ref pL), some (.int at_), u4] ∧ WOk y z' ∧ z ≤ z' ∧ z' ≤ z + 1 + i ∧ 0 ≤ at_ ∧ at_ ≤ 7 + 8 * i ∧ (∀ k ∈ ks, (k : Int) < at_ ∧ (k : Int) < 8 * i) ∧ ks.Pairwise (· < ·) ∧ ks.length = i ∧
    Own (fun b => if b = a then none else H b) H' [(pL, .lst (lets ks)), (a, wl x' y z')]) ⟨[], _, _, vw, _, rfl, wk, z0, by omega, v0, by omega, fun k hk => absurd hk List.not_mem_nil, .nil, rfl, ow⟩ ?_ ?_
  · rintro i σ' H1 hi ⟨ks, x', z', at_, u5, rfl, wk, z2, z3, a0, a1, hk, asc, lk, ow⟩
    obtain ⟨n, rfl⟩ := Int.eq_ofNat_of_zero_le a0
    have hn : n < 26 := by omega
    have la : alph.length ≤ 1000 := by rw [alph_len]; decide
    walk_at "go"
    refine r_ixStr la (alph_at hn) ?_
    walk_at "go"
    refine o_app ow (i := 0) rfl (by unfold lets; rw [List.length_map]; omega) ?_
    intro H2 ow
    walk_at "ow"
    walk_at "go"
    refine ⟨ks ++ [n], xw, zw, _, _, rfl, wk, by omega, by omega, by omega, by omega, ?_, ?_, ?_, ?_⟩
    · intro k hk2
      rcases List.mem_append.mp hk2 with h | h
      · have := hk k h; constructor <;> omega
      · rw [List.mem_singleton.mp h]; constructor <;> omega
    · rw [List.pairwise_append]
      exact ⟨asc, List.pairwise_singleton _ _, fun k hk2 m hm => by rw [List.mem_singleton.mp hm]; have := hk k hk2; omega⟩
    · rw [List.length_append, lk]; rfl
    · unfold lets at ow ⊢
      rw [List.map_append]
      exact ow
  · rintro σ' H1 ⟨ks, x', z', at_, u5, rfl, wk, z2, z3, a0, a1, hk, asc, lk, ow⟩
    walk_at "go"
    exact q ks x' z' pL H1 (by omega) asc (fun k h => by have := hk k h; omega) z2 (by omega) np (ow.mut_of g1) (ow.get 0 rfl)
end

/-! the law's tables -/
/-- what is new behind a call, but for one object -/
def newB (H H' : Hp) (r : Addr) : Hp := fun c => if c = r then none else if (H c).isSome then none else H' c
theorem Own.rebase {F H H' : Hp} {L : List (Addr × HO)} {i : Nat} {a r : Addr} {u o v : HO} (h : Own F H L) (e : L[i]? = some (a, u)) (m : Mut a o H H') (nr : H r = none) (er : H' r = some v) : ∃ F2, Own F2 H' ((r, v) :: L.set i (a, o)) ∧ Same F F2 ∧ Same (newB H H' r) F2 := by
  have hm : ∀ c, c ∈ L.map Prod.fst → ∃ j w, L[j]? = some (c, w) := fun c hc => by
    obtain ⟨⟨c', w⟩, hw, rfl⟩ := List.mem_map.mp hc
    obtain ⟨j, hj, ew⟩ := List.mem_iff_getElem.mp hw
    exact ⟨j, w, by rw [List.getElem?_eq_getElem hj, ew]⟩
  have h2 := h.mut i e m
  have mf : (L.set i (a, o)).map Prod.fst = L.map Prod.fst := by
    rw [List.map_set]
    obtain ⟨li, el⟩ := List.getElem?_eq_some_iff.mp e
    have : (L.map Prod.fst)[i]'(by rw [List.length_map]; exact li) = a := by rw [List.getElem_map, el]
    rw [← this]
    exact List.set_getElem_self _
  have hr : r ∉ L.map Prod.fst := fun z => by
    obtain ⟨j, w, ej⟩ := hm r z
    have := h.get j ej
    rw [nr] at this
    cases this
  refine ⟨fun c => if c = r ∨ c ∈ L.map Prod.fst then none else H' c, ⟨fun c w hc => ?_, fun j c w hc => ?_, ?_⟩, fun c w hc => ?_, fun c w hc => ?_⟩
  · by_cases z : c = r ∨ c ∈ L.map Prod.fst
    · rw [if_pos z] at hc; cases hc
    · rw [if_neg z] at hc; exact hc
  · cases j with
    | zero =>
      simp at hc
      obtain ⟨rfl, rfl⟩ := hc
      exact ⟨er, if_pos (.inl rfl)⟩
    | succ j =>
      have hc' : (L.set i (a, o))[j]? = some (c, w) := by simpa using hc
      refine ⟨h2.get j hc', if_pos (.inr ?_)⟩
      rw [← mf]
      exact List.mem_map.mpr ⟨(c, w), List.mem_of_getElem? hc', rfl⟩
  · rw [List.map_cons, mf]
    have := h2.nd
    rw [mf] at this
    exact List.nodup_cons.mpr ⟨hr, this⟩
  · have n1 : ¬ (c = r ∨ c ∈ L.map Prod.fst) := fun z => by
      rcases z with z | z
      · have := h.sub c w hc
        rw [z, nr] at this
        cases this
      · obtain ⟨j, w2, ej⟩ := hm c z
        have := (h.own j c w2 ej).2
        rw [hc] at this
        cases this
    show (if _ then _ else _) = _
    rw [if_neg n1]
    exact h2.sub c w hc
  · unfold newB at hc
    split at hc
    · cases hc
    · rename_i n1
      split at hc
      · cases hc
      · rename_i n2
        show (if _ then _ else _) = _
        rw [if_neg]
        · exact hc
        · rintro (z | z)
          · exact n1 z
          · obtain ⟨j, w2, ej⟩ := hm c z
            rw [h.get j ej] at n2
            exact n2 rfl
theorem fresh_of {H F H1 : Hp} {L : List (Addr × HO)} {i : Nat} {a p : Addr} {o : HO} (s : Same (fun c => if c = a then none else H c) F) (h : Own F H1 L) (e : L[i]? = some (a, o)) (n : H1 p = none) : H p = none := by
  cases z : H p with
  | none => rfl
  | some u =>
    by_cases y : p = a
    · rw [y, h.get i e] at n; cases n
    · have := h.sub p u (s p u (by show (if p = a then none else H p) = _; rw [if_neg y]; exact z))
      rw [n] at this
      cases this
def sp_ltable (K : PySem.W.Frag) : Sp := fun vs H Q _ => ∃ (a : Addr) (x y z : Int) (m n : Nat), vs = [.ref a, .int (m : Nat), .int (n : Nat)] ∧ H a = some (wl x y z) ∧ WOk y z ∧ z + 400 ≤ 1000000 ∧ m ≤ 8 ∧ n ≤ 20 ∧
  ∀ (T : Tab) x' z' r us H', T.length ≤ n → TIn T → (∀ q ∈ T, q.length = m) → z ≤ z' → z' ≤ z + 400 → H r = none → Mut a (wl x' y z') H H' → H' r = some (.lst us) → RoomsAt K (newB H H' r) us T → Q (.ref r) H'

/-! solutions: what they are, what they tell -/





/-- an object that is solutions with these names and this least table -/
structure SolAt (K : PySem.W.Frag) (CS : Addr) (H : Hp) (p : Addr) (ns : List Str) (T : Tab) : Prop where
  ok : okN ns = true
  can : Canon (2 ^ ns.length) T
  len : T.length ≤ 1000
  at_ : ∃ dx t r, H p = some (.ins CS dx (sfl (.ref t) (.ref r))) ∧ SqT K H t (ns.map V.str) ∧ TabAt K H r T
theorem listof_K {X : Cx} {K : PySem.W.Frag} (h : X.K = K) : CallR X (.type "list") (rLof K) := h ▸ cb_listof
theorem okN_len {ns : List Str} (h : okN ns = true) : 1 ≤ ns.length ∧ ns.length ≤ 3 := ⟨of_decide_eq_true (ban (ban h).1).1, of_decide_eq_true (ban (ban h).1).2⟩
theorem okN_one {ns : List Str} (h : okN ns = true) : ∀ x ∈ ns, x.length = 1 := fun x hx => by
  obtain ⟨i, hi, rfl⟩ := List.mem_iff_getElem.mp hx
  have := List.all_eq_true.mp (ban h).2 i (List.mem_range.mpr hi)
  unfold okAt at this
  have := (ban this).1
  rw [List.getElem?_eq_getElem hi] at this
  have h2 : isL ns[i] = true := this
  unfold isL at h2
  exact of_decide_eq_true (ban h2).1
theorem SolAt.same {K : PySem.W.Frag} {CS : Addr} {H H' : Hp} {p : Addr} {ns : List Str} {T : Tab} (h : SolAt K CS H p ns T) (s : Same H H') : SolAt K CS H' p ns T := by
  obtain ⟨a, b, c, dx, t, r, e, st, tt⟩ := h
  exact ⟨a, b, c, dx, t, r, s _ _ e, sqT_same s st, tt.same s⟩
theorem SolAt.l3 {K : PySem.W.Frag} {CS : Addr} {H : Hp} {p : Addr} {ns : List Str} {T : Tab} (h : SolAt K CS H p ns T) : ns.length ≤ 3 := (okN_len h.ok).2
theorem SolAt.wide {K : PySem.W.Frag} {CS : Addr} {H : Hp} {p : Addr} {ns : List Str} {T : Tab} (h : SolAt K CS H p ns T) : ∀ r ∈ T, r.length ≤ 1000 := fun r hr => by
  rw [h.can.rows r hr]
  exact Nat.le_trans (Nat.pow_le_pow_right (by decide) h.l3) (by decide)
/-! data: texts, tables -/
theorem dp_strs {K : PySem.W.Frag} {H : Hp} : ∀ ns : List Str, DpAll K H (ns.map V.str) (ns.map PyData.str)
  | [] => .nil
  | n :: ns => .cons (.str n) (dp_strs ns)
/-- texts that can be laid out -/
def OkS (ns : List Str) : Prop := ∀ x ∈ ns, PyData.strOk x = true
theorem lay_strs : ∀ ns : List Str, OkS ns → PyData.canLayAll0 (ns.map PyData.str) = true
  | [], _ => rfl
  | n :: ns, h => by
    show (PyData.strOk n && PyData.canLayAll0 (ns.map PyData.str)) = true
    rw [lay_strs ns fun x hx => h x (List.mem_cons_of_mem _ hx), h n List.mem_cons_self]; rfl
theorem isL_ok {x : Str} (h : isL x = true) : PyData.strOk x = true := by
  unfold isL at h
  obtain ⟨h1, h2⟩ := ban h
  have l1 := of_decide_eq_true h1
  obtain ⟨_, h3⟩ := ban h2
  unfold PyData.strOk
  obtain ⟨⟨l⟩⟩ := x
  have l1' : l.length = 1 := l1
  obtain ⟨c, rfl⟩ := List.length_eq_one_iff.mp l1'
  have h4 : ¬ (("z" : Str).cps.toList < [c]) := by simpa using h3
  have h5 : ¬ ([122] < [c]) := h4
  have h6 : c ≤ 122 := by
    rcases Nat.lt_or_ge 122 c with z | z
    · exact absurd (List.Lex.rel z) h5
    · exact z
  simp
  omega
theorem okN_S {ns : List Str} (h : okN ns = true) : OkS ns := fun x hx => by
  obtain ⟨i, hi, rfl⟩ := List.mem_iff_getElem.mp hx
  have := List.all_eq_true.mp (ban h).2 i (List.mem_range.mpr hi)
  unfold okAt at this
  have := (ban this).1
  rw [List.getElem?_eq_getElem hi] at this
  exact isL_ok this
theorem dep_strs : ∀ ns : List Str, PyData.depthAll (ns.map PyData.str) = 0
  | [] => rfl
  | n :: ns => by
    show max (PyData.depth (.str n)) (PyData.depthAll (ns.map PyData.str)) = 0
    rw [dep_strs ns]; rfl
theorem sh_strs {ns : List Str} (ok : OkS ns) : SeqAt.shaped (.list (ns.map PyData.str)) = true := by
  have h1 : PyData.canLay0 (.list (ns.map PyData.str)) = true := lay_strs ns ok
  have h2 : PyData.depth (.list (ns.map PyData.str)) ≤ 64 := by
    show PyData.depthAll (ns.map PyData.str) + 1 ≤ 64
    rw [dep_strs]; decide
  unfold SeqAt.shaped
  rw [h1, decide_eq_true h2]
  rfl
theorem sh_strsT {ns : List Str} (ok : OkS ns) : SeqAt.shaped (.tuple (ns.map PyData.str)) = true := by
  have h1 : PyData.canLay0 (.tuple (ns.map PyData.str)) = true := lay_strs ns ok
  have h2 : PyData.depth (.tuple (ns.map PyData.str)) ≤ 64 := by
    show PyData.depthAll (ns.map PyData.str) + 1 ≤ 64
    rw [dep_strs]; decide
  unfold SeqAt.shaped
  rw [h1, decide_eq_true h2]
  rfl
theorem eqv_strs : ∀ ns ms : List Str, PyData.eqvAll (ns.map PyData.str) (ms.map PyData.str) = decide (ns = ms)
  | [], [] => by simp [PyData.eqvAll]
  | [], _ :: _ => by simp [PyData.eqvAll]
  | _ :: _, [] => by simp [PyData.eqvAll]
  | n :: ns, m :: ms => by
    rw [List.map_cons, List.map_cons, PyData.eqvAll, eqv_strs ns ms, PyData.eqv]
    by_cases h1 : n = m
    · subst h1
      simp
    · simp [h1]
theorem eqv_pO (e d : Option Nat) : PyData.eqv (pO e) (pO d) = decide (e = d) := by
  cases e with
  | none => cases d <;> simp [pO, PyData.eqv]
  | some n =>
    cases d with
    | none => simp [pO, PyData.eqv]
    | some k =>
      show (((n : Nat) : Int) == ((k : Nat) : Int)) = _
      by_cases h : n = k
      · subst h; simp
      · have : ¬ ((n : Int) = (k : Int)) := fun z => h (Int.ofNat.inj z)
        simp [h, this]
theorem eqv_row : ∀ r q : List (Option Nat), PyData.eqvAll (r.map pO) (q.map pO) = decide (r = q)
  | [], [] => by simp [PyData.eqvAll]
  | [], _ :: _ => by simp [PyData.eqvAll]
  | _ :: _, [] => by simp [PyData.eqvAll]
  | e :: r, d :: q => by
    rw [List.map_cons, List.map_cons, PyData.eqvAll, eqv_row r q, eqv_pO]
    by_cases h1 : e = d
    · subst h1
      simp
    · simp [h1]
theorem eqv_tab : ∀ A B : Tab, PyData.eqvAll (A.map pR) (B.map pR) = decide (A = B)
  | [], [] => by simp [PyData.eqvAll]
  | [], _ :: _ => by simp [PyData.eqvAll]
  | _ :: _, [] => by simp [PyData.eqvAll]
  | r :: A, q :: B => by
    rw [List.map_cons, List.map_cons, PyData.eqvAll, eqv_tab A B]
    show (PyData.eqvAll (r.map pO) (q.map pO) && _) = _
    rw [eqv_row]
    by_cases h1 : r = q
    · subst h1
      simp
    · simp [h1]
section
variable {K : PySem.W.Frag} {H : Hp} {a b : Addr} {ns ms : List Str} {A B : Tab} {Q : VK}
theorem r_neStrs (o1 : OkS ns) (o2 : OkS ms) (s1 : SqL K H a (ns.map V.str)) (s2 : SqL K H b (ms.map V.str)) (k : Q (.bl (!decide (ns = ms))) H) : rNeD K (.ref a) (.ref b) H Q :=
  ⟨_, _, .lst s1 (dp_strs ns), .lst s2 (dp_strs ms), sh_strs o1, sh_strs o2, by
    show Q (.bl (!PyData.eqvAll _ _)) H
    rw [eqv_strs]; exact k⟩
theorem r_eqStrs (o1 : OkS ns) (o2 : OkS ms) (s1 : SqL K H a (ns.map V.str)) (s2 : SqL K H b (ms.map V.str)) (k : Q (.bl (decide (ns = ms))) H) : rEqD K (.ref a) (.ref b) H Q :=
  ⟨_, _, .lst s1 (dp_strs ns), .lst s2 (dp_strs ms), sh_strs o1, sh_strs o2, by
    show Q (.bl (PyData.eqvAll _ _)) H
    rw [eqv_strs]; exact k⟩
theorem r_eqStrsT (o1 : OkS ns) (o2 : OkS ms) (s1 : SqT K H a (ns.map V.str)) (s2 : SqT K H b (ms.map V.str)) (k : Q (.bl (decide (ns = ms))) H) : rEqD K (.ref a) (.ref b) H Q :=
  ⟨_, _, .tup s1 (dp_strs ns), .tup s2 (dp_strs ms), sh_strsT o1, sh_strsT o2, by
    show Q (.bl (PyData.eqvAll _ _)) H
    rw [eqv_strs]; exact k⟩
theorem r_eqTab (s1 : TabAt K H a A) (s2 : TabAt K H b B) (k : Q (.bl (decide (A = B))) H) : rEqD K (.ref a) (.ref b) H Q :=
  ⟨_, _, s1.dp, s2.dp, sh_tab A, sh_tab B, by
    show Q (.bl (PyData.eqvAll _ _)) H
    rw [eqv_tab]; exact k⟩
theorem r_neTab (s1 : TabAt K H a A) (s2 : TabAt K H b B) (k : Q (.bl (!decide (A = B))) H) : rNeD K (.ref a) (.ref b) H Q :=
  ⟨_, _, s1.dp, s2.dp, sh_tab A, sh_tab B, by
    show Q (.bl (!PyData.eqvAll _ _)) H
    rw [eqv_tab]; exact k⟩
end
theorem sfl_n (x y : V) : (sfl x y).lookup ("kept_names" : Str) = some x := by simp [List.lookup]
theorem sfl_r (x y : V) : (sfl x y).lookup ("rooms" : Str) = some y := by
  have e : (("rooms" : Str) == ("kept_names" : Str)) = false := by decide +kernel
  simp [List.lookup, e]
set_option hygiene false in
local macro_rules | `(tactic| walk_at "lk") => `(tactic| first | exact Bs.sfl_n _ _ | exact Bs.sfl_r _ _)
/-- what isinstance asks of solutions -/
structure STy (K : PySem.W.Frag) (C : Addr) : Prop where
  cl : Cls K C
  ha : PySem.W.findIn K (.ref C) "__class__" = some (some (.builtin "object.__class__"))
  hn : PySem.W.specialIn K (.builtin "object.__class__") "__get__" = some (some (.builtin "getset_descriptor.__get__"))
  ht : PySem.W.takesIn K (.builtin "object.__class__") = some true
  hm : PySem.W.mroIn K C (.type "object") = some true
  k1 : PySem.W.kitOne K (.ref C) (.ref C) = some true
theorem r_isiSo {K : PySem.W.Frag} {C a dx : Addr} {H : Hp} {Q : VK} {fs : List (Str × V)} (ty : STy K C) (e : H a = some (.ins C dx fs)) (k : Q (.bl true) H) : rIsi K [.ref a, .ref C] H Q := ⟨_, _, _, _, true, rfl, .own C, .base (.ins e ty.cl ty.ha ty.hn ty.ht ty.hm), ty.k1, k⟩
def sp_alike (K : PySem.W.Frag) (I : Addr) : Sp := fun vs H Q E => ∃ (a b : Addr) (ns ms : List Str), vs = [.ref a, .ref b] ∧ SqL K H a (ns.map V.str) ∧ SqL K H b (ms.map V.str) ∧ OkS ns ∧ OkS ms ∧
  (ns = ms → ∀ H', Same H H' → Q .non H') ∧ (ns ≠ ms → ∀ d t H', Same H H' → H d = none → H t = none → H' d = some (.xd [("value", .ref t)]) → H' t = some (.tup [.ref a, .ref b]) → E (.ref I) (some d) H')
def sp_Snames (K : PySem.W.Frag) (CS : Addr) : Sp := fun vs H Q _ => ∃ (p : Addr) (ns : List Str) (T : Tab), vs = [.ref p] ∧ SolAt K CS H p ns T ∧ ∀ l H', H l = none → Same H H' → H' l = some (.lst (ns.map V.str)) → Q (.ref l) H'
/-- rooms that may be changed -/
def RoomsX (H : Hp) (us : List V) (T : Tab) : Prop := us.length = T.length ∧ ∀ (i : Nat) (r : List (Option Nat)), T[i]? = some r → ∃ a, us[i]? = some (.ref a) ∧ H a = some (.lst (r.map vO))
theorem RoomsX.to {K : PySem.W.Frag} {H : Hp} : ∀ {us : List V} {T : Tab}, RoomsX H us T → RoomsAt K H us T
  | [], [], _ => .nil
  | [], _ :: _, h => by cases h.1
  | _ :: _, [], h => by cases h.1
  | u :: us, r :: T, h => by
    obtain ⟨a, e, g⟩ := h.2 0 r rfl
    cases e
    exact .cons ⟨a, rfl, SqL.of g⟩ (RoomsX.to ⟨by simpa using h.1, fun i r e => h.2 (i + 1) r e⟩)
theorem RoomsX.same {H H' : Hp} {us : List V} {T : Tab} (h : RoomsX H us T) (s : Same H H') : RoomsX H' us T := ⟨h.1, fun i r e => by
  obtain ⟨a, g, k⟩ := h.2 i r e
  exact ⟨a, g, s _ _ k⟩⟩
theorem RoomsX.snoc {H : Hp} {us : List V} {T : Tab} {a : Addr} {r : List (Option Nat)} (h : RoomsX H us T) (e : H a = some (.lst (r.map vO))) : RoomsX H (us ++ [.ref a]) (T ++ [r]) := by
  refine ⟨by simp [h.1], fun i r' q => ?_⟩
  rcases Nat.lt_trichotomy i T.length with z | z | z
  · rw [List.getElem?_append_left z] at q
    rw [List.getElem?_append_left (by rw [h.1]; exact z)]
    exact h.2 i r' q
  · subst z
    rw [List.getElem?_append_right (Nat.le_refl _), Nat.sub_self] at q
    cases q
    rw [← h.1, List.getElem?_append_right (Nat.le_refl _), Nat.sub_self]
    exact ⟨a, rfl, e⟩
  · rw [List.getElem?_eq_none (by simp; omega)] at q
    cases q
/-- a table that is new, and so is each room -/
def NewTab (K : PySem.W.Frag) (H H' : Hp) (r : Addr) (T : Tab) : Prop := H r = none ∧ ∃ us, H' r = some (.lst us) ∧ RoomsX (newB H H' r) us T
def sp_Stable (K : PySem.W.Frag) (CS : Addr) : Sp := fun vs H Q _ => ∃ (p : Addr) (ns : List Str) (T : Tab), vs = [.ref p] ∧ SolAt K CS H p ns T ∧ ∀ r H', Same H H' → NewTab K H H' r T → Q (.ref r) H'
def sp_Sbool (K : PySem.W.Frag) (CS : Addr) : Sp := fun vs H Q _ => ∃ (p : Addr) (ns : List Str) (T : Tab), vs = [.ref p] ∧ SolAt K CS H p ns T ∧ ∀ H', Same H H' → Q (.bl (!decide (T = []))) H'
def sp_Seq (K : PySem.W.Frag) (CS : Addr) : Sp := fun vs H Q _ => ∃ (p q : Addr) (ns ms : List Str) (A B : Tab), vs = [.ref p, .ref q] ∧ SolAt K CS H p ns A ∧ SolAt K CS H q ms B ∧ ∀ H', Same H H' → Q (.bl (decide (ns = ms ∧ A = B))) H'
section
variable {P : Program} {w : World} {K : PySem.W.Frag} {mg : Str → Option Value} {base : Heap} {CS aUnlikeNames f : Addr} {fd : FuncData}
theorem ok_check_alike (F : FnP K "check_alike" "check_alike" s_check_alike f fd) (B : Bi mg) (x_UnlikeNames : Xc P w K mg base "UnlikeNames" aUnlikeNames) : FnOk P w K mg base (L2.CX P w) 3 f fd ["names", "other_names"] (sp_alike K aUnlikeNames) := by
  refine F.ok sc_check_alike (fun vs H Q E h => by walk_at "len") (fun cdv A outer s H vs Q E hr h => ?_)
  have nd := sc_check_alike.nd
  obtain ⟨a, b, ns, ms, rfl, s1, s2, o1, o2, q1, q2⟩ := h
  refine ⟨_, pss_one (ps_if (pt_cmpR (op_neD hr.units) (pv 0) (pv 1) (nomark _)) (pss_one (ps_rx rfl (takes_of rfl rfl rfl rfl) x_UnlikeNames hr (by decide) (pa_cons (pe_tup (pa_cons (pv 0) (pa_cons (pv 1) pa_nil))) pa_nil) (mo_cons (mo_tup (mo_cons mo_var (mo_cons mo_var mo_nil))) mo_nil))) pss_nil), ?_⟩
  walk_at "s0"
  have ow := Own.start H
  walk_at "go"
  refine r_neStrs o1 o2 s1 s2 ?_
  by_cases e : ns = ms
  · rw [decide_eq_true e]
    walk_at "go"
    exact q1 e H ow.toSame_of
  · rw [decide_eq_false e]
    walk_at "go"
    exact q2 e dX pT H' ow.toSame_of (ow.new0 g0) (ow.new0 g1) (ow.get 0 rfl) (ow.get 1 rfl)
theorem ok_Solutions_names (F : FnP K "names" "Solutions.names" s_Solutions_names f fd) (B : Bi mg) (clS : Cls K CS) (nSn : NoAttr K CS "kept_names") : FnOk P w K mg base CX0 1 f fd ["self"] (sp_Snames K CS) := by
  refine F.ok sc_Solutions_names (fun vs H Q E h => by walk_at "len") (fun cdv A outer s H vs Q E hr h => ?_)
  have nd := sc_Solutions_names.nd
  obtain ⟨p, ns, T, rfl, so, q⟩ := h
  obtain ⟨dx, t, r, ep, st, tt⟩ := so.at_
  refine ⟨_, PSs.nox (pss_one (ps_ret (pe_callTy cb_listof rfl B.list (by decide +kernel) (pa_cons (pe_fld (pv 0) rfl) pa_nil)))), ?_⟩
  walk_at "s0"
  have ow := Own.start H
  have sE : SqE K H t (ns.map V.str) := .inr st
  walk_at "go"
  exact q pL H' (ow.new0 g0) ow.toSame_of (ow.get 0 rfl)
theorem ok_Solutions___bool__ (F : FnP K "__bool__" "Solutions.__bool__" s_Solutions___bool__ f fd) (B : Bi mg) (clS : Cls K CS) (nSr : NoAttr K CS "rooms") : FnOk P w K mg base CX0 1 f fd ["self"] (sp_Sbool K CS) := by
  refine F.ok sc_Solutions___bool__ (fun vs H Q E h => by walk_at "len") (fun cdv A outer s H vs Q E hr h => ?_)
  have nd := sc_Solutions___bool__.nd
  obtain ⟨p, ns, T, rfl, so, q⟩ := h
  obtain ⟨dx, t, r, ep, st, vs, sq, ra⟩ := so.at_
  refine ⟨_, PSs.nox (pss_one (ps_ret (pe_cmpR op_gt (pe_callB cb_len rfl B.len (by decide +kernel) (pa_cons (pe_fld (pv 0) rfl) pa_nil)) pe_int (nomark _)))), ?_⟩
  walk_at "s0"
  have ow := Own.start H
  have lv := ra.length
  have lT : T.length = 0 ↔ T = [] := List.length_eq_zero_iff
  walk_at "go"
  have e : decide ((vs.length : Int) > 0) = !decide (T = []) := by
    rw [lv]
    by_cases z : T = []
    · subst z; rfl
    · rw [decide_eq_false z, decide_eq_true (show ((T.length : Nat) : Int) > 0 from by have := mt lT.mp z; omega)]; rfl
  rw [show decide (0 < (vs.length : Int)) = !decide (T = []) from e]
  exact q H (Same.refl H)
theorem ok_Solutions_table (F : FnP K "table" "Solutions.table" s_Solutions_table f fd) (B : Bi mg) (clS : Cls K CS) (nSr : NoAttr K CS "rooms") : FnOk P w K mg base CX0 1 f fd ["self"] (sp_Stable K CS) := by
  refine F.ok sc_Solutions_table (fun vs H Q E h => by walk_at "len") (fun cdv A outer s H vs Q E hr h => ?_)
  have nd := sc_Solutions_table.nd
  obtain ⟨p, ns, T, rfl, so, q⟩ := h
  obtain ⟨dx, t, r, ep, st, vs, sq, ra⟩ := so.at_
  refine ⟨_, PSs.nox (pss_one (ps_ret (pe_lc (own := [("room", 1)]) (g := gName 1) (tt := tYes) (by rfl) nd (pi_list (pe_fld (pv 0) rfl)) (blkOk_by (own := [("room", 1)]) (N := ["self", "room"]) (sc := defScope s_Solutions_table) (by decide +kernel)) (fun _ _ _ _ _ => pg_name (i := 1) nd rfl (Or.inl rfl)) (fun _ _ _ _ _ => pts_nil) (fun _ _ _ _ _ => (pe_callTy (listof_K (K := K) rfl) (by rfl) (by exact B.list) (by decide +kernel) (pa_cons (pv 1) pa_nil)))))), ?_⟩
  walk_at "s0"
  have ow := Own.start H
  have lv := ra.length
  have ln := so.len
  walk_at "go"
  refine r_lc ?_
  walk_at "go"
  refine c_ilS sq ?_
  refine c_lcJ vs.length (by omega) (fun _ => rfl) (fun D i acc H' => ∃ F, Same H F ∧ Own F H' [(D, .lst acc)] ∧ RoomsX (newF H F) acc (T.take i)) (fun D nD => ⟨H, Same.refl H, ow.new nD, rfl, fun i r e => (by simp at e)⟩) ?_ ?_ ?_ ?_
  · rintro D i acc H1 ⟨F, sF, ow, rs⟩ hi
    exact itl_go ((sF.trans ow.toSame).seq sq) hi
  · rintro D acc H1 ⟨F, sF, ow, rs⟩
    exact itl_stop ((sF.trans ow.toSame).seq sq)
  · rintro D i acc H1 x H2 R hi la ⟨F, sF, ow2, rs⟩ ⟨rfl, hy⟩ hR
    clear ow
    have ow := ow2
    have hx := hy _ ((sF.trans ow.toSame).seq sq)
    obtain ⟨rr, hr⟩ : ∃ r, T[i]? = some r := ⟨_, List.getElem?_eq_getElem (by omega)⟩
    obtain ⟨v, hv, ar, rfl, sr⟩ := ra.at hr
    rw [hx] at hv
    cases hv
    have sE : SqE K H2 ar (rr.map vO) := .inl ((sF.trans ow.toSame).seq sr)
    have et : T.take (i + 1) = T.take i ++ [rr] := by rw [List.take_succ, hr]; rfl
    walk_at "go"
    obtain ⟨f1, f2⟩ := ow.frz
    refine hR _ _ (f1.get 0 rfl) ⟨_, sF.trans f2, f1.put 0 rfl, ?_⟩
    rw [et]
    refine RoomsX.snoc (rs.same (newF_mono f2)) ?_
    unfold newF
    rw [same_none (sF.trans ow2.toSame) np]
    exact upd_same
  · rintro D acc H1 nD ⟨F, sF, ow2, rs⟩ la
    clear ow
    have ow := ow2
    rw [lv, List.take_length] at rs
    walk_at "go"
    refine q D H1 (sF.trans ow.toSame) ⟨nD, acc, ow.get 0 rfl, rs.same fun c o e => ?_⟩
    unfold newF at e
    unfold newB
    split at e
    · cases e
    · rename_i n1
      have nA : c ≠ D := fun z => by
        have := (ow.own 0 D _ rfl).2
        rw [z, this] at e
        cases e
      rw [if_neg nA, if_neg n1]
      exact ow.sub c o e
theorem ok_Solutions___eq__ (F : FnP K "__eq__" "Solutions.__eq__" s_Solutions___eq__ f fd) (B : Bi mg) (g_Solutions : mg "Solutions" = some (.ref CS)) (clS : Cls K CS) (nSn : NoAttr K CS "kept_names") (nSr : NoAttr K CS "rooms") (ty_Solutions : STy K CS) : FnOk P w K mg base CX0 2 f fd ["self", "other"] (sp_Seq K CS) := by
  refine F.ok sc_Solutions___eq__ (fun vs H Q E h => by walk_at "len") (fun cdv A outer s H vs Q E hr h => ?_)
  have nd := sc_Solutions___eq__.nd
  obtain ⟨p, q', ns, ms, T1, T2, rfl, so1, so2, q⟩ := h
  obtain ⟨dx, t, r, ep, st, tt⟩ := so1.at_
  obtain ⟨dy, t', r', eq', st', tt'⟩ := so2.at_
  refine ⟨_, PSs.nox (pss_cons (ps_if (pt_not (pt_val (pe_callB call_isi rfl B.isinstance (by decide +kernel) (pa_cons (pv 1) (pa_cons (pe_glob (v := .ref _) rfl g_Solutions rfl) pa_nil))))) (pss_one (ps_ret pe_bl)) pss_nil)
      (pss_one (ps_ret (pe_and (pe_cmpR (op_eqD hr.units) (pe_fld (pv 0) rfl) (pe_fld (pv 1) rfl) (nomark _)) (pe_one (pe_cmpR (op_eqD hr.units) (pe_fld (pv 0) rfl) (pe_fld (pv 1) rfl) (nomark _))))))), ?_⟩
  walk_at "s0"
  have ow := Own.start H
  walk_at "go"
  refine r_isiSo ty_Solutions eq' ?_
  walk_at "go"
  refine r_eqStrsT (okN_S so1.ok) (okN_S so2.ok) st st' ?_
  by_cases e : ns = ms
  · rw [decide_eq_true e]
    walk_at "go"
    refine r_eqTab tt tt' ?_
    have e2 : decide (ns = ms ∧ T1 = T2) = decide (T1 = T2) := decide_eq_decide.mpr ⟨fun z => z.2, fun z => ⟨e, z⟩⟩
    rw [e2] at q
    exact q H (Same.refl H)
  · rw [decide_eq_false e]
    walk_at "go"
    rw [decide_eq_false (fun z => e z.1)] at q
    exact q H (Same.refl H)
end

/-! slices of lists, ranges with two ends -/
section
variable {K : PySem.W.Frag} {F H : Hp} {L : List (Addr × HO)} {a : Addr} {xs : List V} {lo hi : Option Int} {Q : VK} {σ : L2.St} {te : TE}
theorem r_slW {tl th : TO} (k : te σ H fun x H1 => tl σ H1 fun l H2 => th σ H2 fun u H3 => rSlL K x l u H3 Q) : tSl (rSlL K) te tl th σ H Q := k
theorem r_nopW {R : Option Int → Hp → Prop} (k : R none H) : tNoPart σ H R := k
theorem o_slW (h : Own F H L) (s : SqL K H a xs) (q : ∀ p H', H p = none → Own F H' ((p, .lst (cutV xs lo hi)) :: L) → Q (.ref p) H') : rSlL K (.ref a) lo hi H Q := ⟨a, xs, rfl, s, fun p n => q p _ n (h.new n)⟩
theorem r_rng2 {ta : TA} {R : It → Hp → Prop} (k : ta σ H fun vs H1 => ∃ i j : Int, vs = [.int i, .int j] ∧ (-(2 ^ 62) ≤ i ∧ i < 2 ^ 62 ∧ -(2 ^ 62) ≤ j ∧ j < 2 ^ 62) ∧ R (Itr i (j - i).toNat) H1) : iRng2 ta σ H R := k
theorem r_ij {i j : Int} {R : It → Prop} (h : -(2 ^ 62) ≤ i ∧ i < 2 ^ 62 ∧ -(2 ^ 62) ≤ j ∧ j < 2 ^ 62) (k : R (Itr i (j - i).toNat)) : ∃ i' j' : Int, [V.int i, V.int j] = [.int i', .int j'] ∧ (-(2 ^ 62) ≤ i' ∧ i' < 2 ^ 62 ∧ -(2 ^ 62) ≤ j' ∧ j' < 2 ^ 62) ∧ R (Itr i' (j' - i').toNat) := ⟨i, j, rfl, h, k⟩
end
theorem cutv_from {us : List V} {i : Nat} (h : i ≤ us.length) : cutV us (some (i : Int)) none = us.drop i := by
  unfold cutV
  rw [HT.sIx_nat, Nat.min_eq_left h]
  show (us.drop i).take (us.length - i) = _
  rw [← List.length_drop, List.take_length]
theorem cutv_to {us : List V} {i : Nat} (h : i ≤ us.length) : cutV us none (some (i : Int)) = us.take i := by
  unfold cutV
  rw [HT.sIx_nat, Nat.min_eq_left h]
  rfl
set_option hygiene false in
local macro_rules | `(tactic| walk_at "r1") => `(tactic| first
  | with_reducible refine Bs.r_slW ?_
  | with_reducible refine Bs.r_nopW ?_
  | with_reducible refine Bs.r_rng2 ?_
  | ((with_reducible refine' Bs.r_ij ?p1 ?_); (case p1 => omega))
  | ((with_reducible refine' Bs.o_slW ?p1 ?p2 ?_); (case p1 => assumption); (case p2 => walk_at "hq"); intro pL H' np ow))

/-! rings of rooms -/

def sp_lrings (K : PySem.W.Frag) : Sp := fun vs H Q _ => ∃ (a : Addr) (x y z : Int) (m n : Nat), vs = [.ref a, .int (m : Nat), .int (n : Nat)] ∧ H a = some (wl x y z) ∧ WOk y z ∧ z + 200 ≤ 1000000 ∧ 1 ≤ m ∧ m ≤ 8 ∧ n ≤ 20 ∧
  ∀ (T : Tab) x' z' r us H', T.length ≤ n → TIn T → (∀ q ∈ T, q.length = m) → z ≤ z' → z' ≤ z + 200 → H r = none → Mut a (wl x' y z') H H' → H' r = some (.lst us) → RoomsAt K (newB H H' r) us T → Q (.ref r) H'
theorem ixT_K {X : Cx} {K : PySem.W.Frag} (h : X.K = K) : IxR X (rIxT K) := h ▸ ix_tup
abbrev Blk := Nat × Nat × Nat
def blkS (b : Blk) : Sta := [(b.1 : Int), (b.2.1 : Int), (b.2.2 : Int)]
structure BlkOk (sz : Nat) (b : Blk) : Prop where
  le : b.1 + b.2.1 ≤ sz
  pos : 1 ≤ b.2.1
  le4 : b.2.1 ≤ 4
/-- rows that may be changed in place -/
def rowsO (ps : List Addr) (T : Tab) : List (Addr × HO) := List.zipWith (fun p r => (p, HO.lst (r.map vO))) ps T
theorem rowsO_snoc {ps : List Addr} {T : Tab} {p : Addr} {r : List (Option Nat)} (h : ps.length = T.length) : rowsO (ps ++ [p]) (T ++ [r]) = rowsO ps T ++ [(p, HO.lst (r.map vO))] := by
  unfold rowsO
  rw [List.zipWith_append h]
  rfl
theorem rowsO_at {ps : List Addr} {T : Tab} {i : Nat} {p : Addr} {r : List (Option Nat)} (h : ps[i]? = some p) (e : T[i]? = some r) : (rowsO ps T)[i]? = some (p, HO.lst (r.map vO)) := by
  unfold rowsO
  rw [List.getElem?_zipWith, h, e]
theorem rowsO_set : ∀ {ps : List Addr} {T : Tab} {i : Nat} {p : Addr} {r : List (Option Nat)}, ps[i]? = some p → (rowsO ps T).set i (p, HO.lst (r.map vO)) = rowsO ps (T.set i r)
  | [], _, _, _, _, h => by simp at h
  | _ :: _, [], _, _, _, _ => by simp [rowsO]
  | q :: ps, s :: T, 0, p, r, h => by
    have : q = p := by simpa using h
    subst this
    rfl
  | q :: ps, s :: T, i + 1, p, r, h => by
    show _ :: (rowsO ps T).set i _ = _ :: rowsO ps (T.set i r)
    rw [rowsO_set (by simpa using h)]
theorem Own.perm {F H : Hp} {L L' : List (Addr × HO)} (h : Own F H L) (p : L.Perm L') : Own F H L' := ⟨h.sub, fun i a o e => by
  have m : (a, o) ∈ L := p.mem_iff.mpr (List.mem_of_getElem? e)
  obtain ⟨j, hj, ej⟩ := List.mem_iff_getElem.mp m
  exact h.own j a o (by rw [List.getElem?_eq_getElem hj, ej]), (p.map _).nodup_iff.mp h.nd⟩
def laterO (B : List Blk) (i : Nat) : List (Option Nat) := (B.drop (i + 1)).map fun b => some b.1
theorem laterO_len {B : List Blk} {i : Nat} : (laterO B i).length = B.length - (i + 1) := by unfold laterO; rw [List.length_map, List.length_drop]
theorem laterO_snoc {B : List Blk} {i j : Nat} {b : Blk} (h : B[i + 1 + j]? = some b) : (laterO B i).take (j + 1) = (laterO B i).take j ++ [some b.1] := by
  rw [List.take_succ]
  unfold laterO
  rw [List.getElem?_map, List.getElem?_drop, h]
  rfl
theorem at_modR {LT : List (Option Nat)} {g : Int} (h : LT ≠ []) : ∃ e ∈ LT, atI (LT.map vO) (g % ((LT.map vO).length : Int)) = some (vO e) := by
  have l0 : 0 < (LT.map vO).length := by rw [List.length_map]; exact List.length_pos_iff.mpr h
  have h0 : 0 ≤ g % ((LT.map vO).length : Int) := Int.emod_nonneg _ (by omega)
  have h1 : g % ((LT.map vO).length : Int) < ((LT.map vO).length : Int) := Int.emod_lt_of_pos _ (by omega)
  obtain ⟨j, hj⟩ := Int.eq_ofNat_of_zero_le h0
  have lj : j < LT.length := by rw [List.length_map] at h1 hj; omega
  refine ⟨LT[j], List.getElem_mem lj, at_nat (k := j) hj ?_⟩
  rw [List.getElem?_map, List.getElem?_eq_getElem lj]
  rfl
theorem tin_setR {Tc : Tab} {rr : List (Option Nat)} {i1 i2 : Nat} {e : Option Nat} (h : TIn Tc) (hr : rr ∈ Tc) (he : ∀ n, e = some n → n < Tc.length) : TIn (Tc.set i1 (rr.set i2 e)) := ⟨fun r m d hd n hn => by
  rw [List.length_set]
  rcases List.mem_or_eq_of_mem_set m with m | m
  · exact h.lt r m d hd n hn
  · subst m
    rcases List.mem_or_eq_of_mem_set hd with hd | hd
    · exact h.lt rr hr d hd n hn
    · subst hd; exact he n hn⟩
theorem rows_setR {Tc : Tab} {rr : List (Option Nat)} {i1 i2 m : Nat} {e : Option Nat} (h : ∀ r ∈ Tc, r.length = m) (hr : rr ∈ Tc) : ∀ r ∈ Tc.set i1 (rr.set i2 e), r.length = m := fun r q => by
  rcases List.mem_or_eq_of_mem_set q with q | q
  · exact h r q
  · subst q
    rw [List.length_set]
    exact h rr hr
/-- a room's entry set in place -/
theorem o_setRow {F H : Hp} {x y : Addr × HO} {ps : List Addr} {T : Tab} {r j : Nat} {pr : Addr} {rr : List (Option Nat)} {e : Option Nat} {v : V} {idx : Int} {R : Hp → Prop} (ow : Own F H (x :: y :: rowsO ps T)) (hp : ps[r]? = some pr) (hr : T[r]? = some rr) (hv : v = vO e) (hj : idx = (j : Int)) (lj : j < rr.length)
    (q : ∀ H', Own F H' (x :: y :: rowsO ps (T.set r (rr.set j e))) → R H') : rSetL (.ref pr) (.int idx) v H R := by
  subst hv
  refine o_setL ow (i := r + 2) (show (rowsO ps T)[r]? = _ from rowsO_at hp hr) (ixN_nat hj (by rw [List.length_map]; exact lj)) fun H' ow' => q H' ?_
  rw [List.set_cons_succ, List.set_cons_succ, ← List.map_set, rowsO_set hp] at ow'
  exact ow'
theorem o_getRow {K : PySem.W.Frag} {F H : Hp} {x y : Addr × HO} {ps : List Addr} {T : Tab} {r j : Nat} {pr : Addr} {rr : List (Option Nat)} {e : Option Nat} {idx : Int} {Q : VK} (ow : Own F H (x :: y :: rowsO ps T)) (hp : ps[r]? = some pr) (hr : T[r]? = some rr) (hj : idx = (j : Int)) (he : rr[j]? = some e) (q : Q (vO e) H) : rIxL K (.ref pr) (.int idx) H Q :=
  o_ixL ow (i := r + 2) (show (rowsO ps T)[r]? = _ from rowsO_at hp hr) (at_nat hj (by rw [List.getElem?_map, he]; rfl)) q
theorem o_eqRE {K : PySem.W.Frag} {H : Hp} {a c : Addr} {r : List (Option Nat)} {Q : VK} (s : SqL K H a (r.map vO)) (e : H c = some (.lst [])) (k : Q (.bl (decide (r = []))) H) : rEqD K (.ref a) (.ref c) H Q := by
  refine ⟨.list (r.map pO), .list [], .lst s (dpa_row r), .lst (SqL.of e) .nil, ?_, sh_tab [], ?_⟩
  · have h1 : PyData.canLay0 (pR r) = true := lay_row r
    have h2 : PyData.depth (pR r) ≤ 64 := by
      show PyData.depthAll (r.map pO) + 1 ≤ 64
      rw [dep_row]
      decide
    show SeqAt.shaped (pR r) = true
    unfold SeqAt.shaped
    rw [h1, decide_eq_true h2]
    rfl
  · have z : PyData.eqv (.list (r.map pO)) (.list []) = decide (r = []) := by cases r <;> simp [PyData.eqv, PyData.eqvAll]
    rw [z]
    exact k
theorem o_neRE {K : PySem.W.Frag} {H : Hp} {a c : Addr} {r : List (Option Nat)} {Q : VK} (s : SqL K H a (r.map vO)) (e : H c = some (.lst [])) (k : Q (.bl (!decide (r = []))) H) : rNeD K (.ref a) (.ref c) H Q := by
  have := o_eqRE s e (Q := fun v H => ∀ b, v = .bl b → Q (.bl (!b)) H) (fun b z => by cases z; exact k)
  obtain ⟨d1, d2, h1, h2, h3, h4, h5⟩ := this
  exact ⟨d1, d2, h1, h2, h3, h4, h5 _ rfl⟩
section
variable {P : Program} {w : World} {K : PySem.W.Frag} {mg : Str → Option Value} {base : Heap} {f : Addr} {fd : FuncData}
theorem ok__law_rings (F : FnP K "_law_rings" "_law_rings" s__law_rings f fd) (B : Bi mg) (c__law_dip : Fo P w K mg base CX0 1 "_law_dip" ["_law_well_here", "_law_span"] (sp_draw)) : FnOk P w K mg base CX0 2 f fd ["_law_well_here", "_law_letters_here", "_law_most"] (sp_lrings K) := by
  refine F.ok sc__law_rings (fun vs H Q E h => by walk_at "len") (fun cdv A outer s H vs Q E hr h => ?_)
  have nd := sc__law_rings.nd
  obtain ⟨a, x, y, z, m, n, rfl, ha, wk, hz, hm1, hm, hn, q⟩ := h
  have z0' := wk.z0
  refine ⟨_, PSs.nox (pss_cons (ps_par3 (i := 3) (j := 4) (l := 5) rfl nd rfl rfl rfl (by decide) (by decide) (by decide) rfl rfl rfl (pa_cons (pe_lst pa_nil) (pa_cons pe_int (pa_cons (pe_fo c__law_dip hr (by decide) (pa_cons (pv 0) (pa_cons pe_int pa_nil))) pa_nil))) rfl)
      (C8.pss_cut (ps_for PassesOwn.never rfl (pi_range1 rfl B.range (pa_cons (pe_op op_add pe_int (pe_fo c__law_dip hr (by decide) (pa_cons (pv 0) (pa_cons pe_int pa_nil)))) pa_nil)) (pg_name (i := 6) nd rfl (.inl rfl))
      (pss_cons (ps_par (i := 7) (j := 8) rfl nd rfl rfl (by decide) rfl rfl (pa_cons (pe_op op_add pe_int (pe_fo c__law_dip hr (by decide) (pa_cons (pv 0) (pa_cons pe_int pa_nil)))) (pa_cons (pe_fo c__law_dip hr (by decide) (pa_cons (pv 0) (pa_cons pe_int pa_nil))) pa_nil)) rfl)
      (pss_one (ps_if (pt_cmpR op_le (pe_op op_add (pv 4) (pv 7)) (pv 2) (nomark _)) (pss_cons (ps_expr (pe_bm PySem.F.plainAttrs_list PySem.F.slot_list_append PySem.F.type_list_append mt_append (pv 3) (pa_cons (pe_tup (pa_cons (pv 4) (pa_cons (pv 7) (pa_cons (pv 8) pa_nil)))) pa_nil)))
      (pss_one (ps_set (i := 4) nd rfl (Or.inl rfl) (pe_op op_add (pv 4) (pv 7))))) pss_nil))))
      (C8.pss_cut (ps_setLc (i := 9) (own := [("_law_at", 11)]) (g := gName 11) (tt := tYes) (by rfl) nd rfl rfl (sw_true rfl rfl rfl rfl) (pi_range1 rfl B.range (pa_cons (pv 4) pa_nil)) (blkOk_by (own := [("_law_at", 11)]) (N := ["_law_well_here", "_law_letters_here", "_law_most", "_law_blocks", "_law_size", "_law_outs", "_law_turn", "_law_far", "_law_ring", "_law_rooms_here", "_law_letter", "_law_at", "_law_rank", "_law_first", "_law_later", "_law_block", "_law_main", "_law_extra", "_law_goal"]) (sc := defScope s__law_rings) (by decide +kernel)) (fun _ _ _ _ _ => pg_name (i := 11) nd rfl (Or.inl rfl)) (fun _ _ _ _ _ => pts_nil) (fun _ _ _ _ _ => (pe_lc (own := [("_law_letter", 10)]) (g := gName 10) (tt := tYes) (by rfl) nd (pi_range1 rfl B.range (pa_cons (pv 1) pa_nil)) (blkOk_by (own := [("_law_letter", 10)]) (by kernel_rfl)) (fun _ _ _ _ _ => pg_name (i := 10) nd rfl (Or.inl rfl)) (fun _ _ _ _ _ => pts_nil) (fun _ _ _ _ _ => pe_non))))
      (C8.pss_cut (ps_for PassesOwn.never rfl (pi_enum rfl B.enumerate (pa_cons (pv 3) pa_nil)) (pg_tup rfl (pgs_cons (pg_name (i := 12) nd rfl (.inl rfl)) (pgs_cons (pg_tup rfl (pgs_cons (pg_name (i := 13) nd rfl (.inl rfl)) (pgs_cons (pg_name (i := 7) nd rfl (.inl rfl)) (pgs_cons (pg_name (i := 8) nd rfl (.inl rfl)) pgs_nil)))) pgs_nil)))
      (pss_cons (ps_setLc (i := 14) (own := [("_law_block", 15)]) (g := gName 15) (tt := tYes) (by rfl) nd rfl rfl (sw_true rfl rfl rfl rfl) (pi_list (pe_slice sl_list (pv 3) (po_some (pe_op op_add (pv 12) pe_int)) po_none)) (blkOk_by (own := [("_law_block", 15)]) (N := ["_law_well_here", "_law_letters_here", "_law_most", "_law_blocks", "_law_size", "_law_outs", "_law_turn", "_law_far", "_law_ring", "_law_rooms_here", "_law_letter", "_law_at", "_law_rank", "_law_first", "_law_later", "_law_block", "_law_main", "_law_extra", "_law_goal"]) (sc := defScope s__law_rings) (by decide +kernel)) (fun _ _ _ _ _ => pg_name (i := 15) nd rfl (Or.inl rfl)) (fun _ _ _ _ _ => pts_nil) (fun _ _ _ _ _ => (pe_ix (ixT_K (K := K) rfl) (pv 15) pe_int (fun _ _ => rfl))))
      (pss_one (ps_for PassesOwn.never rfl (pi_range2 rfl B.range (pa_cons (pv 13) (pa_cons (pe_op op_add (pv 13) (pv 7)) pa_nil))) (pg_name (i := 11) nd rfl (.inl rfl))
      (pss_cons (ps_par3 (i := 16) (j := 17) (l := 18) rfl nd rfl rfl rfl (by decide) (by decide) (by decide) rfl rfl rfl (pa_cons (pe_fo c__law_dip hr (by decide) (pa_cons (pv 0) (pa_cons (pv 1) pa_nil))) (pa_cons (pe_fo c__law_dip hr (by decide) (pa_cons (pv 0) (pa_cons (pe_op op_mulO pe_int (pv 1)) pa_nil))) (pa_cons (pe_fo c__law_dip hr (by decide) (pa_cons (pv 0) (pa_cons (pe_op op_add pe_int (pe_callB cb_len rfl B.len (by decide +kernel) (pa_cons (pv 14) pa_nil))) pa_nil))) pa_nil))) rfl)
      (C8.pss_cut (ps_if (pt_cmpR op_lt (pe_op op_add (pv 11) pe_int) (pe_op op_add (pv 13) (pv 7)) (nomark _)) (pss_one (ps_asg (pe_op op_add (pv 11) pe_int) (pg_sub (pe_ix ix_list (pv 9) (pv 11) (fun _ _ => rfl)) (pv 16) set_list))) (pss_one (ps_asg (pe_ifExp (PW.pt (pw_or (pt_cmpR op_eq (pv 8) pe_int (nomark _)) (pw_or1 (pt_cmpR (op_eqD hr.units) (pv 14) (pe_lst pa_nil) (nomark _))))) (pv 13) (pe_ix ix_list (pv 14) (pe_op op_mod (pe_callTy cb_int1 rfl B.int (by decide +kernel) (pa_cons (pv 18) pa_nil)) (pe_callB cb_len rfl B.len (by decide +kernel) (pa_cons (pv 14) pa_nil))) (fun _ _ => rfl))) (pg_sub (pe_ix ix_list (pv 9) (pv 11) (fun _ _ => rfl)) (pv 16) set_list))))
      (pss_one (ps_if (PW.pt (pw_and (pt_cmpR (op_neD hr.units) (pv 14) (pe_lst pa_nil) (nomark _)) (pw_and (PW.pt (pw_or (pt_cmpR op_eq (pv 8) pe_int (nomark _)) (pw_or1 (pt_cmpR op_eq (pv 5) pe_int (nomark _))))) (pw_and (pt_cmpR op_lt (pv 17) (pv 1) (nomark _)) (pw_and1 (pt_cmpR op_isN (pe_ix ix_list (pe_ix ix_list (pv 9) (pv 11) (fun _ _ => rfl)) (pv 17) (fun _ _ => rfl)) pe_non (nomark _))))))) (pss_one (ps_asg (pe_ix ix_list (pv 14) (pe_op op_mod (pe_callTy cb_int1 rfl B.int (by decide +kernel) (pa_cons (pe_op op_add (pv 18) (pv 11)) pa_nil)) (pe_callB cb_len rfl B.len (by decide +kernel) (pa_cons (pv 14) pa_nil))) (fun _ _ => rfl)) (pg_sub (pe_ix ix_list (pv 9) (pv 11) (fun _ _ => rfl)) (pv 17) set_list))) pss_nil))))))))
      (pss_one (ps_ret (pv 9))))))), ?_⟩
  walk_at "s0"
  have ow := Own.take1 ha
  walk_at "go"
  generalize pL = bl at *
  generalize vw = outs at *
  have zz0 : z ≤ zw := by omega
  have zz1 : zw ≤ z + 1 := by omega
  have nbl := np
  refine r_cut (fun σ' H' => ∃ (F : Hp) (us : List V) (B : List Blk) (sz : Nat) (x' z' : Int) (u6 u7 u8 : Option V), σ' = [some (.ref a), some (.int (m : Nat)), some (.int (n : Nat)), some (.ref bl), some (.int (sz : Nat)), some (.int outs), u6, u7, u8, none, none, none, none, none, none, none, none, none, none] ∧ WOk y z' ∧ z ≤ z' ∧ z' ≤ z + 12 ∧
    B.length ≤ 5 ∧ sz ≤ n ∧ (∀ b ∈ B, BlkOk sz b) ∧ Same (fun b => if b = a then none else H b) F ∧ Own F H' [(bl, .lst us), (a, wl x' y z')] ∧ TupsAt F us (B.map blkS)) ?_ ?_
  · walk_at "go"
    have t1 : vw ≤ 4 := by omega
    have t0 := v0
    generalize vw = tn at *
    have zb0 : z ≤ zw := by omega
    have zb1 : zw ≤ z + 2 := by omega
    refine for_range (fun i σ' H' => ∃ (F : Hp) (us : List V) (B : List Blk) (sz : Nat) (x' z' : Int) (u6 u7 u8 : Option V), σ' = [some (.ref a), some (.int (m : Nat)), some (.int (n : Nat)), some (.ref bl), some (.int (sz : Nat)), some (.int outs), u6, u7, u8, none, none, none, none, none, none, none, none, none, none] ∧ WOk y z' ∧ z ≤ z' ∧ z' ≤ z + 2 + 2 * i ∧
      B.length ≤ i ∧ sz ≤ n ∧ (∀ b ∈ B, BlkOk sz b) ∧ Same (fun b => if b = a then none else H b) F ∧ Own F H' [(bl, .lst us), (a, wl x' y z')] ∧ TupsAt F us (B.map blkS)) ⟨_, [], [], 0, _, _, _, _, _, rfl, wk, zb0, by omega, Nat.le_refl _, Nat.zero_le _, fun b hb => absurd hb List.not_mem_nil, Same.refl _, ow, .nil⟩ ?_ ?_
    · clear ow wk
      rintro i σ' H2 hi ⟨F, us, B, sz, x', z', u6, u7, u8, rfl, wk, zc, zd, lB, hsz, hB, sF, ow, tu⟩
      have lu := tu.length
      rw [List.length_map] at lu
      have hz2 : z' + 10 ≤ 1000000 := by omega
      walk_at "go"
      · rename_i fr x2 z2 H3 f0 f1 y0 y1 wk2 ow2 H4 ow3 H5 ow4
        obtain ⟨fr, rfl⟩ := Int.eq_ofNat_of_zero_le f0
        obtain ⟨rg, rfl⟩ := Int.eq_ofNat_of_zero_le v0
        have eT : (V.int (sz : Nat) :: V.int (1 + (fr : Int)) :: [V.int (rg : Nat)]) = (blkS (sz, 1 + fr, rg)).map V.int := by
          show _ = [V.int (sz : Nat), V.int ((1 + fr : Nat) : Int), V.int (rg : Nat)]
          rw [Int.natCast_add]
          rfl
        rw [eT] at ow
        obtain ⟨ow5, fz⟩ := ow.frz
        have es : (sz : Int) + (1 + (fr : Int)) = ((sz + (1 + fr) : Nat) : Int) := by omega
        rw [es]
        refine ⟨_, us ++ [V.ref pT], B ++ [(sz, 1 + fr, rg)], sz + (1 + fr), xw, zw, _, _, _, rfl, wk, by omega, by omega, by rw [List.length_append]; show B.length + 1 ≤ i + 1; omega, by omega, fun b hb => ?_, sF.trans fz, ow5, ?_⟩
        · rcases List.mem_append.mp hb with h | h
          · exact ⟨Nat.le_trans (hB b h).le (by omega), (hB b h).pos, (hB b h).le4⟩
          · rw [List.mem_singleton.mp h]
            exact ⟨Nat.le_refl _, by show 1 ≤ 1 + fr; omega, by show 1 + fr ≤ 4; omega⟩
        · rw [List.map_append]
          exact TupsAt.snoc upd_same (tu.same fz)
      · rename_i fr x2 z2 H3 f0 f1 y0 y1 wk2 ow2
        exact ⟨F, us, B, sz, xw, zw, _, _, _, rfl, wk, by omega, by omega, by omega, hsz, hB, sF, ow, tu⟩
    · rintro σ' H2 ⟨F, us, B, sz, x', z', u6, u7, u8, rfl, wk, zc, zd, lB, hsz, hB, sF, ow, tu⟩
      exact ⟨F, us, B, sz, x', z', _, _, _, rfl, wk, zc, by omega, by omega, hsz, hB, sF, ow, tu⟩
  clear ow wk
  rintro σ' H1 ⟨F, us, B, sz, x1, z1', u6, u7, u8, rfl, wk, zc, zd, lB, hsz, hB, sF, ow, tu⟩
  have lu := tu.length
  rw [List.length_map] at lu
  obtain ⟨ow5, fz⟩ := ow.frz
  have hbl : SqL K (upd F bl (.lst us)) bl us := SqL.of upd_same
  generalize upd F bl (.lst us) = F5 at ow5 fz hbl
  replace tu := tu.same fz
  replace sF := sF.trans fz
  clear ow fz
  have ow := ow5
  clear ow5
  refine r_cut (fun σ' H' => ∃ (A : Addr) (ps : List Addr), σ' = [some (.ref a), some (.int (m : Nat)), some (.int (n : Nat)), some (.ref bl), some (.int (sz : Nat)), some (.int outs), u6, u7, u8, some (.ref A), none, none, none, none, none, none, none, none, none] ∧ ps.length = sz ∧ H A = none ∧
    Own F5 H' ((A, .lst (ps.map V.ref)) :: (a, wl x1 y z1') :: rowsO ps (List.replicate sz (List.replicate m none)))) ?_ ?_
  · walk_at "go"
    refine r_lc ?_
    walk_at "go"
    have nH : ∀ {p : Addr}, H1 p = none → H p = none := fun n => fresh_of sF ow (i := 0) rfl n
    refine c_lcJ sz (by omega) (fun _ => rfl) (fun D i acc H' => ∃ ps : List Addr, acc = ps.map V.ref ∧ ps.length = i ∧ Own F5 H' ((D, .lst acc) :: (a, wl x1 y z1') :: rowsO ps (List.replicate i (List.replicate m none)))) (fun D nD => ⟨[], rfl, rfl, ow.new nD⟩) ?_ ?_ ?_ ?_
    · rintro D i acc H2 _ hi
      exact hi
    · rintro D acc H2 _
      exact Nat.le_refl _
    · rintro D i acc H2 v H3 R hi la ⟨ps, rfl, lps, ow2⟩ ⟨rfl, rfl⟩ hR
      clear ow
      have ow := ow2
      clear ow2
      walk_at "go"
      refine r_lc ?_
      walk_at "go"
      refine c_lcJ m (by omega) (fun _ => rfl) (fun E j acc2 H' => acc2 = (List.replicate j (none : Option Nat)).map vO ∧ Own F5 H' ((E, .lst acc2) :: (D, .lst (ps.map V.ref)) :: (a, wl x1 y z1') :: rowsO ps (List.replicate i (List.replicate m none)))) (fun E nE => ⟨rfl, ow.new nE⟩) ?_ ?_ ?_ ?_
      · rintro E j acc2 H4 _ hj
        exact hj
      · rintro E acc2 H4 _
        exact Nat.le_refl _
      · rintro E j acc2 H4 v2 H5 R' hj la2 ⟨rfl, ow3⟩ ⟨rfl, rfl⟩ hR'
        walk_at "go"
        refine hR' _ _ (ow3.get 0 rfl) ⟨?_, ow3.put 0 rfl⟩
        rw [List.replicate_succ', List.map_append]
        rfl
      · rintro E acc2 H4 nE ⟨rfl, ow3⟩ la2
        refine hR _ _ (ow3.get 1 rfl) ⟨ps ++ [E], by rw [List.map_append]; rfl, by rw [List.length_append, lps]; rfl, ?_⟩
        have ow4 := ow3.put 1 rfl (o := .lst (ps.map V.ref ++ [.ref E]))
        rw [List.replicate_succ' (n := i), rowsO_snoc (by rw [List.length_replicate]; exact lps)]
        refine ow4.perm ?_
        show List.Perm ((E, _) :: (D, _) :: (a, _) :: rowsO ps _) _
        refine (List.perm_append_singleton _ ((D, _) :: (a, _) :: rowsO ps _)).symm.trans ?_
        exact List.Perm.refl _
    · rintro D acc H2 nD ⟨ps, rfl, lps, ow2⟩ la
      have nD0 := nH nD
      clear ow
      walk_at "go"
      exact ⟨D, ps, rfl, lps, nD0, ow2⟩
  clear ow
  rintro σ' H2 ⟨A, ps, rfl, lps, nA, ow⟩
  refine r_cut (fun σ' H' => ∃ (F : Hp) (T : Tab) (x2 z2 : Int) (u7 u8 u11 u12 u13 u14 u15 u16 u17 u18 : Option V), σ' = [some (.ref a), some (.int (m : Nat)), some (.int (n : Nat)), some (.ref bl), some (.int (sz : Nat)), some (.int outs), u6, u7, u8, some (.ref A), none, u11, u12, u13, u14, u15, u16, u17, u18] ∧ WOk y z2 ∧ z ≤ z2 ∧ z2 ≤ z + 100 ∧ T.length = sz ∧ TIn T ∧ (∀ r ∈ T, r.length = m) ∧ Same F5 F ∧
    Own F H' ((A, .lst (ps.map V.ref)) :: (a, wl x2 y z2) :: rowsO ps T)) ?_ ?_
  · walk_at "go"
    refine ⟨bl, us, rfl, ow.toSame.seq hbl, ?_⟩
    refine for_enum (fun i σ' H' => ∃ (F : Hp) (T : Tab) (x2 z2 : Int) (u7 u8 u11 u12 u13 u14 u15 u16 u17 u18 : Option V), σ' = [some (.ref a), some (.int (m : Nat)), some (.int (n : Nat)), some (.ref bl), some (.int (sz : Nat)), some (.int outs), u6, u7, u8, some (.ref A), none, u11, u12, u13, u14, u15, u16, u17, u18] ∧ WOk y z2 ∧ z ≤ z2 ∧ z2 ≤ z + 12 + 12 * i ∧ T.length = sz ∧ TIn T ∧ (∀ r ∈ T, r.length = m) ∧ Same F5 F ∧
      Own F H' ((A, .lst (ps.map V.ref)) :: (a, wl x2 y z2) :: rowsO ps T)) ⟨F5, _, _, _, _, _, _, _, _, _, _, _, _, _, rfl, wk, zc, by omega, by rw [List.length_replicate], ⟨fun r hr e he k hk => by rw [List.eq_of_mem_replicate hr] at he; rw [List.eq_of_mem_replicate he] at hk; cases hk⟩, fun r hr => by rw [List.eq_of_mem_replicate hr, List.length_replicate], Same.refl _, ow⟩ (fun i σ' H' hi ⟨F, T, _, _, _, _, _, _, _, _, _, _, _, _, _, _, _, _, _, _, _, s, o⟩ => o.toSame.seq (s.seq hbl)) ?_ ?_
    · clear ow wk
      rintro i v σ' H3 tp hv ⟨F, T, x2, z2, u7, u8, u11, u12, u13, u14, u15, u16, u17, u18, rfl, wk, zy, zw2, lT, tinT, rwT, sF6, ow⟩ np2
      have hiB : i < B.length := by rw [← lu]; exact (List.getElem?_eq_some_iff.mp hv).1
      obtain ⟨bk, hbk⟩ : ∃ bk, B[i]? = some bk := ⟨_, List.getElem?_eq_getElem hiB⟩
      obtain ⟨bp, hbp, hbt⟩ := tu.at (i := i) (s := blkS bk) (by rw [List.getElem?_map, hbk]; rfl)
      rw [hbp] at hv
      cases hv
      have okb := hB bk (List.mem_of_getElem? hbk)
      have sbk : SqT K F bp [.int (bk.1 : Nat), .int (bk.2.1 : Nat), .int (bk.2.2 : Nat)] := SqT.of (sF6 _ _ hbt)
      replace ow := ow.new (o := .tup [.int ((i : Nat) : Int), .ref bp]) np2
      have sbk2 := sqT_same ow.toSame sbk
      have sqb : SqL K F bl us := sF6.seq hbl
      walk_at "go"
      refine r_lc ?_
      walk_at "go"
      generalize pL = sl at *
      rw [show ((i : Nat) : Int) + 1 = ((i + 1 : Nat) : Int) by omega, cutv_from (by omega)] at ow
      refine c_lcJ (us.drop (i + 1)).length (by rw [List.length_drop]; omega) (fun _ => rfl) (fun D j acc H' => acc = ((laterO B i).take j).map vO ∧ Own F H' ((D, .lst acc) :: (sl, .lst (us.drop (i + 1))) :: (tp, .tup [.int ((i : Nat) : Int), .ref bp]) :: (A, .lst (ps.map V.ref)) :: (a, wl x2 y z2) :: rowsO ps T)) (fun D nD => ⟨rfl, ow.new nD⟩) ?_ ?_ ?_ ?_
      · rintro D j acc H4 ⟨rfl, ow3⟩ hj
        exact itl_go (SqL.of (ow3.get 1 rfl)) hj
      · rintro D acc H4 ⟨rfl, ow3⟩
        exact itl_stop (SqL.of (ow3.get 1 rfl))
      · rintro D j acc H4 x H5 R hj la ⟨rfl, ow3⟩ ⟨rfl, hy⟩ hR
        clear ow
        have ow := ow3
        have hx := hy _ (SqL.of (ow3.get 1 rfl))
        rw [List.getElem?_drop] at hx
        rw [List.length_drop] at hj
        obtain ⟨bk2, hb2⟩ : ∃ b, B[i + 1 + j]? = some b := ⟨_, List.getElem?_eq_getElem (by omega)⟩
        obtain ⟨bp2, hbp2, hbt2⟩ := tu.at (i := i + 1 + j) (s := blkS bk2) (by rw [List.getElem?_map, hb2]; rfl)
        rw [hbp2] at hx
        cases hx
        have sb2 : SqT K F bp2 [.int (bk2.1 : Nat), .int (bk2.2.1 : Nat), .int (bk2.2.2 : Nat)] := SqT.of (sF6 _ _ hbt2)
        walk_at "go"
        refine hR _ _ (ow.get 0 rfl) ⟨?_, ow.put 0 rfl⟩
        rw [laterO_snoc hb2, List.map_append]
        rfl
      rintro D acc H4 nD ⟨rfl, ow3⟩ la
      clear ow
      rw [show (laterO B i).take (us.drop (i + 1)).length = laterO B i by rw [List.take_of_length_le]; rw [List.length_drop, laterO_len]; omega] at ow3
      obtain ⟨ow4, fz⟩ := ow3.frz
      have ow := ow4.drop.drop
      have sLt : SqL K (upd F D (.lst ((laterO B i).map vO))) D ((laterO B i).map vO) := SqL.of upd_same
      generalize upd F D (.lst ((laterO B i).map vO)) = F6 at fz ow sLt
      clear ow3 ow4
      have lLt : (laterO B i).length ≤ 5 := by rw [laterO_len]; omega
      have hLt : ∀ e ∈ laterO B i, ∀ k, e = some k → k < sz := fun e he k hk => by
        obtain ⟨b, hb, rfl⟩ := List.mem_map.mp he
        have o := hB b (List.mem_of_mem_drop hb)
        have := o.le
        have := o.pos
        cases hk
        omega
      generalize laterO B i = LT at *
      obtain ⟨fi, fa, rg⟩ := bk
      have fle : fi + fa ≤ sz := okb.le
      have fa4 : fa ≤ 4 := okb.le4
      walk_at "go"
      refine ⟨by omega, ?_⟩
      refine for_range (fun k σ' H' => ∃ (T : Tab) (x3 z3 : Int) (u11 u15 u16 u17 u18 : Option V), σ' = [some (.ref a), some (.int (m : Nat)), some (.int (n : Nat)), some (.ref bl), some (.int (sz : Nat)), some (.int outs), u6, some (.int (fa : Nat)), some (.int (rg : Nat)), some (.ref A), none, u11, some (.int (i : Nat)), some (.int (fi : Nat)), some (.ref D), u15, u16, u17, u18] ∧ WOk y z3 ∧ z2 ≤ z3 ∧ z3 ≤ z2 + 3 * k ∧ T.length = sz ∧ TIn T ∧ (∀ r ∈ T, r.length = m) ∧
        Own F6 H' ((A, .lst (ps.map V.ref)) :: (a, wl x3 y z3) :: rowsO ps T)) ⟨T, x2, z2, _, _, _, _, _, rfl, wk, Int.le_refl _, by omega, lT, tinT, rwT, ow⟩ ?_ ?_
      · clear ow wk tinT rwT lT
        rintro k σ' H5 hk ⟨T, x3, z3, u11, u15, u16, u17, u18, rfl, wk, z30, z31, lT, tinT, rwT, ow⟩
        have b1 : 1 ≤ (m : Int) := by omega
        have bz : z3 + 10 ≤ 1000000 := by omega
        have lm : (LT.map vO).length ≤ 5 := by rw [List.length_map]; exact lLt
        walk_at "go"
        rename_i mn xA zA HA mn0 mn1 zA0 zA1 wkA owA ex xB zB HB ex0 ex1 zB0 zB1 wkB owB
        clear owA owB wkA wkB
        generalize vw = go at *
        obtain ⟨mm, rfl⟩ := Int.eq_ofNat_of_zero_le mn0
        obtain ⟨xx, rfl⟩ := Int.eq_ofNat_of_zero_le ex0
        have hr : fi + k < sz := by omega
        obtain ⟨pr, hpr⟩ : ∃ pr, ps[fi + k]? = some pr := ⟨_, List.getElem?_eq_getElem (by omega)⟩
        obtain ⟨rr, hrr⟩ : ∃ rr, T[fi + k]? = some rr := ⟨_, List.getElem?_eq_getElem (by omega)⟩
        have hat : atI (ps.map V.ref) ((fi : Int) + (k : Int)) = some (.ref pr) := at_nat (k := fi + k) (by omega) (by rw [List.getElem?_map, hpr]; rfl)
        have setR : ∀ {H8 : Hp} {v : V} {e : Option Nat} {j : Nat} {rr : List (Option Nat)} {T : Tab} {R : Hp → Prop}, Own F6 H8 ((A, .lst (ps.map V.ref)) :: (a, wl xw y zw) :: rowsO ps T) → T[fi + k]? = some rr → T.length = sz → TIn T → (∀ r ∈ T, r.length = m) → j < m → v = vO e → (∀ n, e = some n → n < sz) →
            (∀ (H9 : Hp) (T2 : Tab), T2.length = sz → TIn T2 → (∀ r ∈ T2, r.length = m) → Own F6 H9 ((A, .lst (ps.map V.ref)) :: (a, wl xw y zw) :: rowsO ps T2) → R H9) → rSetL (.ref pr) (.int (j : Nat)) v H8 R := by
          intro H8 v e j rr T R ow hrr lT tinT rwT hj hv he q
          have hm := List.mem_of_getElem? hrr
          refine o_setRow ow hpr hrr hv rfl (by rw [rwT rr hm]; exact hj) fun H9 ow9 => q H9 _ (by rw [List.length_set]; exact lT) (tin_setR tinT hm fun n hn => by rw [lT]; exact he n hn) (rows_setR rwT hm) ow9
        have sL : ∀ {H8 : Hp} {L : List (Addr × HO)}, Own F6 H8 L → SqL K H8 D (LT.map vO) := fun o => o.toSame.seq sLt
        have lgo : ∀ {g : Int}, LT ≠ [] → ∃ e ∈ LT, atI (LT.map vO) (g % ((LT.map vO).length : Int)) = some (vO e) := fun h => at_modR h
        have l0 : LT ≠ [] → 0 < ((LT.map vO).length : Int) := fun h => by
          have := List.length_pos_iff.mpr h
          rw [List.length_map]
          omega
        refine r_cut (fun σ' H' => ∃ T : Tab, σ' = [some (.ref a), some (.int (m : Nat)), some (.int (n : Nat)), some (.ref bl), some (.int (sz : Nat)), some (.int outs), u6, some (.int (fa : Nat)), some (.int (rg : Nat)), some (.ref A), none, some (.int ((fi : Int) + (k : Int))), some (.int (i : Nat)), some (.int (fi : Nat)), some (.ref D), u15, some (.int (mm : Nat)), some (.int (xx : Nat)), some (.int go)] ∧ T.length = sz ∧ TIn T ∧ (∀ r ∈ T, r.length = m) ∧ Own F6 H' ((A, .lst (ps.map V.ref)) :: (a, wl xw y zw) :: rowsO ps T)) ?_ ?_
        · walk_at "go"
          · refine setR ow hrr lT tinT rwT (e := some (fi + k + 1)) (by omega) (by show V.int _ = V.int _; congr 1) (fun n hn => by cases hn; omega) fun H9 T2 l2 t2 r2 ow2 => ?_
            exact ⟨T2, rfl, l2, t2, r2, ow2⟩
          · refine setR ow hrr lT tinT rwT (e := some fi) (by omega) rfl (fun n hn => by cases hn; omega) fun H9 T2 l2 t2 r2 ow2 => ?_
            exact ⟨T2, rfl, l2, t2, r2, ow2⟩
          · refine o_eqRE (sL ow) (ow.get 0 rfl) ?_
            replace ow := ow.drop
            by_cases c0 : LT = []
            · rw [decide_eq_true c0]
              walk_at "go"
              refine setR ow hrr lT tinT rwT (e := some fi) (by omega) rfl (fun n hn => by cases hn; omega) fun H9 T2 l2 t2 r2 ow2 => ?_
              exact ⟨T2, rfl, l2, t2, r2, ow2⟩
            · rw [decide_eq_false c0]
              obtain ⟨e, he, hix⟩ := lgo (g := go) c0
              have l00 := l0 c0
              have sLD := sL ow
              walk_at "go"
              refine setR ow hrr lT tinT rwT (e := e) (by omega) rfl (hLt e he) fun H9 T2 l2 t2 r2 ow2 => ?_
              exact ⟨T2, rfl, l2, t2, r2, ow2⟩
        clear ow lT tinT rwT hrr
        rintro σ' H7 ⟨T, rfl, lT, tinT, rwT, ow⟩
        obtain ⟨rr, hrr⟩ : ∃ rr, T[fi + k]? = some rr := ⟨_, List.getElem?_eq_getElem (by omega)⟩
        have lrr := rwT rr (List.mem_of_getElem? hrr)
        walk_at "go"
        refine o_neRE (sL ow) (ow.get 0 rfl) ?_
        replace ow := ow.drop
        have fin : ∀ {H9 : Hp} {T : Tab}, T.length = sz → TIn T → (∀ r ∈ T, r.length = m) → Own F6 H9 ((A, .lst (ps.map V.ref)) :: (a, wl xw y zw) :: rowsO ps T) → ∃ (T : Tab) (x3 z3 : Int) (u11' u15' u16' u17' u18' : Option V), [some (.ref a), some (.int (m : Nat)), some (.int (n : Nat)), some (.ref bl), some (.int (sz : Nat)), some (.int outs), u6, some (.int (fa : Nat)), some (.int (rg : Nat)), some (.ref A), none, some (.int ((fi : Int) + (k : Int))), some (.int (i : Nat)), some (.int (fi : Nat)), some (.ref D), u15, some (.int (mm : Nat)), some (.int (xx : Nat)), some (.int go)] = [some (.ref a), some (.int (m : Nat)), some (.int (n : Nat)), some (.ref bl), some (.int (sz : Nat)), some (.int outs), u6, some (.int (fa : Nat)), some (.int (rg : Nat)), some (.ref A), none, u11', some (.int (i : Nat)), some (.int (fi : Nat)), some (.ref D), u15', u16', u17', u18'] ∧ WOk y z3 ∧ z2 ≤ z3 ∧ z3 ≤ z2 + 3 * (k + 1 : Nat) ∧ T.length = sz ∧ TIn T ∧ (∀ r ∈ T, r.length = m) ∧
          Own F6 H9 ((A, .lst (ps.map V.ref)) :: (a, wl x3 y z3) :: rowsO ps T) := fun {H9 T} l t r o => ⟨T, xw, zw, _, _, _, _, _, rfl, wk, by omega, by omega, l, t, r, o⟩
        by_cases c0 : LT = []
        · rw [decide_eq_true c0]
          walk_at "go"
          exact fin lT tinT rwT ow
        rw [decide_eq_false c0]
        obtain ⟨e, he, hix⟩ := lgo (g := go + ((fi : Int) + (k : Int))) c0
        have l00 := l0 c0
        have sLD := sL ow
        walk_at "go"
        · obtain ⟨d, hd⟩ : ∃ d, rr[xx]? = some d := ⟨_, List.getElem?_eq_getElem (by omega)⟩
          refine o_getRow ow hpr hrr rfl hd ?_
          cases d with
          | some nd =>
            walk_at "go"
            · cases hc
            · exact fin lT tinT rwT ow
          | none =>
            walk_at "go"
            refine setR ow hrr lT tinT rwT (e := e) (by omega) rfl (hLt e he) fun H9 T2 l2 t2 r2 ow2 => ?_
            exact fin l2 t2 r2 ow2
        · exact fin lT tinT rwT ow
        · obtain ⟨d, hd⟩ : ∃ d, rr[xx]? = some d := ⟨_, List.getElem?_eq_getElem (by omega)⟩
          refine o_getRow ow hpr hrr rfl hd ?_
          cases d with
          | some nd =>
            walk_at "go"
            · cases hc
            · exact fin lT tinT rwT ow
          | none =>
            walk_at "go"
            refine setR ow hrr lT tinT rwT (e := e) (by omega) rfl (hLt e he) fun H9 T2 l2 t2 r2 ow2 => ?_
            exact fin l2 t2 r2 ow2
        · exact fin lT tinT rwT ow
        · exact fin lT tinT rwT ow
      · rintro σ' H5 ⟨T, x3, z3, u11, u15, u16, u17, u18, rfl, wk, z30, z31, lT, tinT, rwT, ow⟩
        exact ⟨F6, T, x3, z3, _, _, _, _, _, _, _, _, _, _, rfl, wk, by omega, by omega, lT, tinT, rwT, sF6.trans fz, ow⟩
    · rintro σ' H3 ⟨F, T, x2, z2, u7, u8, u11, u12, u13, u14, u15, u16, u17, u18, rfl, wk, zy, zw2, lT, tinT, rwT, sF6, ow⟩
      exact ⟨F, T, x2, z2, _, _, _, _, _, _, _, _, _, _, rfl, wk, zy, by omega, lT, tinT, rwT, sF6, ow⟩
  clear ow wk
  rintro σ' H3 ⟨F, T, x2, z2, u7, u8, u11, u12, u13, u14, u15, u16, u17, u18, rfl, wk, zy, zw2, lT, tinT, rwT, sF6, ow⟩
  walk_at "go"
  have lpT : ps.length = T.length := by rw [lps, lT]
  refine q T x2 z2 A (ps.map V.ref) H3 (by omega) tinT rwT zy (by omega) nA ?_ (ow.get 0 rfl) (RoomsX.to ⟨by rw [List.length_map]; exact lpT, fun i r hr => ?_⟩)
  · refine ⟨ow.get 1 rfl, fun c o nc e => ?_⟩
    exact ow.sub c o (sF6 c o (sF c o (by show (if c = a then none else H c) = _; rw [if_neg nc]; exact e)))
  · have hi : i < ps.length := by rw [lpT]; exact (List.getElem?_eq_some_iff.mp hr).1
    have hp : ps[i]? = some ps[i] := List.getElem?_eq_getElem hi
    have at_ : ((A, HO.lst (ps.map V.ref)) :: (a, wl x2 y z2) :: rowsO ps T)[i + 2]? = some (ps[i], HO.lst (r.map vO)) := by
      show (rowsO ps T)[i]? = _
      exact rowsO_at hp hr
    refine ⟨ps[i], by rw [List.getElem?_map, hp]; rfl, ?_⟩
    have o1 := ow.own (i + 2) _ _ at_
    have nA2 : ps[i] ≠ A := ow.ne (i + 2) 0 at_ rfl (by omega)
    have na2 : ps[i] ≠ a := ow.ne (i + 2) 1 at_ rfl (by omega)
    have hN : H ps[i] = none := by
      cases zc : H ps[i] with
      | none => rfl
      | some u =>
        have := sF6 _ _ (sF ps[i] u (by show (if ps[i] = a then none else H ps[i]) = _; rw [if_neg na2]; exact zc))
        rw [o1.2] at this
        cases this
    unfold newB
    rw [if_neg nA2, hN]
    exact o1.1
end

/-! the drawn rooms of the laws of counting -/

/-- as sp_ltable, of at least one letter -/
def sp_lrooms (K : PySem.W.Frag) : Sp := fun vs H Q _ => ∃ (a : Addr) (x y z : Int) (m n : Nat), vs = [.ref a, .int (m : Nat), .int (n : Nat)] ∧ H a = some (wl x y z) ∧ WOk y z ∧ z + 400 ≤ 1000000 ∧ 1 ≤ m ∧ m ≤ 8 ∧ n ≤ 20 ∧
  ∀ (T : Tab) x' z' r us H', T.length ≤ n → TIn T → (∀ q ∈ T, q.length = m) → z ≤ z' → z' ≤ z + 400 → H r = none → Mut a (wl x' y z') H H' → H' r = some (.lst us) → RoomsAt K (newB H H' r) us T → Q (.ref r) H'
theorem newB_pre {H H1 H' : Hp} {r : Addr} (h : ∀ c, H1 c = none → H c = none) : Same (newB H1 H' r) (newB H H' r) := fun c o e => by
  unfold newB at e ⊢
  split at e
  · cases e
  · rename_i n0
    rw [if_neg n0]
    split at e
    · cases e
    · rename_i n1
      have hc : H1 c = none := by
        cases z : H1 c with
        | none => rfl
        | some u => rw [z] at n1; exact absurd rfl n1
      rw [h c hc]
      exact e
theorem Mut.none {H H1 : Hp} {a : Addr} {o : HO} (m : Mut a o H H1) {c : Addr} (n : H1 c = none) : H c = none := by
  cases z : H c with
  | none => rfl
  | some u =>
    by_cases e : c = a
    · rw [e, m.here] at n; cases n
    · rw [m.keep c u e z] at n; cases n
theorem Mut.then {H H1 H2 : Hp} {a : Addr} {o u : HO} (m : Mut a o H H1) (k : Mut a u H1 H2) : Mut a u H H2 := ⟨k.here, fun b v n e => k.keep b v n (m.keep b v n e)⟩
theorem itr_go {i n : Nat} {lo : Int} {H : Hp} (h : i < n) : (Itr lo n).go i H := h
section
variable {P : Program} {w : World} {K : PySem.W.Frag} {mg : Str → Option Value} {base : Heap} {f : Addr} {fd : FuncData}
theorem ok__law_rooms (F : FnP K "_law_rooms" "_law_rooms" s__law_rooms f fd) (B : Bi mg) (c__law_dip : Fo P w K mg base CX0 1 "_law_dip" ["_law_well_here", "_law_span"] (sp_draw)) (c__law_rings : Fo P w K mg base CX0 2 "_law_rings" ["_law_well_here", "_law_letters_here", "_law_most"] (sp_lrings K)) : FnOk P w K mg base CX0 3 f fd ["_law_well_here", "_law_letters_here", "_law_most"] (sp_lrooms K) := by
  refine F.ok sc__law_rooms (fun vs H Q E h => by walk_at "len") (fun cdv A outer s H vs Q E hr h => ?_)
  have nd := sc__law_rooms.nd
  obtain ⟨a, x, y, z, m, n, rfl, ha, wk, hz, hm1, hm, hn, q⟩ := h
  have z0' := wk.z0
  refine ⟨_, PSs.nox (pss_cons (ps_if (pt_cmpR op_eq (pe_fo c__law_dip hr (by decide) (pa_cons (pv 0) (pa_cons pe_int pa_nil))) pe_int (nomark _)) (pss_one (ps_ret (pe_fo c__law_rings hr (by decide) (pa_cons (pv 0) (pa_cons (pv 1) (pa_cons (pv 2) pa_nil)))))) pss_nil)
      (pss_cons (ps_asg (pe_tup (pa_cons (pe_fo c__law_dip hr (by decide) (pa_cons (pv 0) (pa_cons (pe_op op_add (pv 2) pe_int) pa_nil))) (pa_cons (pe_fo c__law_dip hr (by decide) (pa_cons (pv 0) (pa_cons pe_int pa_nil))) (pa_cons (pe_lst pa_nil) pa_nil)))) (pg_tup rfl (pgs_cons (pg_name (i := 3) nd rfl (.inr rfl)) (pgs_cons (pg_name (i := 4) nd rfl (.inr rfl)) (pgs_cons (pg_name (i := 5) nd rfl (.inl rfl)) pgs_nil)))))
      (pss_cons (ps_for PassesOwn.never rfl (pi_range1 rfl B.range (pa_cons (pv 3) pa_nil)) (pg_name (i := 6) nd rfl (.inl rfl))
      (pss_one (ps_expr (pe_bm PySem.F.plainAttrs_list PySem.F.slot_list_append PySem.F.type_list_append mt_append (pv 5) (pa_cons (pe_lc (own := [("_law_letter", 7)]) (g := gName 7) (tt := tYes) (by rfl) nd (pi_range1 rfl B.range (pa_cons (pv 1) pa_nil)) (blkOk_by (own := [("_law_letter", 7)]) (N := ["_law_well_here", "_law_letters_here", "_law_most", "_law_size", "_law_gaps", "_law_rooms_here", "_law_at", "_law_letter"]) (sc := defScope s__law_rooms) (by decide +kernel)) (fun _ _ _ _ _ => pg_name (i := 7) nd rfl (Or.inl rfl)) (fun _ _ _ _ _ => pts_nil) (fun _ _ _ _ _ => (pe_ifExp (pt_cmpR op_lt (pe_fo c__law_dip hr (by decide) (pa_cons (pv 0) (pa_cons pe_int pa_nil))) (pv 4) (nomark _)) pe_non (pe_fo c__law_dip hr (by decide) (pa_cons (pv 0) (pa_cons (pv 3) pa_nil)))))) pa_nil)))))
      (pss_one (ps_ret (pv 5)))))), ?_⟩
  walk_at "s0"
  have ow := Own.take1 ha
  walk_at "go"
  · have mo := ow.mut_of (i := 0) rfl
    exact ⟨a, xw, y, zw, m, n, rfl, ow.get 0 rfl, wk, by omega, hm1, hm, hn, fun T x' z' r us H2 l tin hr h3 h4 nr mu er ra => q T x' z' r us H2 l tin hr (by omega) (by omega) (mo.none nr) (mo.then mu) er (ra.same (newB_pre fun c => mo.none))⟩
  rename_i sz x2 z2 H2 sz0 sz1 z20 z21 wk2 ow2 H3 ow3 H4 np4 ow4
  have nL := fresh_of (Same.refl _) ow3 (i := 0) rfl np4
  replace ow := ow.drop
  clear ow2 ow3 ow4 wk2
  obtain ⟨N, rfl⟩ := Int.eq_ofNat_of_zero_le sz0
  generalize pL = A at *
  have zz0 : z ≤ zw := by omega
  have zz1 : zw ≤ z + 3 := by omega
  generalize vw = gp at *
  refine for_range (fun i σ' H' => ∃ (F : Hp) (T : Tab) (us : List V) (x' z' : Int) (u6 u7 : Option V), σ' = [some (.ref a), some (.int (m : Nat)), some (.int (n : Nat)), some (.int (N : Nat)), some (.int gp), some (.ref A), u6, u7] ∧ WOk y z' ∧ z ≤ z' ∧ z' ≤ z + 3 + 16 * i ∧
    T.length = i ∧ (∀ q ∈ T, q.length = m ∧ ∀ e ∈ q, ∀ k, e = some k → k < N) ∧ Same (fun b => if b = a then none else H b) F ∧ Own F H' [(A, .lst us), (a, wl x' y z')] ∧ RoomsAt K (newF H F) us T) ⟨_, [], [], _, _, _, _, rfl, wk, zz0, by omega, rfl, fun q hq => absurd hq List.not_mem_nil, Same.refl _, ow, .nil⟩ ?_ ?_
  · clear ow wk
    rintro i σ' H1 hi ⟨F, T, us, x', z', u6, u7, rfl, wk, z2', z3', lT, hT, sF, ow, ra⟩
    walk_at "go"
    refine r_lc ?_
    walk_at "go"
    have bN : 1 ≤ (N : Int) := by omega
    have bz : z' + 20 ≤ 1000000 := by omega
    refine c_lcJ m (by omega) (fun _ => rfl) (fun D j acc H' => ∃ (r : List (Option Nat)) (x2 z2 : Int), acc = r.map vO ∧ r.length = j ∧ (∀ e ∈ r, ∀ k, e = some k → k < N) ∧ WOk y z2 ∧ z' ≤ z2 ∧ z2 ≤ z' + 2 * j ∧ Own F H' [(D, .lst acc), (A, .lst us), (a, wl x2 y z2)]) (fun D nD => ⟨[], x', z', rfl, rfl, fun e he => absurd he List.not_mem_nil, wk, Int.le_refl _, by omega, ow.new nD⟩) ?_ ?_ ?_ ?_
    · rintro D j acc H2 _ hj
      exact itr_go hj
    · rintro D acc H2 _
      exact Nat.le_refl _
    · rintro D j acc H2 v H3 R hj la ⟨r, x2, z2, rfl, lr, hr, wk2, y1, y2, ow2⟩ ⟨rfl, rfl⟩ hR
      clear ow wk
      have ow := ow2
      have wk := wk2
      clear ow2 wk2
      have bz2 : z2 + 4 ≤ 1000000 := by omega
      walk_at "go"
      · refine hR _ _ (ow.get 0 rfl) ⟨r ++ [none], _, _, by rw [List.map_append]; rfl, by rw [List.length_append, lr]; rfl, fun e he => ?_, wk, by omega, by omega, ow.put 0 rfl⟩
        rcases List.mem_append.mp he with h | h
        · exact hr e h
        · intro k hk
          rw [List.mem_singleton.mp h] at hk
          cases hk
      · obtain ⟨nv, rfl⟩ := Int.eq_ofNat_of_zero_le v0
        refine hR _ _ (ow.get 0 rfl) ⟨r ++ [some nv], _, _, by rw [List.map_append]; rfl, by rw [List.length_append, lr]; rfl, fun e he => ?_, wk, by omega, by omega, ow.put 0 rfl⟩
        rcases List.mem_append.mp he with h | h
        · exact hr e h
        · intro k hk
          rw [List.mem_singleton.mp h] at hk
          cases hk
          omega
    · rintro D acc H2 nD ⟨r, x2, z2, rfl, lr, hr, wk2, y1, y2, ow2⟩ la
      have nB := fresh_of sF ow (i := 1) rfl nD
      clear ow wk
      have ow := ow2
      have wk := wk2
      have lus := ra.length
      walk_at "go"
      obtain ⟨fz1, fz2⟩ := ow.frz
      refine ⟨_, T ++ [r], us ++ [.ref D], x2, z2, _, _, rfl, wk, by omega, by omega, by rw [List.length_append, lT]; rfl, fun p hp => ?_, sF.trans fz2, fz1, RoomsAt.snoc ⟨D, rfl, SqL.of ?_⟩ (ra.same (newF_mono fz2))⟩
      · rcases List.mem_append.mp hp with h | h
        · exact hT p h
        · rw [List.mem_singleton.mp h]
          exact ⟨lr, hr⟩
      · unfold newF
        rw [nB]
        exact upd_same
  · rintro σ' H1 ⟨F, T, us, x', z', u6, u7, rfl, wk, z2', z3', lT, hT, sF, ow, ra⟩
    walk_at "go"
    refine q T x' z' A us H1 (by omega) ⟨fun r hr e he k hk => by have := (hT r hr).2 e he k hk; omega⟩ (fun r hr => (hT r hr).1) z2' (by omega) nL ?_ (ow.get 0 rfl) (ra.same fun c o e => ?_)
    · refine ⟨ow.get 1 rfl, fun c o nc e => ?_⟩
      exact ow.sub c o (sF c o (by show (if c = a then none else H c) = _; rw [if_neg nc]; exact e))
    · unfold newF at e
      unfold newB
      split at e
      · cases e
      · rename_i n1
        have nA : c ≠ A := fun z => by
          have := (ow.own 0 A _ rfl).2
          rw [z, this] at e
          cases e
        rw [if_neg nA, if_neg n1]
        exact ow.sub c o e
end

/-! plain: rows of one table among those of another one -/
def Incl (A : Tab) (i : Nat) (B : Tab) (j : Nat) : Prop := ∀ α, Acc A i α → Acc B j α
def stW (A B : Tab) (s : Sta) (c : Nat) : Option Sta := if (fo2 A (s1 s) c).isNone then none else some (pS (fo2 A (s1 s) c) (fo2 B (s2 s) c))
abbrev b00 : Sta := pS (some 0) (some 0)
section
variable {A B : Tab} {i j i' j' c m n : Nat} {s s' : Sta}
theorem Incl.step (h : Incl A i B j) (e : fol A i c = some i') (e2 : fol B j c = some j') : Incl A i' B j' := fun α a => by
  obtain ⟨k, ek, b⟩ := acc_cns.mp (h (cns c α) (acc_cns.mpr ⟨i', e, a⟩))
  rw [e2] at ek
  cases ek
  exact b
theorem Incl.lost (h : Incl A i B j) (e : fol A i c = some i') (l : Live A i') (e2 : fol B j c = none) : False := by
  obtain ⟨α, a⟩ := l
  obtain ⟨k, ek, b⟩ := acc_cns.mp (h (cns c α) (acc_cns.mpr ⟨i', e, a⟩))
  rw [e2] at ek
  cases ek
theorem stW_none (h : fo2 A (s1 s) c = none) : stW A B s c = none := by unfold stW; rw [h]; rfl
theorem stW_some {i : Nat} (h : fo2 A (s1 s) c = some i) : stW A B s c = some (pS (some i) (fo2 B (s2 s) c)) := by unfold stW; rw [h]; rfl
/-- pairs of rooms that are met -/
def okW (A B : Tab) (s : Sta) : Prop := ∃ i j, s = pS (some i) (some j) ∧ i < A.length ∧ j < B.length ∧ (Incl A 0 B 0 → Incl A i B j)
theorem okW_P (h : okW A B s) : okP A B s := by
  obtain ⟨i, j, e, h1, h2, _⟩ := h
  exact ⟨_, _, e, fun k hk => by cases hk; exact h1, fun k hk => by cases hk; exact h2⟩
theorem okW_b (hA : A ≠ []) (hB : B ≠ []) : okW A B b00 := ⟨0, 0, rfl, List.length_pos_iff.mpr hA, List.length_pos_iff.mpr hB, id⟩
theorem okW_step (tA : TIn A) (tB : TIn B) (h : okW A B s) (e : stW A B s c = some s') (n : s2 s' ≠ none) : okW A B s' := by
  obtain ⟨i, j, rfl, h1, h2, h3⟩ := h
  cases z : fo2 A (s1 (pS (some i) (some j))) c with
  | none => rw [stW_none z] at e; cases e
  | some i' =>
    rw [stW_some z] at e
    cases e
    cases y : fo2 B (s2 (pS (some i) (some j))) c with
    | none => rw [y] at n; exact absurd s2_pS n
    | some j' =>
      rw [s1_pS] at z
      rw [s2_pS] at y
      exact ⟨i', j', rfl, fol_in tA z, fol_in tB y, fun q => (h3 q).step z y⟩
/-- steps that lose nothing -/
def GoodW (A B : Tab) (m : Nat) (N : List Sta) (x : Nat) : Prop := ∀ c s', c < m → stW A B (atS N x) c = some s' → s2 s' ≠ none
theorem nS_W (tA : TIn A) (tB : TIn B) (hA : A ≠ []) (hB : B ≠ []) : ∀ {j : Nat}, (∀ i, i < j → i < (nS (stW A B) m b00 i).length) → (∀ x, x < j → GoodW A B m (nS (stW A B) m b00 x) x) → (∀ s ∈ nS (stW A B) m b00 j, okW A B s) ∧ (nS (stW A B) m b00 j).length ≤ (A.length + 1) * (B.length + 1)
  | j, hp, hg => by
    have main : ∀ j, (∀ i, i < j → i < (nS (stW A B) m b00 i).length) → (∀ x, x < j → GoodW A B m (nS (stW A B) m b00 x) x) → ∀ s ∈ nS (stW A B) m b00 j, okW A B s := by
      intro j
      induction j with
      | zero => exact fun _ _ s h => by rw [List.mem_singleton.mp h]; exact okW_b hA hB
      | succ j ih =>
        intro hp hg s h
        have ih := ih (fun i hi => hp i (by omega)) fun x hx => hg x (by omega)
        rcases mem_foldS.mp h with h | h
        · exact ih s h
        · obtain ⟨c, hc, e⟩ := List.mem_map.mp h
          exact okW_step tA tB (ih _ (atS_mem (hp j (by omega)))) e (hg j (by omega) c s (List.mem_range.mp hc) e)
    refine ⟨main j hp hg, ?_⟩
    rw [← allP_len]
    exact nodup_lenS (nS_nodup j) fun x hx => okP_mem (okW_P (main j hp hg x hx))
theorem within_true (ex : ExN (stW A B) m b00 n) (hm : ∀ r ∈ A, r.length = m) (hg : ∀ x, x < n → GoodW A B m (nS (stW A B) m b00 x) x) : Incl A 0 B 0 := by
  intro α a
  refine acc_sim (R := fun x y => pS (some x) (some y) ∈ nS (stW A B) m b00 n) ?_ ?_ a
  · obtain ⟨x, hx⟩ := nS_pre (st := stW A B) (m := m) (b := b00) (Nat.zero_le n)
    rw [hx]
    exact List.mem_append_left _ (by simp [nS])
  · intro x y c x' r f l
    obtain ⟨hi, ha⟩ := ex.idx r
    have hc := fol_c hm f
    have e : stW A B (atS (nS (stW A B) m b00 n) ((nS (stW A B) m b00 n).idxOf (pS (some x) (some y)))) c = some (pS (some x') (fo2 B (some y) c)) := by
      rw [ha, stW_some (i := x') (by rw [s1_pS]; exact f), s2_pS]
    have e' := e
    rw [atS_pre (by omega) (ex.hp _ hi)] at e'
    have := hg _ hi c _ hc e'
    rw [s2_pS] at this
    cases z : fo2 B (some y) c with
    | none => exact absurd z this
    | some y' =>
      rw [z] at e
      exact ⟨y', z, ex.mem hi hc e⟩
theorem within_false (lA : ∀ i, i < A.length → Live A i) (tA : TIn A) (h : okW A B s) (e : stW A B s c = some s') (n : s2 s' = none) : ¬ Incl A 0 B 0 := by
  obtain ⟨i, j, rfl, h1, h2, h3⟩ := h
  intro q
  cases z : fo2 A (s1 (pS (some i) (some j))) c with
  | none => rw [stW_none z] at e; cases e
  | some i' =>
    rw [stW_some z] at e
    cases e
    rw [s2_pS, s2_pS] at n
    rw [s1_pS] at z
    exact (h3 q).lost z (lA i' (fol_in tA z)) n
end
/-! dicts of tuples with one value -/
def kvC (v : V) (N : List Sta) : List (List Key × V) := N.map fun k => (k.map Sum.inl, v)
theorem kvC_val (v : V) : ∀ (N : List Sta) (k : Sta), valV (kvC v N) (k.map Sum.inl) = if k ∈ N then some v else none
  | [], k => rfl
  | p :: r, k => by
    by_cases e : p = k
    · subst e
      show valV ((p.map Sum.inl, v) :: kvC v r) _ = _
      rw [valV_pos rfl, if_pos List.mem_cons_self]
    · show valV ((p.map Sum.inl, v) :: kvC v r) _ = _
      rw [valV_neg (fun z => e (inl_inj z)), kvC_val v r k]
      by_cases m : k ∈ r
      · rw [if_pos m, if_pos (List.mem_cons_of_mem _ m)]
      · rw [if_neg m, if_neg (fun z => (List.mem_cons.mp z).elim (fun y => e y.symm) m)]
theorem kvC_put {v : V} {N : List Sta} {k : Sta} (h : k ∉ N) : putK (kvC v N) (k.map Sum.inl) v = kvC v (N ++ [k]) := by
  have e : valV (kvC v N) (k.map Sum.inl) = none := by rw [kvC_val, if_neg h]
  unfold putK
  rw [if_neg (by rw [any_none e]; decide)]
  unfold kvC
  rw [List.map_append]
  rfl
section
variable {F H : Hp} {L : List (Addr × HO)} {a b : Addr} {i : Nat} {Q : VK} {k : Sta} {N : List Sta} {v : V}
theorem o_dnC (e : H a = some (.dT (kvC v N))) (eb : H b = some (.tup (k.map V.int))) (q : Q (.bl (!decide (k ∈ N))) H) : cDn Q (.ref b) (.ref a) H := by
  refine ⟨a, _, rfl, DGet.t (k := k.map Sum.inl) e (by rw [kV_map]; exact eb), ?_⟩
  rw [kvC_val]
  by_cases m : k ∈ N
  · rw [if_pos m]; rw [decide_eq_true m] at q; exact q
  · rw [if_neg m]; rw [decide_eq_false m] at q; exact q
theorem o_dsetC {R : Hp → Prop} (h : Own F H L) (e : L[i]? = some (a, .dT (kvC v N))) (eb : H b = some (.tup (k.map V.int))) (m : k ∉ N) (z : N.length ≤ 1000000) (q : ∀ H', Own F H' (L.set i (a, .dT (kvC v (N ++ [k])))) → R H') : rSetD (.ref a) (.ref b) v H R := by
  refine ⟨a, _, rfl, DPut.t (k := k.map Sum.inl) (h.get i e) (by rw [kV_map]; exact eb) (by unfold kvC; rw [List.length_map]; exact Nat.lt_of_le_of_lt z (by decide)), ?_⟩
  rw [kvC_put m]
  exact q _ (h.put i e)
end

/-! signs of solutions, within -/
theorem Own.frzAt {F H : Hp} {L : List (Addr × HO)} {p : Addr} {o : HO} (h : Own F H L) (i : Nat) (e : L[i]? = some (p, o)) : Own (upd F p o) H (L.eraseIdx i) ∧ Same F (upd F p o) := by
  have hp := h.own i p o e
  have at_ : ∀ j b u, (L.eraseIdx i)[j]? = some (b, u) → ∃ k, L[k]? = some (b, u) ∧ k ≠ i := fun j b u hj => by
    rw [List.getElem?_eraseIdx] at hj
    by_cases z : j < i
    · rw [if_pos z] at hj
      exact ⟨j, hj, by omega⟩
    · rw [if_neg z] at hj
      exact ⟨j + 1, hj, by omega⟩
  refine ⟨⟨fun b u e => ?_, fun j b u e2 => ?_, ?_⟩, fun b u e => ?_⟩
  · by_cases q : b = p
    · subst q; rw [upd_same] at e; cases e; exact hp.1
    · rw [upd_ne q] at e; exact h.sub b u e
  · obtain ⟨k, ek, nk⟩ := at_ j b u e2
    have nb : b ≠ p := h.ne k i ek e nk
    exact ⟨(h.own k b u ek).1, by rw [upd_ne nb]; exact (h.own k b u ek).2⟩
  · exact h.nd.sublist ((List.eraseIdx_sublist _ _).map _)
  · rw [upd_ne (ne_of_none e hp.2)]; exact e


def ofT (T : Tab) : Raw := T.map fun r => r.map fun e => e.map fun n : Nat => (n : Int)
theorem toT_ofT (T : Tab) : toT (ofT T) = T := by
  unfold toT ofT toR
  rw [List.map_map]
  conv => rhs; rw [← List.map_id T]
  refine List.map_congr_left fun r _ => ?_
  show List.map _ (List.map _ r) = r
  rw [List.map_map]
  conv => rhs; rw [← List.map_id r]
  refine List.map_congr_left fun e _ => ?_
  cases e <;> rfl
theorem ofT_row (r : List (Option Nat)) : (r.map fun e => e.map fun n : Nat => (n : Int)).map vZ = r.map vO := by
  rw [List.map_map]
  refine List.map_congr_left fun e _ => ?_
  cases e <;> rfl
theorem RoomsAt.raw {K : PySem.W.Frag} {H : Hp} : ∀ {vs : List V} {T : Tab}, RoomsAt K H vs T → RawsAt K H vs (ofT T)
  | _, _, .nil => .nil
  | _, _, .cons ⟨b, e, s⟩ z => by
    subst e
    exact .cons (by rw [ofT_row]; exact s) z.raw
theorem TabAt.raw {K : PySem.W.Frag} {H : Hp} {a : Addr} {T : Tab} (h : TabAt K H a T) : RawAt K H a (ofT T) := by
  obtain ⟨vs, s, r⟩ := h
  exact ⟨vs, s, r.raw⟩
theorem ofT_len (T : Tab) : (ofT T).length = T.length := List.length_map _
theorem ofT_ok {T : Tab} {k : Nat} (tin : TIn T) (hm : ∀ r ∈ T, r.length = 2 ^ k) : ∀ r ∈ ofT T, okR (two k) ((ofT T).length : Nat) r = true := by
  intro r hr
  obtain ⟨s, hs, rfl⟩ := List.mem_map.mp hr
  unfold okR
  rw [ofT_len, List.length_map, hm s hs]
  have e : ((2 ^ k : Nat) : Int) = two k := by unfold two; simp
  rw [e, decide_eq_true rfl, Bool.true_and, List.all_eq_true]
  intro d hd
  obtain ⟨x, hx, rfl⟩ := List.mem_map.mp hd
  cases x with
  | none => rfl
  | some n =>
    have := tin.lt s hs _ hx n rfl
    show (decide ((0 : Int) ≤ (n : Int)) && decide ((n : Int) < (T.length : Int))) = true
    rw [decide_eq_true (by omega), decide_eq_true (by omega)]
    rfl
/-- the call Solutions(names, table) of a right table -/
theorem cMk_T {K : PySem.W.Frag} {C IN IT a b : Addr} {isT : Bool} {ns : List Str} {T : Tab} {Q : VK} {E : XK} {H : Hp} (sq : SqB K H a isT (ns.map V.str)) (ok : okN ns = true) (ta : TabAt K H b T) (tin : TIn T) (hm : ∀ r ∈ T, r.length = 2 ^ ns.length) (hT : T.length ≤ 1000)
    (k3 : ∀ T' p H', IsLeast (2 ^ ns.length) T T' → T'.length ≤ T.length → H p = none → Same H H' → (∀ F2, Same (newF H H') F2 → (isT = true → SqT K F2 a (ns.map V.str)) → SolAt K C F2 p ns T') → Q (.ref p) H') :
    cMk C 2 0 (sp_Sol_init K C IN IT) gPos Q E [.ref a, .ref b] [] H := by
  have l3 := (okN_len ok).2
  have o1 := okN_one ok
  refine cMk_S (R := ofT T) sq (by omega) (fun x hx => by rw [o1 x hx]; decide) ta.raw (by rw [ofT_len]; exact hT) (fun r hr => ?_) (fun n => absurd (ok.symm.trans n) (by decide)) (fun _ i r h1 h2 => absurd ((ofT_ok tin hm r (List.mem_of_getElem? h1)).symm.trans h2) (by decide)) ?_
  · obtain ⟨s, hs, rfl⟩ := List.mem_map.mp hr
    rw [List.length_map, hm s hs]
    exact Nat.le_trans (Nat.pow_le_pow_right (by decide) l3) (by decide)
  · intro _ _ T' p dS t r H' le ll nP nr s e st tt
    rw [toT_ofT] at le
    rw [ofT_len] at ll
    refine k3 T' p H' le ll nP s fun F2 sF hT => ⟨ok, le.1, by omega, dS, t, r, sF _ _ (newF_at nP e), ?_, tt.same sF⟩
    cases isT with
    | true =>
      have st : t = a := st
      rw [st]
      exact hT rfl
    | false => exact SqT.of (sF _ _ (newF_at st.1 st.2))
def sp_sign (K : PySem.W.Frag) (CS IU : Addr) (both : Bool) : Sp := fun vs H Q E => ∃ (p q : Addr) (ns ms : List Str) (T1 T2 : Tab), vs = [.ref p, .ref q] ∧ SolAt K CS H p ns T1 ∧ SolAt K CS H q ms T2 ∧ (T1.length + 1) * (T2.length + 1) ≤ 1000 ∧
  (ns = ms → ∀ T r H', (∀ α, Acc T 0 α ↔ if both then Acc T1 0 α ∧ Acc T2 0 α else Acc T1 0 α ∨ Acc T2 0 α) → T.length ≤ (T1.length + 1) * (T2.length + 1) → H r = none → Same H H' → (∀ F F2, SolAt K CS F p ns T1 → Same F H → Same F F2 → Same (newF H H') F2 → SolAt K CS F2 r ns T) → Q (.ref r) H') ∧
  (ns ≠ ms → ∀ d t l1 l2 H', Same H H' → H d = none → H t = none → H l1 = none → H l2 = none → l1 ≠ l2 → H' d = some (.xd [("value", .ref t)]) → H' t = some (.tup [.ref l1, .ref l2]) → H' l1 = some (.lst (ns.map V.str)) → H' l2 = some (.lst (ms.map V.str)) → E (.ref IU) (some d) H')
theorem sol_tup {K : PySem.W.Frag} {CS p dx t r : Addr} {H F F2 : Hp} {ns : List Str} {T : Tab} (so : SolAt K CS F p ns T) (s : Same F H) (e : H p = some (.ins CS dx (sfl (.ref t) (.ref r)))) (s2 : Same F F2) : SqT K F2 t (ns.map V.str) := by
  obtain ⟨_, _, _, dx1, t1, r1, e1, st, _⟩ := so
  have := s _ _ e1
  rw [e] at this
  cases this
  exact sqT_same s2 st
theorem two_pow (k : Nat) : (1 : Int) * 2 ^ ((k : Nat) : Int).toNat = ((2 ^ k : Nat) : Int) := by
  have e : ((k : Nat) : Int).toNat = k := by omega
  rw [e]
  simp
set_option hygiene false in
local macro_rules | `(tactic| walk_at "r1") => `(tactic| first
  | ((with_reducible refine' Bs.o_gfldF ?p1 ?p3 ?p4 ?p5 ?_); (case p1 => walk_at "hx"); (case p3 => assumption); (case p4 => assumption); (case p5 => walk_at "lk")))
section
variable {P : Program} {w : World} {K : PySem.W.Frag} {mg : Str → Option Value} {base : Heap} {CS aInvalidNames aInvalidTable aUnlikeNames f : Addr} {fd : FuncData}
theorem ok_Solutions___and__ (F : FnP K "__and__" "Solutions.__and__" s_Solutions___and__ f fd) (B : Bi mg) (c_check_alike : Fo P w K mg base (L2.CX P w) 3 "check_alike" ["names", "other_names"] (sp_alike K aUnlikeNames)) (c_Solutions : ClX P w K mg base "Solutions" CS 6 ["self", "names", "table"] (sp_Sol_init K CS aInvalidNames aInvalidTable)) (c_paired : Fo P w K mg base CX0 2 "paired" ["one", "other", "letters", "both"] (sp_paired K)) (clS : Cls K CS) (nSn : NoAttr K CS "kept_names") (nSr : NoAttr K CS "rooms") : FnOk P w K mg base (L2.CX P w) 8 f fd ["self", "other"] (sp_sign K CS aUnlikeNames true) := by
  refine F.ok sc_Solutions___and__ (fun vs H Q E h => by walk_at "len") (fun cdv A outer s H vs Q E hr h => ?_)
  have nd := sc_Solutions___and__.nd
  obtain ⟨p, q', ns, ms, T1, T2, rfl, so1, so2, hl, q1, q2⟩ := h
  obtain ⟨dx, t, r, ep, st, tt⟩ := so1.at_
  obtain ⟨dy, t', r', eq', st', tt'⟩ := so2.at_
  refine ⟨_, pss_cons (ps_expr (pe_fx c_check_alike hr (by decide) (fun σ => passAt (takes_of rfl rfl rfl rfl) σ) (pa_cons (pe_callTy cb_listof rfl B.list (by decide +kernel) (pa_cons (pe_fld (pv 0) rfl) pa_nil)) (pa_cons (pe_callTy cb_listof rfl B.list (by decide +kernel) (pa_cons (pe_fld (pv 1) rfl) pa_nil)) pa_nil))))
      (pss_one (ps_ret (pe_mkCX c_Solutions hr (by decide) (fun σ => passAt (takes_of rfl rfl rfl rfl) σ) (pa_cons (pe_fld (pv 0) rfl) (pa_cons (pe_fo c_paired hr (by decide) (pa_cons (pe_fld (pv 0) rfl) (pa_cons (pe_fld (pv 1) rfl) (pa_cons (pe_op op_shlW pe_int (pe_callB cb_len rfl B.len (by decide +kernel) (pa_cons (pe_fld (pv 0) rfl) pa_nil))) (pa_cons pe_bl pa_nil))))) pa_nil))))), ?_⟩
  walk_at "s0"
  have ow := Own.start H
  have sE : SqE K H t (ns.map V.str) := .inr st
  have sE' : SqE K H t' (ms.map V.str) := .inr st'
  walk_at "go"
  rename_i l1 _ n1 ow1
  have s1 := ow.toSame_of
  have nl1 := ow.new0 g1
  have nl2 := ow.new0 g0
  refine ⟨l1, pL, ns, ms, rfl, SqL.of (ow.get 1 rfl), SqL.of (ow.get 0 rfl), okN_S so1.ok, okN_S so2.ok, fun e H3 s3 => ?_, fun ne d t0 H3 s3 nd nt ed et => ?_⟩
  · replace ow := ow.same s3
    have l3 := so1.l3
    have h1 := so1.can.rows
    have h2 := so2.can.rows
    rw [← e] at h2
    have hmm : 2 ^ ns.length ≤ 100 := Nat.le_trans (Nat.pow_le_pow_right (by decide) l3) (by decide)
    have lm : (ns.map V.str).length = ns.length := List.length_map _
    walk_at "go"
    rw [lm, two_pow]
    refine ⟨r, r', T1, T2, 2 ^ ns.length, true, rfl, tt.same ow.toSame_of, tt'.same ow.toSame_of, so1.can.tin, so2.can.tin, hl, hmm, h1, h2, fun T r3 H4 pr n3 s4 t3 => ?_⟩
    replace ow := ow.same s4
    refine cMk_T (isT := true) (sqT_same ow.toSame_of st) so1.ok t3 pr.tin pr.rows (Nat.le_trans (pr.len so1.can.tin so2.can.tin) hl) fun T' p5 H5 il ll np5 s5 so5 => ?_
    exact q1 e T' p5 H5 (fun α => by rw [← il.2 α]; exact paired_acc h1 h2 pr) (Nat.le_trans ll (pr.len so1.can.tin so2.can.tin)) (same_none ow.toSame_of np5) (ow.toSame_of.trans s5) fun F F2 soF sF sF2 sN => so5 F2 ((newF_pre ow.toSame_of).trans sN) fun _ => sol_tup soF sF ep sF2
  · replace ow := ow.same s3
    exact q2 ne d t0 l1 pL H3 ow.toSame_of (same_none s1 nd) (same_none s1 nt) nl1 nl2 (ow.ne 1 0 rfl rfl (by decide)) ed et (ow.get 1 rfl) (ow.get 0 rfl)
theorem ok_Solutions___or__ (F : FnP K "__or__" "Solutions.__or__" s_Solutions___or__ f fd) (B : Bi mg) (c_check_alike : Fo P w K mg base (L2.CX P w) 3 "check_alike" ["names", "other_names"] (sp_alike K aUnlikeNames)) (c_Solutions : ClX P w K mg base "Solutions" CS 6 ["self", "names", "table"] (sp_Sol_init K CS aInvalidNames aInvalidTable)) (c_paired : Fo P w K mg base CX0 2 "paired" ["one", "other", "letters", "both"] (sp_paired K)) (clS : Cls K CS) (nSn : NoAttr K CS "kept_names") (nSr : NoAttr K CS "rooms") : FnOk P w K mg base (L2.CX P w) 8 f fd ["self", "other"] (sp_sign K CS aUnlikeNames false) := by
  refine F.ok sc_Solutions___or__ (fun vs H Q E h => by walk_at "len") (fun cdv A outer s H vs Q E hr h => ?_)
  have nd := sc_Solutions___or__.nd
  obtain ⟨p, q', ns, ms, T1, T2, rfl, so1, so2, hl, q1, q2⟩ := h
  obtain ⟨dx, t, r, ep, st, tt⟩ := so1.at_
  obtain ⟨dy, t', r', eq', st', tt'⟩ := so2.at_
  refine ⟨_, pss_cons (ps_expr (pe_fx c_check_alike hr (by decide) (fun σ => passAt (takes_of rfl rfl rfl rfl) σ) (pa_cons (pe_callTy cb_listof rfl B.list (by decide +kernel) (pa_cons (pe_fld (pv 0) rfl) pa_nil)) (pa_cons (pe_callTy cb_listof rfl B.list (by decide +kernel) (pa_cons (pe_fld (pv 1) rfl) pa_nil)) pa_nil))))
      (pss_one (ps_ret (pe_mkCX c_Solutions hr (by decide) (fun σ => passAt (takes_of rfl rfl rfl rfl) σ) (pa_cons (pe_fld (pv 0) rfl) (pa_cons (pe_fo c_paired hr (by decide) (pa_cons (pe_fld (pv 0) rfl) (pa_cons (pe_fld (pv 1) rfl) (pa_cons (pe_op op_shlW pe_int (pe_callB cb_len rfl B.len (by decide +kernel) (pa_cons (pe_fld (pv 0) rfl) pa_nil))) (pa_cons pe_bl pa_nil))))) pa_nil))))), ?_⟩
  walk_at "s0"
  have ow := Own.start H
  have sE : SqE K H t (ns.map V.str) := .inr st
  have sE' : SqE K H t' (ms.map V.str) := .inr st'
  walk_at "go"
  rename_i l1 _ n1 ow1
  have s1 := ow.toSame_of
  have nl1 := ow.new0 g1
  have nl2 := ow.new0 g0
  refine ⟨l1, pL, ns, ms, rfl, SqL.of (ow.get 1 rfl), SqL.of (ow.get 0 rfl), okN_S so1.ok, okN_S so2.ok, fun e H3 s3 => ?_, fun ne d t0 H3 s3 nd nt ed et => ?_⟩
  · replace ow := ow.same s3
    have l3 := so1.l3
    have h1 := so1.can.rows
    have h2 := so2.can.rows
    rw [← e] at h2
    have hmm : 2 ^ ns.length ≤ 100 := Nat.le_trans (Nat.pow_le_pow_right (by decide) l3) (by decide)
    have lm : (ns.map V.str).length = ns.length := List.length_map _
    walk_at "go"
    rw [lm, two_pow]
    refine ⟨r, r', T1, T2, 2 ^ ns.length, false, rfl, tt.same ow.toSame_of, tt'.same ow.toSame_of, so1.can.tin, so2.can.tin, hl, hmm, h1, h2, fun T r3 H4 pr n3 s4 t3 => ?_⟩
    replace ow := ow.same s4
    refine cMk_T (isT := true) (sqT_same ow.toSame_of st) so1.ok t3 pr.tin pr.rows (Nat.le_trans (pr.len so1.can.tin so2.can.tin) hl) fun T' p5 H5 il ll np5 s5 so5 => ?_
    exact q1 e T' p5 H5 (fun α => by rw [← il.2 α]; exact paired_acc h1 h2 pr) (Nat.le_trans ll (pr.len so1.can.tin so2.can.tin)) (same_none ow.toSame_of np5) (ow.toSame_of.trans s5) fun F F2 soF sF sF2 sN => so5 F2 ((newF_pre ow.toSame_of).trans sN) fun _ => sol_tup soF sF ep sF2
  · replace ow := ow.same s3
    exact q2 ne d t0 l1 pL H3 ow.toSame_of (same_none s1 nd) (same_none s1 nt) nl1 nl2 (ow.ne 1 0 rfl rfl (by decide)) ed et (ow.get 1 rfl) (ow.get 0 rfl)
end

/-! what repr asks of names and tables -/
theorem rp_strS {x : Str} (h : PyData.strOk x = true) (l : x.length ≤ 10) : Rp 0 10 (.str x) := by
  refine ⟨by simp [PyData.showable], by simp [PyData.hasDict], by simp [PyData.depth], ?_, ?_⟩
  · unfold PyData.strOk at h
    simp only [PyData.leavesShort]
    rw [List.all_eq_true]
    intro c hc
    have := Array.all_eq_true'.mp h c (by simpa using hc)
    have := of_decide_eq_true this
    exact decide_eq_true (by omega)
  · simp only [PyData.weight]
    exact l
theorem rq_strs {ns : List Str} {k m : Nat} (o : OkS ns) (l : ns.length ≤ 3) (h : ∀ x ∈ ns, x.length ≤ 10) (hk : Nat.ble 1 k = true) (hm : Nat.ble 40 m = true) : Rp k m (.list (ns.map PyData.str)) := by
  have a : RpL 0 10 (ns.map PyData.str) := fun d hd => by
    obtain ⟨x, hx, rfl⟩ := List.mem_map.mp hd
    exact rp_strS (o x hx) (h x hx)
  refine (rp_list (rpl_all a)).mono (Nat.le_of_ble_eq_true hk) (Nat.le_trans ?_ (Nat.le_of_ble_eq_true hm))
  rw [List.length_map]
  omega
theorem rp_pO {e : Option Nat} (h : ∀ n, e = some n → n < 64) : Rp 0 9 (pO e) := by
  cases e with
  | none => exact rp_non.mono (Nat.le_refl _) (by decide)
  | some n => exact rp_intS 7 (by have := h n rfl; show ((n : Int)).natAbs < 2 ^ 7; omega) (by decide) (by decide)
theorem rq_tab {T : Tab} {k m : Nat} (tin : TIn T) (hl : T.length ≤ 64) (hm : ∀ r ∈ T, r.length ≤ 8) (hk : Nat.ble 2 k = true) (hw : Nat.ble 5400 m = true) : Rp k m (.list (T.map pR)) := by
  have a : RpL 1 81 (T.map pR) := fun d hd => by
    obtain ⟨r, hr, rfl⟩ := List.mem_map.mp hd
    have b : RpL 0 9 (r.map pO) := fun d hd => by
      obtain ⟨e, he, rfl⟩ := List.mem_map.mp hd
      exact rp_pO fun n hn => Nat.lt_of_lt_of_le (tin.lt r hr e he n hn) hl
    refine (rp_list (rpl_all b)).mono (Nat.le_refl _) ?_
    rw [List.length_map]
    have := hm r hr
    omega
  refine (rp_list (rpl_all a)).mono (Nat.le_of_ble_eq_true hk) (Nat.le_trans ?_ (Nat.le_of_ble_eq_true hw))
  rw [List.length_map]
  omega

/-! drawn names and tables, as callers take them -/
theorem c_lnames {K : PySem.W.Frag} {F H : Hp} {L : List (Addr × HO)} {i c : Nat} {a : Addr} {x y z v : Int} {Q : VK} {E : XK} (h : Own F H L) (e : L[i]? = some (a, wl x y z)) (wk : WOk y z) (hz : z + 10 ≤ 1000000) (hv : v = (c : Nat)) (hc : c ≤ 3)
    (k : ∀ (ks : List Nat) x' z' r F' H', ks.length = c → ks.Pairwise (· < ·) → (∀ k ∈ ks, k < 26) → z ≤ z' → z' ≤ z + 4 → WOk y z' → Own F' H' (L.set i (a, wl x' y z')) → Same F F' → SqL K F' r ((ks.map letS).map V.str) → Q (.ref r) H') : sp_lnames ([.ref a, .int v] ++ []) H Q E := by
  refine ⟨a, x, y, z, c, by rw [hv]; rfl, h.get i e, wk, hz, hc, fun ks x' z' r H' l p b z1 z2 n m er => ?_⟩
  obtain ⟨o, s⟩ := (h.mutnew e m n er).frz
  refine k ks x' z' r _ H' l p b z1 z2 ⟨wk.y0, wk.y1, by have := wk.z0; omega, by omega⟩ o s (SqL.of ?_)
  rw [List.map_map]
  exact upd_same
theorem c_ltable {K : PySem.W.Frag} {F H : Hp} {L : List (Addr × HO)} {i m n : Nat} {a : Addr} {x y z v u : Int} {Q : VK} {E : XK} (h : Own F H L) (e : L[i]? = some (a, wl x y z)) (wk : WOk y z) (hz : z + 400 ≤ 1000000) (hv : v = (m : Nat)) (hu : u = (n : Nat)) (hm : m ≤ 8) (hn : n ≤ 20)
    (k : ∀ (T : Tab) x' z' r F' H', T.length ≤ n → TIn T → (∀ q ∈ T, q.length = m) → z ≤ z' → z' ≤ z + 400 → WOk y z' → Own F' H' (L.set i (a, wl x' y z')) → Same F F' → TabAt K F' r T → Q (.ref r) H') : sp_ltable K ([.ref a, .int v, .int u] ++ []) H Q E := by
  refine ⟨a, x, y, z, m, n, by rw [hv, hu]; rfl, h.get i e, wk, hz, hm, hn, fun T x' z' r us H' l tin hr z1 z2 nr mu er ra => ?_⟩
  obtain ⟨F2, o2, s1, s2⟩ := h.rebase e mu nr er
  obtain ⟨o3, s3⟩ := o2.frz
  exact k T x' z' r _ H' l tin hr z1 z2 ⟨wk.y0, wk.y1, by have := wk.z0; omega, by omega⟩ o3 (s1.trans s3) ⟨us, SqL.of upd_same, ra.same (s2.trans s3)⟩
theorem Own.frzs {H : Hp} {x : Addr × HO} : ∀ (L1 : List (Addr × HO)) {F : Hp}, Own F H (L1 ++ [x]) → ∃ F', Own F' H [x] ∧ Same F F' ∧ ∀ (i : Nat) (a : Addr) (o : HO), L1[i]? = some (a, o) → F' a = some o
  | [], F, h => ⟨F, h, Same.refl F, fun i a o e => by simp at e⟩
  | (p, o) :: L1, F, h => by
    obtain ⟨h2, s⟩ := Own.frz (L := L1 ++ [x]) h
    obtain ⟨F', h3, s3, g⟩ := Own.frzs L1 h2
    refine ⟨F', h3, s.trans s3, fun i a u e => ?_⟩
    cases i with
    | zero => simp at e; obtain ⟨rfl, rfl⟩ := e; exact s3 _ _ upd_same
    | succ i => exact g i a u (by simpa using e)
theorem lt_one {a b : Nat} : ([a] : List Nat) < [b] ↔ a < b := by
  rw [List.cons_lt_cons_iff]
  exact ⟨fun h => h.elim id fun h => absurd h.2 (List.lt_irrefl _), fun h => .inl h⟩
theorem isL_let {k : Nat} (h : k < 26) : isL (letS k) = true := by
  unfold isL
  have e1 : (letS k).length = 1 := rfl
  have e2 : ¬ ((letS k).cps.toList < ("a" : Str).cps.toList) := by
    show ¬ ([97 + k] < [97])
    rw [lt_one]; omega
  have e3 : ¬ (("z" : Str).cps.toList < (letS k).cps.toList) := by
    show ¬ ([122] < [97 + k])
    rw [lt_one]; omega
  rw [decide_eq_true e1, decide_eq_false e2, decide_eq_false e3]
  rfl
theorem okN_lets {ks : List Nat} (l1 : 1 ≤ ks.length) (l3 : ks.length ≤ 3) (p : ks.Pairwise (· < ·)) (b : ∀ k ∈ ks, k < 26) : okN (ks.map letS) = true := by
  unfold okN
  rw [List.length_map, decide_eq_true l1, decide_eq_true l3, Bool.true_and, Bool.true_and, List.all_eq_true]
  intro i hi
  have hi := List.mem_range.mp hi
  unfold okAt
  have e : (ks.map letS)[i]?.getD Str.empty = letS ks[i] := by rw [List.getElem?_map, List.getElem?_eq_getElem hi]; rfl
  rw [e, isL_let (b _ (List.getElem_mem hi)), Bool.true_and]
  by_cases z : i = 0
  · rw [decide_eq_true z, Bool.true_or]
  · have h2 : i - 1 < ks.length := by omega
    have e2 : (ks.map letS)[i - 1]?.getD Str.empty = letS ks[i - 1] := by rw [List.getElem?_map, List.getElem?_eq_getElem h2]; rfl
    have lt := List.pairwise_iff_getElem.mp p (i - 1) i h2 hi (by omega)
    rw [e2, decide_eq_false z, Bool.false_or]
    unfold ltS
    refine decide_eq_true ?_
    show [97 + ks[i - 1]] < [97 + ks[i]]
    rw [lt_one]; omega

/-! solutions as callers take them -/
theorem Own.rest {F H H' : Hp} {L : List (Addr × HO)} (h : Own F H L) (s : Same H H') : ∃ F2, Own F2 H' L ∧ Same F F2 ∧ Same (newF H H') F2 := by
  have hm : ∀ c, c ∈ L.map Prod.fst → ∃ o, H c = some o ∧ F c = none := fun c hc => by
    obtain ⟨⟨c', o⟩, hw, rfl⟩ := List.mem_map.mp hc
    obtain ⟨j, hj, ew⟩ := List.mem_iff_getElem.mp hw
    exact ⟨o, h.own j c' o (by rw [List.getElem?_eq_getElem hj, ew])⟩
  refine ⟨fun c => if c ∈ L.map Prod.fst then none else H' c, ⟨fun c o e => ?_, fun i c o e => ⟨s _ _ (h.get i e), if_pos (List.mem_map.mpr ⟨(c, o), List.mem_of_getElem? e, rfl⟩)⟩, h.nd⟩, fun c o e => ?_, fun c o e => ?_⟩
  · split at e
    · cases e
    · exact e
  · show (if _ then _ else _) = _
    rw [if_neg]
    · exact s _ _ (h.sub c o e)
    · intro z
      obtain ⟨u, _, n⟩ := hm c z
      rw [e] at n
      cases n
  · show (if _ then _ else _) = _
    unfold newF at e
    split at e
    · cases e
    · rename_i n1
      rw [if_neg]
      · exact e
      · intro z
        obtain ⟨u, g, _⟩ := hm c z
        rw [g] at n1
        exact n1 rfl
theorem newB_newF {H H' : Hp} {r : Addr} : Same (newB H H' r) (newF H H') := fun c o e => by
  unfold newB at e
  unfold newF
  split at e
  · cases e
  · exact e
section
variable {K : PySem.W.Frag} {F H : Hp} {L : List (Addr × HO)} {CS p : Addr} {ns : List Str} {T : Tab} {Q : VK} {E : XK} {sp : Sp}
theorem c_prS (so : SolAt K CS H p ns T) (k : sp [.ref p] H Q E) : cPr CS sp E Q (.ref p) H := by
  obtain ⟨dx, t, r, e1, _⟩ := so.at_
  exact ⟨p, dx, _, rfl, e1, k⟩
theorem c_names (h : Own F H L) (so : SolAt K CS H p ns T) (k : ∀ l H', H l = none → Own F H' ((l, .lst (ns.map V.str)) :: L) → Q (.ref l) H') : sp_Snames K CS [.ref p] H Q E :=
  ⟨p, ns, T, rfl, so, fun l H' n s e => k l H' n (h.newS n s e)⟩
theorem c_table (h : Own F H L) (so : SolAt K CS H p ns T) (k : ∀ r F' H', Own F' H' L → Same F F' → TabAt K F' r T → Q (.ref r) H') : sp_Stable K CS [.ref p] H Q E :=
  ⟨p, ns, T, rfl, so, fun r H' s ⟨n, us, e, ra⟩ => by
    obtain ⟨F2, o2, s1, s2⟩ := h.rest s
    exact k r F2 H' o2 s1 ⟨us, SqL.of (s2 _ _ (newF_at n e)), (ra.same (newB_newF.trans s2)).to⟩⟩
end
theorem Own.unf {F H : Hp} {L : List (Addr × HO)} {p : Addr} {o : HO} (h : Own F H L) (e : F p = some o) : Own (fun c => if c = p then none else F c) H ((p, o) :: L) := by
  refine ⟨fun c u z => ?_, fun i c u z => ?_, ?_⟩
  · split at z
    · cases z
    · exact h.sub c u z
  · cases i with
    | zero => simp at z; obtain ⟨rfl, rfl⟩ := z; exact ⟨h.gets e, if_pos rfl⟩
    | succ i =>
      have z' : L[i]? = some (c, u) := by simpa using z
      refine ⟨(h.own i c u z').1, ?_⟩
      show (if _ then _ else _) = _
      split
      · rfl
      · exact (h.own i c u z').2
  · rw [List.map_cons, List.nodup_cons]
    refine ⟨fun m => ?_, h.nd⟩
    obtain ⟨⟨b, u⟩, hm, eb⟩ := List.mem_map.mp m
    obtain ⟨i, hi⟩ := List.getElem?_of_mem hm
    have := (h.own i b u hi).2
    rw [show b = p from eb, e] at this
    cases this
theorem minus_same {F F2 : Hp} {p : Addr} (s : Same F F2) (n : F p = none) : Same F (fun c => if c = p then none else F2 c) := fun c o e => by
  show (if _ then _ else _) = _
  rw [if_neg (fun z => by rw [z, n] at e; cases e)]
  exact s c o e
theorem minus_at {F2 : Hp} {p c : Addr} {o : HO} (n : c ≠ p) (e : F2 c = some o) : (fun c => if c = p then none else F2 c) c = some o := by
  show (if _ then _ else _) = _
  rw [if_neg n]
  exact e
theorem r_neNil {K : PySem.W.Frag} {H : Hp} {a b : Addr} {Q : VK} (e1 : H a = some (.lst [])) (e2 : H b = some (.lst [])) (k : Q (.bl false) H) : rNeD K (.ref a) (.ref b) H Q :=
  ⟨.list [], .list [], dp_lst e1 .nil, dp_lst e2 .nil, rfl, rfl, by
    have z : PyData.eqv (.list []) (.list []) = true := by simp [PyData.eqv, PyData.eqvAll]
    rw [z]; exact k⟩
theorem r_neCons {K : PySem.W.Frag} {H : Hp} {a b : Addr} {d : PyData} {ds : List PyData} {Q : VK} (e1 : Dp K H (.ref a) (.list (d :: ds))) (sh : SeqAt.shaped (.list (d :: ds)) = true) (e2 : H b = some (.lst [])) (k : Q (.bl true) H) : rNeD K (.ref a) (.ref b) H Q :=
  ⟨_, .list [], e1, dp_lst e2 .nil, sh, rfl, by
    have z : PyData.eqv (.list (d :: ds)) (.list []) = false := by simp [PyData.eqv, PyData.eqvAll]
    rw [z]; exact k⟩
theorem sh_pairS {ns ms : List Str} (o : OkS ns) (p : OkS ms) : SeqAt.shaped (.list [.tuple [.list (ns.map PyData.str), .list (ms.map PyData.str)]]) = true := by
  have h1 : PyData.canLay0 (.list [.tuple [.list (ns.map PyData.str), .list (ms.map PyData.str)]]) = true := by
    simp [PyData.canLay0, PyData.canLayAll0, lay_strs ns o, lay_strs ms p]
  have h2 : PyData.depth (.list [.tuple [.list (ns.map PyData.str), .list (ms.map PyData.str)]]) ≤ 64 := by
    simp [PyData.depth, PyData.depthAll, dep_strs]
  unfold SeqAt.shaped
  rw [h1, decide_eq_true h2]
  rfl
def cB0 (K : PySem.W.Frag) (T : String) (r : V → List V → Hp → VK → Prop) (Q : VK) (x : V) (H1 : Hp) : Prop := tyV K T x H1 ∧ r x [] H1 Q
theorem r_bm0 {K : PySem.W.Frag} {T : String} {r : V → List V → Hp → VK → Prop} {to : TE} {σ : L2.St} {H : Hp} {Q : VK} (k : to σ H (cB0 K T r Q)) : tBM0 K T r to σ H Q := k
theorem o_clr {K : PySem.W.Frag} {F H : Hp} {L : List (Addr × HO)} {i : Nat} {a : Addr} {xs : List V} {Q : VK} (h : Own F H L) (e : L[i]? = some (a, .lst xs)) (k : ∀ H', Own F H' (L.set i (a, .lst [])) → Q .non H') : cB0 K "list" rClear Q (.ref a) H :=
  ⟨.inl ⟨rfl, xs, SqL.of (h.get i e)⟩, a, xs, rfl, rfl, h.get i e, k _ (h.put i e)⟩
theorem c_eqO {K : PySem.W.Frag} {CS p q : Addr} {ns ms : List Str} {A B : Tab} {sp : Sp} {H : Hp} {Q : VK} (s1 : SolAt K CS H p ns A) (s2 : SolAt K CS H q ms B) (k : sp [.ref p, .ref q] H Q fun _ _ _ => False) : rEqO CS sp (.ref p) (.ref q) H Q := by
  obtain ⟨dx, t, r, e1, _⟩ := s1.at_
  obtain ⟨dy, t', r', e2, _⟩ := s2.at_
  exact ⟨p, q, dx, dy, _, _, rfl, rfl, e1, e2, k⟩
theorem r_itup {K : PySem.W.Frag} {tl : TE} {σ : L2.St} {H : Hp} {R : It → Hp → Prop} (k : tl σ H fun x H1 => ∃ a, x = .ref a ∧ (∃ xs, SqT K H1 a xs) ∧ R (Itt K a) H1) : iTup K tl σ H R := k
set_option hygiene false in
local macro_rules | `(tactic| walk_at "so") => `(tactic| first | assumption | exact Bs.SolAt.same (by assumption) (Bs.Own.toSame (by assumption)))
set_option hygiene false in
local macro_rules | `(tactic| walk_at "r1") => `(tactic| first
  | with_reducible refine Bs.r_itup ?_
  | with_reducible refine Bs.r_bm0 ?_
  | ((with_reducible refine' Bs.o_clr ?p1 ?p2 ?_); (case p1 => assumption); (case p2 => walk_at "oi"); intro H' ow; walk_at "ow")
  | ((with_reducible refine' Bs.c_prS ?p1 ?_); (case p1 => walk_at "so"))
  | ((with_reducible refine' Bs.c_names ?p1 ?p2 ?_); (case p1 => assumption); (case p2 => walk_at "so"); intro pN H' np ow))

/-! comprehensions over two lists at once -/
def cZp (K : PySem.W.Frag) (R : It → Hp → Prop) (vs : List V) (H1 : Hp) : Prop := ∃ a b xs ys, vs = [.ref a, .ref b] ∧ SqL K H1 a xs ∧ SqL K H1 b ys ∧ R (Itz K a b) H1
theorem r_zip {K : PySem.W.Frag} {ta : TA} {σ : L2.St} {H : Hp} {R : It → Hp → Prop} (k : ta σ H (cZp K R)) : iZip K ta σ H R := k
theorem o_zp {K : PySem.W.Frag} {R : It → Hp → Prop} {H : Hp} {a b : Addr} {xs ys : List V} (s1 : SqL K H a xs) (s2 : SqL K H b ys) (k : R (Itz K a b) H) : cZp K R [.ref a, .ref b] H := ⟨a, b, xs, ys, rfl, s1, s2, k⟩
theorem c_lcZ {K : PySem.W.Frag} {F H : Hp} {L : List (Addr × HO)} {σ : L2.St} {Q : VK} {te : TE} {j1 j2 : Nat} {a b : Addr} {xs ys : List Int} (f : Int → Int → Int) (h : Own F H L)
    (s1 : ∀ D acc H', Own F H' ((D, .lst acc) :: L) → SqL K H' a (xs.map V.int)) (s2 : ∀ D acc H', Own F H' ((D, .lst acc) :: L) → SqL K H' b (ys.map V.int)) (hl : xs.length = ys.length) (hn : xs.length ≤ 1000000)
    (hj : ∀ v w : V, wipe (((wipe σ [j1, j2]).set j1 (some v)).set j2 (some w)) [j1, j2] = wipe σ [j1, j2])
    (step : ∀ v w D acc H' (R : VK), v ∈ xs → w ∈ ys → Own F H' ((D, .lst acc) :: L) → (∀ H4, Own F H4 ((D, .lst acc) :: L) → R (.int (f v w)) H4) → te (((wipe σ [j1, j2]).set j1 (some (.int v))).set j2 (some (.int w))) H' R)
    (k : ∀ D H', H D = none → Own F H' ((D, .lst ((List.zipWith f xs ys).map V.int)) :: L) → Q (.ref D) H') : cLc (gTup K 2 (gCons (gName j1) (gCons (gName j2) gNil))) tYes te [j1, j2] σ Q (Itz K a b) H := by
  intro D hD
  have lz : (List.zipWith f xs ys).length = xs.length := by rw [List.length_zipWith]; omega
  refine ⟨fun i m H' => m = xs.length - i ∧ i ≤ xs.length ∧ Own F H' ((D, .lst (((List.zipWith f xs ys).take i).map V.int)) :: L), ⟨xs.length, by simp, Nat.zero_le _, h.new hD⟩, ?_⟩
  rintro i m H1 ⟨rfl, hi, ow⟩
  have q1 := s1 D _ H1 ow
  have q2 := s2 D _ H1 ow
  by_cases hlt : i < xs.length
  · have gx : (xs.map V.int)[i]? = some (.int xs[i]) := by rw [List.getElem?_map, List.getElem?_eq_getElem hlt]; rfl
    have gy : (ys.map V.int)[i]? = some (.int (ys[i]'(by omega))) := by rw [List.getElem?_map, List.getElem?_eq_getElem (by omega)]; rfl
    refine .inr ⟨⟨_, _, _, _, q1, q2, gx, gy⟩, fun H' => Own F H' ((D, .lst (((List.zipWith f xs ys).take (i + 1)).map V.int)) :: L), fun H' o => ⟨xs.length - (i + 1), by omega, rfl, hlt, o⟩, ?_⟩
    rintro z H' ⟨T, x, y, rfl, nT, rfl, hx, hy⟩
    have ex := hx _ q1
    have ey := hy _ q2
    rw [gx] at ex
    rw [gy] at ey
    cases ex
    cases ey
    have ow2 := (ow.new (o := .tup [.int xs[i], .int (ys[i]'(by omega))]) nT).drop
    refine ⟨T, _, rfl, SqT.of upd_same, rfl, _, _, rfl, _, _, rfl, rfl, hj _ _, ?_⟩
    simp only [tYes, if_true]
    refine step _ _ D _ _ _ (List.getElem_mem hlt) (List.getElem_mem (by omega)) ow2 fun H4 o => ?_
    refine ⟨_, o.get 0 rfl, ?_, ?_⟩
    · rw [List.length_map, List.length_take]
      exact Nat.lt_of_le_of_lt (Nat.min_le_left _ _) (Nat.lt_of_lt_of_le hlt (Nat.le_trans hn (by decide)))
    · have e : (List.zipWith f xs ys).take (i + 1) = (List.zipWith f xs ys).take i ++ [f xs[i] (ys[i]'(by omega))] := by
        rw [List.take_succ, List.getElem?_eq_getElem (by omega), List.getElem_zipWith]
        rfl
      rw [e, List.map_append]
      exact o.put 0 rfl
  · have e : i = xs.length := by omega
    subst e
    refine .inl ⟨⟨_, _, q1, q2, .inl (by rw [List.length_map]; exact Nat.le_refl _)⟩, k D H1 hD ?_⟩
    rw [← lz, List.take_length] at ow
    exact ow
set_option hygiene false in
local macro_rules | `(tactic| walk_at "r1") => `(tactic| first
  | with_reducible refine Bs.r_zip ?_
  | ((with_reducible refine' Bs.o_zp ?p1 ?p2 ?_); (case p1 => walk_at "hq"); (case p2 => walk_at "hq")))

/-! loops over two lists; parts of what is owned -/
open PySem PySem.Spec PySem.Calls PyProof.Rows L2
theorem for_zip {K : PySem.W.Frag} {a b : Addr} {xs ys : List V} {g : TG} {tb : TS} {D : Ends} {σ : L2.St} {H : Hp} (le : xs.length = ys.length) (Pv : Nat → L2.St → Hp → Prop) (h0 : Pv 0 σ H) (hl : ∀ i σ H, i ≤ xs.length → Pv i σ H → SqL K H a xs ∧ SqL K H b ys)
    (hs : ∀ i x y σ H p, xs[i]? = some x → ys[i]? = some y → Pv i σ H → H p = none → g (.ref p) σ (upd H p (.tup [x, y])) fun σ2 H2 => tb { D with nx := Pv (i + 1), ct := Pv (i + 1), bk := D.nx } σ2 H2) (hd : ∀ σ H, Pv xs.length σ H → D.nx σ H) :
    ∃ W : Nat → Nat → L2.St → Hp → Prop, (∃ m, W 0 m σ H) ∧ ∀ i m σ H, W i m σ H →
      ((Itz K a b).stop i H ∧ D.nx σ H) ∨ ((Itz K a b).go i H ∧ ∃ N : L2.St → Hp → Prop, (∀ σ' H', N σ' H' → ∃ m', m' < m ∧ W (i + 1) m' σ' H') ∧ ∀ y H', (Itz K a b).yld i H y H' → g y σ H' fun σ2 H2 => tb { D with nx := N, ct := N, bk := D.nx } σ2 H2) := by
  refine ⟨fun i m σ H => m = xs.length - i ∧ i ≤ xs.length ∧ Pv i σ H, ⟨xs.length, by simp, Nat.zero_le _, h0⟩, ?_⟩
  rintro i m σ H ⟨rfl, hi, p⟩
  obtain ⟨q1, q2⟩ := hl i σ H hi p
  by_cases hlt : i < xs.length
  · refine .inr ⟨⟨xs, ys, xs[i], ys[i]'(by omega), q1, q2, List.getElem?_eq_getElem hlt, List.getElem?_eq_getElem (by omega)⟩, Pv (i + 1), fun σ' H' p' => ⟨xs.length - (i + 1), by omega, rfl, hlt, p'⟩, fun y H' z => ?_⟩
    obtain ⟨T, x, y, rfl, nT, rfl, hx, hy⟩ := z
    exact hs i x y σ H T (hx xs q1) (hy ys q2) p nT
  · have e : i = xs.length := by omega
    subst e
    exact .inl ⟨⟨xs, ys, q1, q2, .inl (Nat.le_refl _)⟩, hd σ H p⟩
theorem Own.subl {F H : Hp} {L L' : List (Addr × HO)} (h : Own F H L) (s : L'.Sublist L) : Own F H L' := ⟨h.sub, fun i a o e => by
  obtain ⟨j, hj, ej⟩ := List.mem_iff_getElem.mp (s.subset (List.mem_of_getElem? e))
  exact h.own j a o (by rw [List.getElem?_eq_getElem hj, ej]), h.nd.sublist (s.map _)⟩
theorem i_neBB {b : Bool} {A B : Prop} (k : B) : if (!decide (V.bl b = V.bl b)) = true then A else B := by rw [decide_eq_true rfl]; exact k

/-! the law's own way to the rooms that go on -/
open PySem PySem.Spec PySem.Calls PyProof.Rows L2
def sumB (L : List Bool) : Int := (L.map bI).sum
theorem bI_le (b : Bool) : 0 ≤ bI b ∧ bI b ≤ 1 := by cases b <;> decide
theorem sumB_rng : ∀ L : List Bool, 0 ≤ sumB L ∧ sumB L ≤ L.length
  | [] => by simp [sumB]
  | b :: L => by
    have := sumB_rng L
    have := bI_le b
    simp only [sumB, List.map_cons, List.sum_cons, List.length_cons] at *
    omega
theorem sumB_le : ∀ (A B : List Bool), A.length = B.length → (∀ i : Nat, A[i]?.getD false = true → B[i]?.getD false = true) → sumB A ≤ sumB B ∧ (sumB A = sumB B → A = B)
  | [], [], _, _ => ⟨Int.le_refl _, fun _ => rfl⟩
  | [], _ :: _, h, _ => by cases h
  | _ :: _, [], h, _ => by cases h
  | a :: A, b :: B, h, g => by
    obtain ⟨h1, h2⟩ := sumB_le A B (by simpa using h) fun i => g (i + 1)
    have g0 : a = true → b = true := g 0
    have e : sumB (a :: A) = bI a + sumB A := by simp [sumB]
    have e' : sumB (b :: B) = bI b + sumB B := by simp [sumB]
    rw [e, e']
    cases a <;> cases b
    · exact ⟨by simp only [bI]; omega, fun q => by rw [h2 (by simp only [bI] at q; omega)]⟩
    · exact ⟨by simp only [bI]; simp; omega, fun q => by simp [bI] at q; omega⟩
    · exact absurd (g0 rfl) (by decide)
    · exact ⟨by simp only [bI]; omega, fun q => by rw [h2 (by simp only [bI] at q; omega)]⟩
def stepL (T : Tab) (L : List Bool) : List Bool := T.map fun r => (r.map (lvB L)).any id
theorem stepL_len {T : Tab} {L : List Bool} : (stepL T L).length = T.length := by simp [stepL]
theorem lvB_mono {A B : List Bool} (h : ∀ i : Nat, A[i]?.getD false = true → B[i]?.getD false = true) : ∀ o, lvB A o = true → lvB B o = true
  | none, e => e
  | some n, e => h n e
theorem stepL_mono {T : Tab} {A B : List Bool} (h : ∀ i : Nat, A[i]?.getD false = true → B[i]?.getD false = true) (i : Nat) (e : (stepL T A)[i]?.getD false = true) : (stepL T B)[i]?.getD false = true := by
  unfold stepL at *
  rw [List.getElem?_map] at *
  cases z : T[i]? with
  | none => rw [z] at e; cases e
  | some r =>
    rw [z] at e
    have e : (r.map (lvB A)).any id = true := e
    show (r.map (lvB B)).any id = true
    rw [List.any_map, List.any_eq_true] at *
    obtain ⟨x, hx, q⟩ := e
    exact ⟨x, hx, lvB_mono h x q⟩
theorem any_ne {L : List Bool} (r : List (Option Nat)) : (r.map (lvB L)).any id = decide (((r.filter (lvB L)).map fun _ => V.int 1).length ≠ 0) := by
  rw [List.length_map]
  apply Bool.eq_iff_iff.mpr
  rw [List.any_map, List.any_eq_true, decide_eq_true_eq]
  constructor
  · rintro ⟨x, hx, q⟩ e
    have := List.length_eq_zero_iff.mp e ▸ List.mem_filter.mpr ⟨hx, q⟩
    cases this
  · intro h
    obtain ⟨x, hx⟩ := List.exists_mem_of_length_pos (Nat.pos_of_ne_zero h)
    exact ⟨x, (List.mem_filter.mp hx).1, (List.mem_filter.mp hx).2⟩
/-- a fixed list is that of the rooms that go on -/
theorem liveL_fix {T : Tab} {L : List Bool} (hin : ∀ i, Live T i → L[i]? = some true) (e : L = stepL T L) : LiveL T L := by
  have hl : L.length = T.length := by rw [e, stepL_len]
  refine ⟨hl, fun i hi => ⟨fun q => ?_, hin i⟩⟩
  refine live_set (S := fun x => L[x]?.getD false = true) (by rw [q]; rfl) fun x hx => ?_
  have hx' : (stepL T L)[x]?.getD false = true := e ▸ hx
  unfold stepL at hx'
  rw [List.getElem?_map] at hx'
  cases z : T[x]? with
  | none => rw [z] at hx'; cases hx'
  | some r =>
    rw [z] at hx'
    exact (lvB_any z).mp hx'
theorem live_step {T : Tab} {L : List Bool} (hin : ∀ i, Live T i → L[i]? = some true) (i : Nat) (l : Live T i) : (stepL T L)[i]? = some true := by
  obtain ⟨c, j, f, lj⟩ := l.next
  have hr : ∃ r, T[i]? = some r := by
    obtain ⟨r, hr, _⟩ := fol_mem f
    exact ⟨r, hr⟩
  obtain ⟨r, hr⟩ := hr
  unfold stepL
  rw [List.getElem?_map, hr]
  exact congrArg some ((lvB_any hr).mpr ⟨c, j, f, by rw [hin j lj]; rfl⟩)
theorem dpa_ones {K : PySem.W.Frag} {H : Hp} : ∀ m : Nat, DpAll K H (List.replicate m (V.int 1)) (List.replicate m (PyData.int 1))
  | 0 => .nil
  | m + 1 => .cons (.int 1) (dpa_ones m)
theorem lay_ones : ∀ m : Nat, PyData.canLayAll0 (List.replicate m (PyData.int 1)) = true
  | 0 => by simp [PyData.canLayAll0]
  | m + 1 => by rw [List.replicate_succ]; simp only [PyData.canLayAll0, PyData.canLay0, lay_ones m, Bool.and_self]
theorem dep_ones : ∀ m : Nat, PyData.depthAll (List.replicate m (PyData.int 1)) = 0
  | 0 => by simp [PyData.depthAll]
  | m + 1 => by rw [List.replicate_succ]; simp only [PyData.depthAll, PyData.depth, dep_ones m, Nat.max_self]
theorem r_neOnes {K : PySem.W.Frag} {H : Hp} {D p : Addr} {m : Nat} {Q : VK} (e1 : H D = some (.lst (List.replicate m (.int 1)))) (e2 : H p = some (.lst [])) (k : Q (.bl (!decide (m = 0))) H) : rNeD K (.ref D) (.ref p) H Q := by
  refine ⟨.list (List.replicate m (.int 1)), .list [], dp_lst e1 (dpa_ones m), dp_lst e2 .nil, ?_, rfl, ?_⟩
  · unfold SeqAt.shaped
    simp only [PyData.canLay0, lay_ones m, PyData.depth, dep_ones m, Bool.true_and]
    decide
  · have e : PyData.eqv (.list (List.replicate m (.int 1))) (.list []) = decide (m = 0) := by
      cases m <;> simp [PyData.eqv, PyData.eqvAll, List.replicate_succ]
    rw [e]
    exact k
theorem ones_rep {α : Type} (l : List α) : (l.map fun _ => V.int 1) = List.replicate l.length (V.int 1) := by rw [List.map_const']
theorem piL_K {X : Cx} {K : PySem.W.Frag} {tg e : Expr} {ta : TE} (h : X.K = K) (ha : PE X e ta) : PI X tg e (iList K ta) := h ▸ pi_list ha
theorem neD_K {X : Cx} {K : PySem.W.Frag} (h : X.K = K) (hu : X.A.units + 64 < cLine) : OpR X (compareOp .NotEq) (rNeD K) := h ▸ op_neD hu
theorem eqD_K {X : Cx} {K : PySem.W.Frag} (h : X.K = K) (hu : X.A.units + 64 < cLine) : OpR X (compareOp .Eq) (rEqD K) := h ▸ op_eqD hu

/-! the rooms that go on, and their follows alone -/
open PySem PySem.Spec PySem.Calls PyProof.Rows L2

def trimE (L : List Bool) (e : Option Nat) : Option Nat := if lvB L e = true then e else none
def trimT (T : Tab) (L : List Bool) : Tab := if L[0]?.getD false = true then T.map fun r => r.map (trimE L) else []
def sp_trim (K : PySem.W.Frag) : Sp := fun vs H Q _ => ∃ (a : Addr) (T : Tab), vs = [.ref a] ∧ TabAt K H a T ∧ TIn T ∧ T.length ≤ 1000 ∧ (∀ r ∈ T, r.length ≤ 1000) ∧
  ∀ (L : List Bool) r us H', LiveL T L → Same H H' → H r = none → H' r = some (.lst us) → RoomsX (newB H H' r) us (trimT T L) → Q (.ref r) H'
def nB (L : List Bool) : List V := (L.map bI).map V.int
section
variable {P : Program} {w : World} {K : PySem.W.Frag} {mg : Str → Option Value} {base : Heap} {f : Addr} {fd : FuncData}
theorem ok__law_trim (F : FnP K "_law_trim" "_law_trim" s__law_trim f fd) (B : Bi mg)  : FnOk P w K mg base CX0 1 f fd ["_law_rooms_here"] (sp_trim K) := by
  refine F.ok sc__law_trim (fun vs H Q E h => by walk_at "len") (fun cdv A outer s H vs Q E hr h => ?_)
  have nd := sc__law_trim.nd
  obtain ⟨a, T, rfl, ta, tin, hn, hm, q⟩ := h
  obtain ⟨vs, sq, ra⟩ := id ta
  refine ⟨_, PSs.nox (C8.pss_cut (ps_asg (pe_tup (pa_cons (pe_lc (own := [("_law_room", 3)]) (g := gName 3) (tt := tYes) (by rfl) nd (pi_list (pv 0)) (blkOk_by (own := [("_law_room", 3)]) (N := ["_law_rooms_here", "_law_live", "_law_before", "_law_room", "_law_follow"]) (sc := defScope s__law_trim) (by decide +kernel)) (fun _ _ _ _ _ => pg_name (i := 3) nd rfl (Or.inl rfl)) (fun _ _ _ _ _ => pts_nil) (fun _ _ _ _ _ => pe_int)) (pa_cons (pe_un un_neg pe_int) pa_nil))) (pg_tup rfl (pgs_cons (pg_name (i := 1) nd rfl (.inr rfl)) (pgs_cons (pg_name (i := 2) nd rfl (.inl rfl)) pgs_nil))))
      (C8.pss_cut (ps_while PassesOwn.never (pt_cmpR op_ne (pv 2) (pe_callB (cr_sum rfl) rfl B.sum (by decide +kernel) (pa_cons (pv 1) pa_nil)) (nomark _)) (pss_cons (ps_set (i := 2) nd rfl (Or.inl rfl) (pe_callB (cr_sum rfl) rfl B.sum (by decide +kernel) (pa_cons (pv 1) pa_nil)))
      (pss_one (ps_set (i := 1) nd rfl (Or.inr rfl) (pe_lc (own := [("_law_room", 3)]) (g := gName 3) (tt := tYes) (by rfl) nd (pi_list (pv 0)) (blkOk_by (own := [("_law_room", 3)]) (N := ["_law_rooms_here", "_law_live", "_law_before", "_law_room", "_law_follow"]) (sc := defScope s__law_trim) (by decide +kernel)) (fun _ _ _ _ _ => pg_name (i := 3) nd rfl (Or.inl rfl)) (fun _ _ _ _ _ => pts_nil) (fun _ _ _ _ _ => (pe_callTy cb_int1 rfl B.int (by decide +kernel) (pa_cons (pe_cmpR (neD_K (K := K) rfl hr.units) (pe_lc (own := [("_law_follow", 4)]) (g := gName 4) (by rfl) nd (piL_K (K := K) rfl (pv 3)) (blkOk_by (own := [("_law_follow", 4)]) (by kernel_rfl)) (fun _ _ _ _ _ => pg_name (i := 4) nd rfl (Or.inl rfl)) (fun _ _ _ _ _ => (pts_one (PW.pt (pw_and (pt_cmpR op_notN (pv 4) pe_non (nomark _)) (pw_and1 (pt_cmpR op_eq (pe_ix (ixL_K (K := K) rfl) (pv 1) (pv 4) (fun _ _ => rfl)) pe_int (nomark _))))))) (fun _ _ _ _ _ => pe_int)) (pe_lst pa_nil) (nomark _)) pa_nil))))))))
      (pss_cons (ps_if (PW.pt (pw_or (pt_cmpR (op_eqD hr.units) (pv 0) (pe_lst pa_nil) (nomark _)) (pw_or1 (pt_cmpR op_eq (pe_ix ix_list (pv 1) pe_int (fun _ _ => rfl)) pe_int (nomark _))))) (pss_one (ps_ret (pe_lst pa_nil))) pss_nil)
      (pss_one (ps_ret (pe_lc (own := [("_law_room", 3)]) (g := gName 3) (tt := tYes) (by rfl) nd (pi_list (pv 0)) (blkOk_by (own := [("_law_room", 3)]) (N := ["_law_rooms_here", "_law_live", "_law_before", "_law_room", "_law_follow"]) (sc := defScope s__law_trim) (by decide +kernel)) (fun _ _ _ _ _ => pg_name (i := 3) nd rfl (Or.inl rfl)) (fun _ _ _ _ _ => pts_nil) (fun _ _ _ _ _ => (pe_lc (own := [("_law_follow", 4)]) (g := gName 4) (tt := tYes) (by rfl) nd (piL_K (K := K) rfl (pv 3)) (blkOk_by (own := [("_law_follow", 4)]) (by kernel_rfl)) (fun _ _ _ _ _ => pg_name (i := 4) nd rfl (Or.inl rfl)) (fun _ _ _ _ _ => pts_nil) (fun _ _ _ _ _ => (pe_ifExp (PW.pt (pw_and (pt_cmpR op_notN (pv 4) pe_non (nomark _)) (pw_and1 (pt_cmpR op_eq (pe_ix (ixL_K (K := K) rfl) (pv 1) (pv 4) (fun _ _ => rfl)) pe_int (nomark _))))) (pv 4) pe_non)))))))))), ?_⟩
  walk_at "s0"
  have ow := Own.start H
  have lv := ra.length
  refine r_cut (fun σ' H' => ∃ D : Addr, σ' = [some (.ref a), some (.ref D), some (.int (-1)), none, none] ∧ Own H H' [(D, .lst (nB (List.replicate T.length true)))]) ?_ ?_
  · walk_at "go"
    refine r_lc ?_
    walk_at "go"
    refine c_ilS sq ?_
    refine c_lcJ vs.length (by omega) (fun _ => rfl) (fun D i acc H' => Own H H' [(D, .lst acc)] ∧ acc = nB (List.replicate i true)) (fun D nD => ⟨ow.new nD, rfl⟩) ?_ ?_ ?_ ?_
    · rintro D i acc H1 ⟨ow, rfl⟩ hi
      exact itl_go (Same.seq ow.toSame_of sq) hi
    · rintro D acc H1 ⟨ow, rfl⟩
      exact itl_stop (Same.seq ow.toSame_of sq)
    · rintro D i acc H1 x H2 R hi la ⟨ow, rfl⟩ ⟨rfl, hy⟩ hR
      walk_at "go"
      refine hR _ _ (ow.get 0 rfl) ⟨ow.put 0 rfl, ?_⟩
      unfold nB
      rw [List.replicate_succ', List.map_append, List.map_append]
      rfl
    rintro D acc H1 nD ⟨ow1, rfl⟩ la
    clear ow
    have ow := ow1
    rw [lv] at ow
    walk_at "go"
    exact ow.drop
  clear ow
  rintro σ' H1 ⟨D, rfl, ow⟩
  refine r_cut (fun σ' H' => ∃ (L : List Bool) (D : Addr) (b : Int), σ' = [some (.ref a), some (.ref D), some (.int b), none, none] ∧ LiveL T L ∧ Own H H' [(D, .lst (nB L))]) ?_ ?_
  · refine r_while (fun m σ H' => ∃ (L : List Bool) (bf : Int) (D : Addr), σ = [some (.ref a), some (.ref D), some (.int bf), none, none] ∧ L.length = T.length ∧ Own H H' [(D, .lst (nB L))] ∧ (∀ i, Live T i → L[i]? = some true) ∧ ((bf = -1 ∧ L = List.replicate T.length true) ∨ ∃ Lp : List Bool, bf = sumB Lp ∧ Lp.length = T.length ∧ L = stepL T Lp ∧ ∀ i : Nat, L[i]?.getD false = true → Lp[i]?.getD false = true) ∧ m = (if bf = -1 then T.length + 1 else bf.toNat)) _ ⟨List.replicate T.length true, -1, D, rfl, by simp, ow, fun i l => by rw [List.getElem?_replicate, if_pos (live_lt l)], .inl ⟨rfl, rfl⟩, rfl⟩ ?_
    clear ow
    rintro m σ H2 ⟨L, bf, D2, rfl, hl, ow, hin, hp, rfl⟩
    have hr0 := sumB_rng L
    walk_at "go"
    refine r_sum (SqL.of (ow.get 0 rfl)) ?_
    rw [show (L.map bI).sum = sumB L from rfl]
    walk_at "go"
    rotate_left
    · refine ⟨L, D2, bf, rfl, liveL_fix hin ?_, ow⟩
      rcases hp with ⟨e, _⟩ | ⟨Lp, e, hlp, hs, hle⟩
      · omega
      · have := (sumB_le L Lp (by omega) hle).2 (by omega)
        rw [← this] at hs
        exact hs
    · refine r_sum (SqL.of (ow.get 0 rfl)) ?_
      rw [show (L.map bI).sum = sumB L from rfl]
      walk_at "go"
      refine r_lc ?_
      walk_at "go"
      refine c_ilS (ow.toSame_of.seq sq) ?_
      refine c_lcJ vs.length (by omega) (fun _ => rfl) (fun D i acc H' => Own H H' [(D, .lst acc), (D2, .lst (nB L))] ∧ acc = nB ((T.take i).map fun r => (r.map (lvB L)).any id)) (fun D nD => ⟨ow.new nD, rfl⟩) ?_ ?_ ?_ ?_
      · rintro D i acc H3 ⟨ow, rfl⟩ hi
        exact itl_go (Same.seq ow.toSame_of sq) hi
      · rintro D acc H3 ⟨ow, rfl⟩
        exact itl_stop (Same.seq ow.toSame_of sq)
      · rintro D i acc H3 x H4 R hi la ⟨ow1, rfl⟩ ⟨rfl, hy⟩ hR
        clear ow
        have ow := ow1
        have hx := hy _ (ow.toSame_of.seq sq)
        obtain ⟨r, hr⟩ : ∃ r, T[i]? = some r := ⟨T[i], List.getElem?_eq_getElem (by omega)⟩
        have hrT := List.mem_of_getElem? hr
        obtain ⟨v, hv, hra⟩ := ra.at hr
        rw [hx] at hv
        cases hv
        obtain ⟨ar, rfl, srH⟩ := hra
        have hrl := hm r hrT
        have et : (T.take (i + 1)).map (fun r => (r.map (lvB L)).any id) = (T.take i).map (fun r => (r.map (lvB L)).any id) ++ [(r.map (lvB L)).any id] := by rw [List.take_succ, hr]; simp
        rw [et] at hR
        walk_at "go"
        refine r_lc ?_
        walk_at "go"
        refine c_ilS (ow.toSame_of.seq srH) ?_
        refine c_lcF (r.map vO).length (by rw [List.length_map]; omega) (fun _ => rfl) (fun D' j acc H' => Own H H' [(D', .lst acc), (D, .lst (nB ((T.take i).map fun r => (r.map (lvB L)).any id))), (D2, .lst (nB L))] ∧ acc = ((r.take j).filter (lvB L)).map fun _ => V.int 1) (fun D' nD' => ⟨ow.new nD', rfl⟩) ?_ ?_ ?_ ?_
        · rintro D' j acc H5 ⟨ow, rfl⟩ hj
          exact itl_go (ow.toSame_of.seq srH) hj
        · rintro D' acc H5 ⟨ow, rfl⟩
          exact itl_stop (ow.toSame_of.seq srH)
        · rintro D' j acc H5 y H6 R' Z' hj la' ⟨ow2, rfl⟩ ⟨rfl, hy2⟩ hR' hZ'
          clear ow
          have ow := ow2
          have hx2 := hy2 _ (ow.toSame_of.seq srH)
          rw [List.getElem?_map] at hx2
          obtain ⟨e, he, rfl⟩ := Option.map_eq_some_iff.mp hx2
          have et2 : (r.take (j + 1)).filter (lvB L) = (r.take j).filter (lvB L) ++ [e].filter (lvB L) := by rw [List.take_succ, he, List.filter_append]; rfl
          rw [et2, List.map_append] at hR' hZ'
          cases e with
          | none =>
            simp only [vO]
            walk_at "go"
            exact hZ' _ ⟨ow, by simp [lvB]⟩
          | some n =>
            have hn1 : n < L.length := by rw [hl]; exact tin.lt r hrT _ (List.mem_of_getElem? he) n rfl
            have hln : atI (nB L) (n : Int) = some (.int (bI L[n])) := at_nat rfl (by unfold nB; rw [List.getElem?_map, List.getElem?_map, List.getElem?_eq_getElem hn1]; rfl)
            simp only [vO]
            have lb : lvB L (some n) = L[n] := by
              show L[n]?.getD false = _
              rw [List.getElem?_eq_getElem hn1]; rfl
            cases hb : L[n] with
            | true =>
              rw [hb] at hln
              have hln : atI (nB L) (n : Int) = some (.int 1) := hln
              have ef : [some n].filter (lvB L) = [some n] := by rw [List.filter_cons_of_pos (by rw [lb, hb])]; rfl
              rw [ef] at hR'
              walk_at "go"
              exact hR' _ _ (ow.get 0 rfl) ⟨ow.put 0 rfl, rfl⟩
            | false =>
              rw [hb] at hln
              have hln : atI (nB L) (n : Int) = some (.int 0) := hln
              have ef : [some n].filter (lvB L) = [] := by rw [List.filter_cons_of_neg (by rw [lb, hb]; decide)]; rfl
              rw [ef] at hZ'
              walk_at "go"
              exact hZ' _ ⟨ow, by simp⟩
        · rintro D' acc H5 nD' ⟨ow2, rfl⟩ la'
          clear ow
          have ow := ow2
          rw [List.length_map, List.take_length, ones_rep] at ow
          walk_at "go"
          refine r_neOnes (ow.get 1 rfl) (ow.get 0 rfl) ?_
          have eb : (!decide ((r.filter (lvB L)).length = 0)) = (r.map (lvB L)).any id := by
            rw [any_ne, List.length_map]
            by_cases z : (r.filter (lvB L)).length = 0
            · rw [decide_eq_true z, decide_eq_false (fun q => q z)]; rfl
            · rw [decide_eq_false z, decide_eq_true z]; rfl
          rw [eb]
          walk_at "go"
          have ei : (if ((r.map (lvB L)).any id) = true then (1 : Int) else 0) = bI ((r.map (lvB L)).any id) := by cases ((r.map (lvB L)).any id) <;> rfl
          rw [ei]
          have ea : nB ((T.take i).map (fun r => (r.map (lvB L)).any id) ++ [(r.map (lvB L)).any id]) = nB ((T.take i).map fun r => (r.map (lvB L)).any id) ++ [V.int (bI ((r.map (lvB L)).any id))] := by unfold nB; simp
          exact hR _ _ (ow.get 2 rfl) ⟨((ow.put 2 rfl).drop).drop, ea.symm⟩
      · rintro D acc H3 nD ⟨ow1, rfl⟩ la
        clear ow
        have ow := ow1
        rw [List.take_of_length_le (by omega)] at ow
        have hle : ∀ i : Nat, (stepL T L)[i]?.getD false = true → L[i]?.getD false = true := by
          rcases hp with ⟨_, e⟩ | ⟨Lp, _, _, hs, hle⟩
          · intro i hi
            have il : i < T.length := by
              rcases Nat.lt_or_ge i T.length with z | z
              · exact z
              · rw [List.getElem?_eq_none (by rw [stepL_len]; exact z)] at hi; cases hi
            rw [e, List.getElem?_replicate, if_pos il]
            rfl
          · intro i hi
            have := stepL_mono hle i hi
            rw [← hs] at this
            exact this
        walk_at "go"
        refine ⟨_, ?_, stepL T L, sumB L, D, rfl, stepL_len, ow.one, live_step hin, .inr ⟨L, rfl, hl, rfl, hle⟩, rfl⟩
        rw [if_neg (by omega)]
        rcases hp with ⟨e, _⟩ | ⟨Lp, e, hlp, hs, hle'⟩
        · rw [if_pos e]; omega
        · have := sumB_rng Lp
          have := (sumB_le L Lp (by omega) hle').1
          rw [if_neg (by omega)]
          omega
  clear ow
  rintro σ' H2 ⟨L, D, b, rfl, hL, ow⟩
  walk_at "go"
  have empty : L[0]?.getD false = false → ∀ {p : Addr} {H3 : Hp}, Own H H3 [(p, .lst []), (D, .lst (nB L))] → Q (.ref p) H3 := fun e {p H3} ow => by
    have et : trimT T L = [] := by unfold trimT; rw [if_neg (by rw [e]; decide)]
    refine q L p [] H3 hL ow.toSame_of (ow.new0 g0) (ow.get 0 rfl) ?_
    rw [et]
    exact ⟨rfl, fun i r e => by simp at e⟩
  refine o_eqTE (ta.same ow.toSame_of) (ow.get 0 rfl) ?_
  by_cases c0 : T = []
  · rw [decide_eq_true c0]
    walk_at "go"
    have l0 : L.length = 0 := by rw [hL.len, c0]; rfl
    exact empty (by rw [List.length_eq_zero_iff.mp l0]; rfl) (ow.subl (.cons₂ _ (.cons _ (.cons₂ _ .slnil))))
  rw [decide_eq_false c0]
  have l0 := List.length_pos_iff.mpr c0
  have l1 : 0 < L.length := by rw [hL.len]; exact l0
  have at0 : atI (nB L) 0 = some (.int (bI (L[0]?.getD false))) := at_nat rfl (by unfold nB; rw [List.getElem?_map, List.getElem?_map, List.getElem?_eq_getElem l1]; rfl)
  cases e0 : L[0]?.getD false with
  | false =>
    rw [e0] at at0
    have at0 : atI (nB L) 0 = some (.int 0) := at0
    walk_at "go"
    exact empty e0 (ow.subl (.cons₂ _ (.cons _ (.cons₂ _ .slnil))))
  | true =>
    rw [e0] at at0
    have at0 : atI (nB L) 0 = some (.int 1) := at0
    have et : trimT T L = T.map fun r => r.map (trimE L) := by unfold trimT; rw [if_pos e0]
    walk_at "go"
    replace ow := ow.drop
    refine r_lc ?_
    walk_at "go"
    refine c_ilS (ow.toSame_of.seq sq) ?_
    refine c_lcJ vs.length (by omega) (fun _ => rfl) (fun D' i acc H' => ∃ F, Same H F ∧ Own F H' [(D', .lst acc), (D, .lst (nB L))] ∧ RoomsX (newF H F) acc ((T.take i).map fun r => r.map (trimE L))) (fun D' nD => ⟨H, Same.refl H, ow.new nD, rfl, fun i r e => (by simp at e)⟩) ?_ ?_ ?_ ?_
    · rintro D' i acc H3 ⟨F, sF, ow, rs⟩ hi
      exact itl_go ((sF.trans ow.toSame).seq sq) hi
    · rintro D' acc H3 ⟨F, sF, ow, rs⟩
      exact itl_stop ((sF.trans ow.toSame).seq sq)
    · rintro D' i acc H3 x H4 R hi la ⟨F, sF, ow2, rs⟩ ⟨rfl, hy⟩ hR
      clear ow
      have ow := ow2
      have hx := hy _ ((sF.trans ow.toSame).seq sq)
      obtain ⟨r, hr⟩ : ∃ r, T[i]? = some r := ⟨_, List.getElem?_eq_getElem (by omega)⟩
      have hrT := List.mem_of_getElem? hr
      obtain ⟨v, hv, ar, rfl, srH⟩ := ra.at hr
      rw [hx] at hv
      cases hv
      have hrl := hm r hrT
      have et2 : (T.take (i + 1)).map (fun r => r.map (trimE L)) = (T.take i).map (fun r => r.map (trimE L)) ++ [r.map (trimE L)] := by rw [List.take_succ, hr]; simp
      refine r_lc ?_
      walk_at "go"
      refine c_ilS ((sF.trans ow.toSame).seq srH) ?_
      refine c_lcJ (r.map vO).length (by rw [List.length_map]; omega) (fun _ => rfl) (fun E j acc2 H' => Own F H' [(E, .lst acc2), (D', .lst acc), (D, .lst (nB L))] ∧ acc2 = ((r.take j).map (trimE L)).map vO) (fun E nE => ⟨ow.new nE, rfl⟩) ?_ ?_ ?_ ?_
      · rintro E j acc2 H5 ⟨ow, rfl⟩ hj
        exact itl_go ((sF.trans ow.toSame).seq srH) hj
      · rintro E acc2 H5 ⟨ow, rfl⟩
        exact itl_stop ((sF.trans ow.toSame).seq srH)
      · rintro E j acc2 H5 y H6 R' hj la' ⟨ow3, rfl⟩ ⟨rfl, hy2⟩ hR'
        clear ow
        have ow := ow3
        have hx2 := hy2 _ ((sF.trans ow.toSame).seq srH)
        rw [List.getElem?_map] at hx2
        obtain ⟨e, he, rfl⟩ := Option.map_eq_some_iff.mp hx2
        have et3 : ((r.take (j + 1)).map (trimE L)).map vO = ((r.take j).map (trimE L)).map vO ++ [vO (trimE L e)] := by rw [List.take_succ, he]; simp
        rw [et3] at hR'
        have fin : R' (vO (trimE L e)) H6 := hR' _ _ (ow.get 0 rfl) ⟨ow.put 0 rfl, rfl⟩
        cases e with
        | none =>
          simp only [vO]
          walk_at "go"
          exact fin
        | some n =>
          have hn1 : n < L.length := by rw [hL.len]; exact tin.lt r hrT _ (List.mem_of_getElem? he) n rfl
          have hln : atI (nB L) (n : Int) = some (.int (bI L[n])) := at_nat rfl (by unfold nB; rw [List.getElem?_map, List.getElem?_map, List.getElem?_eq_getElem hn1]; rfl)
          have lb : lvB L (some n) = L[n] := by
            show L[n]?.getD false = _
            rw [List.getElem?_eq_getElem hn1]; rfl
          simp only [vO]
          cases hb : L[n] with
          | true =>
            rw [hb] at hln lb
            have hln : atI (nB L) (n : Int) = some (.int 1) := hln
            have ev : vO (trimE L (some n)) = .int (n : Nat) := by unfold trimE; rw [if_pos lb]; rfl
            rw [ev] at fin
            walk_at "go"
            exact fin
          | false =>
            rw [hb] at hln lb
            have hln : atI (nB L) (n : Int) = some (.int 0) := hln
            have ev : vO (trimE L (some n)) = .non := by unfold trimE; rw [if_neg (by rw [lb]; decide)]; rfl
            rw [ev] at fin
            walk_at "go"
            exact fin
      · rintro E acc2 H5 nE ⟨ow3, rfl⟩ la'
        have nE0 : H E = none := same_none (sF.trans ow.toSame) nE
        clear ow
        have ow := ow3
        rw [List.length_map, List.take_length] at ow
        obtain ⟨f1, f2⟩ := ow.frz
        refine hR _ _ (f1.get 0 rfl) ⟨_, sF.trans f2, f1.put 0 rfl, ?_⟩
        rw [et2]
        refine RoomsX.snoc (rs.same (newF_mono f2)) ?_
        unfold newF
        rw [nE0]
        exact upd_same
    · rintro D' acc H3 nD ⟨F, sF, ow2, rs⟩ la
      have nD0 : H D' = none := same_none ow.toSame_of nD
      clear ow
      have ow := ow2
      rw [lv, List.take_length] at rs
      walk_at "go"
      refine q L D' acc H3 hL (sF.trans ow.toSame) nD0 (ow.get 0 rfl) ?_
      rw [et]
      refine rs.same fun c o e => ?_
      unfold newF at e
      unfold newB
      split at e
      · cases e
      · rename_i n1
        have nA : c ≠ D' := fun z => by
          have := (ow.own 0 D' _ rfl).2
          rw [z, this] at e
          cases e
        rw [if_neg nA, if_neg n1]
        exact ow.sub c o e
end

/-! plain: how many ways lead on from each room -/
open PySem PySem.Spec PySem.Calls PyProof.Rows L2
def oN (w : List Nat) : Option Nat → Nat
  | none => 0
  | some n => w[n]?.getD 0
def rowW (w : List Nat) (r : List (Option Nat)) : Nat := (r.map (oN w)).sum
def wv (T : Tab) : Nat → List Nat
  | 0 => List.replicate T.length 1
  | k + 1 => T.map (rowW (wv T k))
section
variable {T M : Tab} {k i j m : Nat}
theorem wv_len : ∀ k, (wv T k).length = T.length
  | 0 => by simp [wv]
  | k + 1 => by simp [wv]
/-- the law's own table of rooms that go on -/
theorem trim_row {L : List Bool} (h : L[0]?.getD false = true) {r : List (Option Nat)} (e : T[i]? = some r) : (trimT T L)[i]? = some (r.map (trimE L)) := by
  unfold trimT
  rw [if_pos h, List.getElem?_map, e]
  rfl
theorem wv_eqv {L : List Bool} (hL : LiveL T L) (l0 : L[0]?.getD false = true) (tin : TIn T) (hT : ∀ r ∈ T, r.length = m) (can : Canon m M) : ∀ (k : Nat) {i j : Nat}, i < T.length → j < M.length → Eqv T i M j → (wv (trimT T L) k)[i]?.getD 0 = (wv M k)[j]?.getD 0
  | 0, i, j, hi, hj, q => by
    have ht : (trimT T L).length = T.length := by unfold trimT; rw [if_pos l0, List.length_map]
    show (List.replicate (trimT T L).length 1)[i]?.getD 0 = (List.replicate M.length 1)[j]?.getD 0
    rw [List.getElem?_replicate, List.getElem?_replicate, if_pos (by rw [ht]; exact hi), if_pos hj]
  | k + 1, i, j, hi, hj, q => by
    obtain ⟨r, hr⟩ : ∃ r, T[i]? = some r := ⟨_, List.getElem?_eq_getElem hi⟩
    obtain ⟨s, hs⟩ : ∃ s, M[j]? = some s := ⟨_, List.getElem?_eq_getElem hj⟩
    have e1 : (wv (trimT T L) (k + 1))[i]? = some (rowW (wv (trimT T L) k) (r.map (trimE L))) := by
      show ((trimT T L).map _)[i]? = _
      rw [List.getElem?_map, trim_row l0 hr]
      rfl
    have e2 : (wv M (k + 1))[j]? = some (rowW (wv M k) s) := by
      show (M.map _)[j]? = _
      rw [List.getElem?_map, hs]
      rfl
    rw [e1, e2]
    show ((r.map (trimE L)).map _).sum = (s.map _).sum
    congr 1
    have lr := hT r (List.mem_of_getElem? hr)
    have ls := can.rows s (List.mem_of_getElem? hs)
    apply List.ext_getElem?
    intro c
    by_cases hc : c < m
    · obtain ⟨e, he⟩ : ∃ e, r[c]? = some e := ⟨_, List.getElem?_eq_getElem (by omega)⟩
      obtain ⟨d, hd⟩ : ∃ d, s[c]? = some d := ⟨_, List.getElem?_eq_getElem (by omega)⟩
      rw [List.getElem?_map, List.getElem?_map, List.getElem?_map, he, hd]
      show some (oN _ (trimE L e)) = some (oN _ d)
      have fe : fol T i c = e := by rw [fol_row hr, he]; rfl
      have fd : fol M j c = d := by rw [fol_row hs, hd]; rfl
      congr 1
      cases d with
      | some y =>
        obtain ⟨x, fx, qx⟩ := eqv_fol q.symm fd (can.live y (fol_in can.tin fd))
        rw [fe] at fx
        subst fx
        have lx : Live T x := (eqv_live qx).mp (can.live y (fol_in can.tin fd))
        have bx : lvB L (some x) = true := (hL.get x).mpr lx
        have ex : trimE L (some x) = some x := by unfold trimE; rw [if_pos bx]
        rw [ex]
        exact wv_eqv hL l0 tin hT can k (fol_in tin fe) (fol_in can.tin fd) qx.symm
      | none =>
        have ex : trimE L e = none := by
          unfold trimE
          cases e with
          | none => simp
          | some x =>
            rw [if_neg]
            intro b
            obtain ⟨y, fy, _⟩ := eqv_fol q fe ((hL.get x).mp b)
            rw [fd] at fy
            cases fy
        rw [ex]
        rfl
    · rw [List.getElem?_eq_none (by rw [List.length_map, List.length_map]; omega), List.getElem?_eq_none (by rw [List.length_map]; omega)]
/-- what count_low owes -/
def cntM (M : Tab) (k : Nat) : Nat := (wv M k)[0]?.getD 0
theorem cnt_eq {L : List Bool} (hL : LiveL T L) (tin : TIn T) (hT : ∀ r ∈ T, r.length = m) (il : IsLeast m T M) : (wv (trimT T L) k)[0]?.getD 0 = cntM M k := by
  by_cases l0 : L[0]?.getD false = true
  · have lv := (hL.get 0).mp l0
    have lm : Live M 0 := (eqv_live il.2).mp lv
    exact wv_eqv hL l0 tin hT il.1 k (live_lt lv) (live_lt lm) il.2
  · have nl : ¬ Live T 0 := fun z => l0 ((hL.get 0).mpr z)
    have em : M = [] := by
      cases M with
      | nil => rfl
      | cons r M => exact absurd ((eqv_live il.2).mpr (il.1.live 0 (by simp))) nl
    have et : trimT T L = [] := by unfold trimT; rw [if_neg l0]
    unfold cntM
    rw [em, et]
end

/-! the walks that count ways -/
open PySem PySem.Spec PySem.Calls PyProof.Rows L2


theorem sum_K {X : Cx} {K : PySem.W.Frag} (h : X.K = K) (hc : X.calm = true) : CallR X (.builtin "sum") (rSum K) := h ▸ cr_sum hc
def sp_ways (K : PySem.W.Frag) : Sp := fun vs H Q _ => ∃ (a : Addr) (T : Tab) (k : Nat), vs = [.ref a, .int (k : Nat)] ∧ TabAt K H a T ∧ TIn T ∧ T.length ≤ 1000 ∧ (∀ r ∈ T, r.length ≤ 1000) ∧ k ≤ 100000 ∧
  ∀ r H', Same H H' → H r = none → H' r = some (.lst (nI (wv T k))) → Q (.ref r) H'
def sp_wayson (K : PySem.W.Frag) : Sp := fun vs H Q _ => ∃ (a : Addr) (T : Tab) (k : Nat), vs = [.ref a, .int (k : Nat)] ∧ TabAt K H a T ∧ TIn T ∧ T.length ≤ 1000 ∧ (∀ r ∈ T, r.length ≤ 1000) ∧ k ≤ 100000 ∧
  ∀ r F H', Same H F → Same F H' → H r = none → TabAt K F r ((List.range (k + 1)).map fun j => (wv T j).map some) → Q (.ref r) H'
theorem nI_sum (ks : List Nat) : ((ks.map fun k => ((k : Nat) : Int)).sum : Int) = ((ks.sum : Nat) : Int) := by
  induction ks with
  | nil => rfl
  | cons k ks ih => simp only [List.map_cons, List.sum_cons, ih]; omega
theorem r_sumN {K : PySem.W.Frag} {H : Hp} {a : Addr} {ks : List Nat} {Q : VK} (s : SqL K H a (nI ks)) (k : Q (.int ((ks.sum : Nat) : Int)) H) : rSum K [.ref a] H Q := by
  have e : nI ks = (ks.map fun k => ((k : Nat) : Int)).map V.int := by unfold nI; rw [List.map_map]; rfl
  rw [e] at s
  refine r_sum s ?_
  rw [nI_sum]
  exact k
theorem nI_app (ks ls : List Nat) : nI (ks ++ ls) = nI ks ++ nI ls := by unfold nI; rw [List.map_append]
theorem rowW_filter (w : List Nat) (r : List (Option Nat)) : ((r.filterMap id).map fun n => w[n]?.getD 0).sum = rowW w r := by
  unfold rowW
  induction r with
  | nil => rfl
  | cons e r ih =>
    cases e with
    | none => simp [oN, ih]
    | some n => simp [oN, ih]
theorem at_last {α : Type} {xs : List α} {n : Nat} {v : α} (h : xs.length = n + 1) (e : xs[n]? = some v) : atI xs (-1) = some v := by
  have g : L2.ixN xs.length (-1) = some n := by
    unfold L2.ixN
    rw [if_neg (by decide), if_pos (by omega)]
    congr 1
    omega
  unfold atI
  rw [g]
  exact e
theorem nI_rowN (ks : List Nat) : nI ks = (ks.map some).map vO := by unfold nI; rw [List.map_map]; rfl
section
variable {P : Program} {w : World} {K : PySem.W.Frag} {mg : Str → Option Value} {base : Heap} {f : Addr} {fd : FuncData}
theorem ok__law_ways (F : FnP K "_law_ways" "_law_ways" s__law_ways f fd) (B : Bi mg)  : FnOk P w K mg base CX0 1 f fd ["_law_rooms_here", "_law_wide"] (sp_ways K) := by
  refine F.ok sc__law_ways (fun vs H Q E h => by walk_at "len") (fun cdv A outer s H vs Q E hr h => ?_)
  have nd := sc__law_ways.nd
  obtain ⟨a, T, k, rfl, ta, tin, hn, hm, hk, q⟩ := h
  obtain ⟨vs, sq, ra⟩ := id ta
  refine ⟨_, PSs.nox (pss_cons (ps_set (i := 2) nd rfl (Or.inr rfl) (pe_lc (own := [("_law_room", 3)]) (g := gName 3) (tt := tYes) (by rfl) nd (pi_list (pv 0)) (blkOk_by (own := [("_law_room", 3)]) (N := ["_law_rooms_here", "_law_wide", "_law_ways_here", "_law_room", "_law_place", "_law_follow"]) (sc := defScope s__law_ways) (by decide +kernel)) (fun _ _ _ _ _ => pg_name (i := 3) nd rfl (Or.inl rfl)) (fun _ _ _ _ _ => pts_nil) (fun _ _ _ _ _ => pe_int)))
      (pss_cons (ps_for PassesOwn.never rfl (pi_range1 rfl B.range (pa_cons (pv 1) pa_nil)) (pg_name (i := 4) nd rfl (.inl rfl))
      (pss_one (ps_set (i := 2) nd rfl (Or.inr rfl) (pe_lc (own := [("_law_room", 3)]) (g := gName 3) (tt := tYes) (by rfl) nd (pi_list (pv 0)) (blkOk_by (own := [("_law_room", 3)]) (N := ["_law_rooms_here", "_law_wide", "_law_ways_here", "_law_room", "_law_place", "_law_follow"]) (sc := defScope s__law_ways) (by decide +kernel)) (fun _ _ _ _ _ => pg_name (i := 3) nd rfl (Or.inl rfl)) (fun _ _ _ _ _ => pts_nil) (fun _ _ _ _ _ => (pe_callB (sum_K (K := K) rfl rfl) (by rfl) (by exact B.sum) (by decide +kernel) (pa_cons (pe_lc (own := [("_law_follow", 5)]) (g := gName 5) (by rfl) nd (piL_K (K := K) rfl (pv 3)) (blkOk_by (own := [("_law_follow", 5)]) (by kernel_rfl)) (fun _ _ _ _ _ => pg_name (i := 5) nd rfl (Or.inl rfl)) (fun _ _ _ _ _ => (pts_one (pt_cmpR op_notN (pv 5) pe_non (nomark _)))) (fun _ _ _ _ _ => (pe_ix (ixL_K (K := K) rfl) (pv 2) (pv 5) (fun _ _ => rfl)))) pa_nil)))))))
      (pss_one (ps_ret (pv 2))))), ?_⟩
  walk_at "s0"
  have ow := Own.start H
  have lv := ra.length
  walk_at "go"
  refine r_lc ?_
  walk_at "go"
  refine c_ilS sq ?_
  refine c_lcJ vs.length (by omega) (fun _ => rfl) (fun D i acc H' => Own H H' [(D, .lst acc)] ∧ acc = nI (List.replicate i 1)) (fun D nD => ⟨ow.new nD, rfl⟩) ?_ ?_ ?_ ?_
  · rintro D i acc H1 ⟨ow, rfl⟩ hi
    exact itl_go (Same.seq ow.toSame_of sq) hi
  · rintro D acc H1 ⟨ow, rfl⟩
    exact itl_stop (Same.seq ow.toSame_of sq)
  · rintro D i acc H1 x H2 R hi la ⟨ow, rfl⟩ ⟨rfl, hy⟩ hR
    walk_at "go"
    refine hR _ _ (ow.get 0 rfl) ⟨ow.put 0 rfl, ?_⟩
    unfold nI
    rw [List.replicate_succ', List.map_append]
    rfl
  rintro D acc H1 nD ⟨ow1, rfl⟩ la
  clear ow
  have ow := ow1
  rw [lv] at ow
  walk_at "go"
  refine for_range (fun j σ' H' => ∃ (D : Addr) (u3 u4 u5 : Option V), σ' = [some (.ref a), some (.int (k : Nat)), some (.ref D), u3, u4, u5] ∧ Own H H' [(D, .lst (nI (wv T j)))]) ⟨D, _, _, _, rfl, ow⟩ ?_ ?_
  · clear ow ow1
    rintro j σ' H2 hj ⟨D, u3, u4, u5, rfl, ow⟩
    walk_at "go"
    refine r_lc ?_
    walk_at "go"
    refine c_ilS (ow.toSame_of.seq sq) ?_
    refine c_lcJ vs.length (by omega) (fun _ => rfl) (fun D' i acc H' => Own H H' ((D', .lst acc) :: [(D, .lst (nI (wv T j)))]) ∧ acc = nI ((T.take i).map (rowW (wv T j)))) (fun D' nD' => ⟨ow.new nD', rfl⟩) ?_ ?_ ?_ ?_
    · rintro D' i acc H3 ⟨ow, rfl⟩ hi
      exact itl_go (ow.toSame_of.seq sq) hi
    · rintro D' acc H3 ⟨ow, rfl⟩
      exact itl_stop (ow.toSame_of.seq sq)
    · rintro D' i acc H3 x H4 R hi la ⟨ow1, rfl⟩ ⟨rfl, hy⟩ hR
      clear ow
      have ow := ow1
      have hx := hy _ (ow.toSame_of.seq sq)
      obtain ⟨r, hr⟩ : ∃ r, T[i]? = some r := ⟨T[i], List.getElem?_eq_getElem (by omega)⟩
      have hrT := List.mem_of_getElem? hr
      obtain ⟨v, hv, hra⟩ := ra.at hr
      rw [hx] at hv
      cases hv
      obtain ⟨ar, rfl, srH⟩ := hra
      have hrl := hm r hrT
      have et : (T.take (i + 1)).map (rowW (wv T j)) = (T.take i).map (rowW (wv T j)) ++ [rowW (wv T j) r] := by rw [List.take_succ, hr]; simp
      rw [et, nI_app] at hR
      walk_at "go"
      refine r_lc ?_
      walk_at "go"
      refine c_ilS (ow.toSame_of.seq srH) ?_
      refine c_lcF (r.map vO).length (by rw [List.length_map]; omega) (fun _ => rfl) (fun E c acc2 H' => Own H H' ((E, .lst acc2) :: (D', .lst (nI ((T.take i).map (rowW (wv T j))))) :: [(D, .lst (nI (wv T j)))]) ∧ acc2 = nI (((r.take c).filterMap id).map fun n => (wv T j)[n]?.getD 0)) (fun E nE => ⟨ow.new nE, rfl⟩) ?_ ?_ ?_ ?_
      · rintro E c acc2 H5 ⟨ow, rfl⟩ hc
        exact itl_go (ow.toSame_of.seq srH) hc
      · rintro E acc2 H5 ⟨ow, rfl⟩
        exact itl_stop (ow.toSame_of.seq srH)
      · rintro E c acc2 H5 y H6 R' Z' hc la' ⟨ow2, rfl⟩ ⟨rfl, hy2⟩ hR' hZ'
        clear ow
        have ow := ow2
        have hx2 := hy2 _ (ow.toSame_of.seq srH)
        rw [List.getElem?_map] at hx2
        obtain ⟨e, he, rfl⟩ := Option.map_eq_some_iff.mp hx2
        have et2 : (r.take (c + 1)).filterMap id = (r.take c).filterMap id ++ [e].filterMap id := by rw [List.take_succ, he, List.filterMap_append]; rfl
        rw [et2, List.map_append, nI_app] at hR' hZ'
        cases e with
        | none =>
          simp only [vO]
          walk_at "go"
          exact hZ' _ ⟨ow, by simp [nI]⟩
        | some n =>
          have hn1 : n < (wv T j).length := by rw [wv_len]; exact tin.lt r hrT _ (List.mem_of_getElem? he) n rfl
          have hln : atI (nI (wv T j)) (n : Int) = some (.int ((wv T j)[n] : Nat)) := nI_at (List.getElem?_eq_getElem hn1)
          simp only [vO]
          walk_at "go"
          refine hR' _ _ (ow.get 0 rfl) ⟨ow.put 0 rfl, ?_⟩
          show _ = _ ++ [V.int (((wv T j)[n]?.getD 0 : Nat) : Int)]
          rw [List.getElem?_eq_getElem hn1]
          rfl
      · rintro E acc2 H5 nE ⟨ow2, rfl⟩ la'
        clear ow
        have ow := ow2
        rw [List.length_map, List.take_length] at ow
        walk_at "go"
        refine r_sumN (SqL.of (ow.get 0 rfl)) ?_
        rw [rowW_filter]
        exact hR _ _ (ow.get 1 rfl) ⟨(ow.put 1 rfl).drop, rfl⟩
    · rintro D' acc H3 nD' ⟨ow1, rfl⟩ la
      clear ow
      have ow := ow1
      rw [List.take_of_length_le (by omega)] at ow
      walk_at "go"
      exact ⟨D', _, _, _, rfl, ow.one⟩
  · rintro σ' H2 ⟨D, u3, u4, u5, rfl, ow⟩
    walk_at "go"
    have ek : ((k : Nat) : Int).toNat = k := by omega
    rw [ek] at ow
    exact q D H2 ow.toSame_of (ow.new0 g0) (ow.get 0 rfl)
theorem ok_ways_on (F : FnP K "ways_on" "ways_on" s_ways_on f fd) (B : Bi mg)  : FnOk P w K mg base CX0 1 f fd ["rooms", "width"] (sp_wayson K) := by
  refine F.ok sc_ways_on (fun vs H Q E h => by walk_at "len") (fun cdv A outer s H vs Q E hr h => ?_)
  have nd := sc_ways_on.nd
  obtain ⟨a, T, k, rfl, ta, tin, hn, hm, hk, q⟩ := h
  obtain ⟨vs, sq, ra⟩ := id ta
  refine ⟨_, PSs.nox (pss_cons (ps_set (i := 2) nd rfl (Or.inl rfl) (pe_lst (pa_cons (pe_lc (own := [("room", 3)]) (g := gName 3) (tt := tYes) (by rfl) nd (pi_list (pv 0)) (blkOk_by (own := [("room", 3)]) (N := ["rooms", "width", "ways", "room", "place", "later", "follow"]) (sc := defScope s_ways_on) (by decide +kernel)) (fun _ _ _ _ _ => pg_name (i := 3) nd rfl (Or.inl rfl)) (fun _ _ _ _ _ => pts_nil) (fun _ _ _ _ _ => pe_int)) pa_nil)))
      (pss_cons (ps_for PassesOwn.never rfl (pi_range1 rfl B.range (pa_cons (pv 1) pa_nil)) (pg_name (i := 4) nd rfl (.inl rfl))
      (pss_cons (ps_set (i := 5) nd rfl (Or.inr rfl) (pe_ix ix_list (pv 2) (pe_un un_neg pe_int) (fun _ _ => rfl)))
      (pss_one (ps_expr (pe_bm PySem.F.plainAttrs_list PySem.F.slot_list_append PySem.F.type_list_append mt_append (pv 2) (pa_cons (pe_lc (own := [("room", 3)]) (g := gName 3) (tt := tYes) (by rfl) nd (pi_list (pv 0)) (blkOk_by (own := [("room", 3)]) (N := ["rooms", "width", "ways", "room", "place", "later", "follow"]) (sc := defScope s_ways_on) (by decide +kernel)) (fun _ _ _ _ _ => pg_name (i := 3) nd rfl (Or.inl rfl)) (fun _ _ _ _ _ => pts_nil) (fun _ _ _ _ _ => (pe_callB (sum_K (K := K) rfl rfl) (by rfl) (by exact B.sum) (by decide +kernel) (pa_cons (pe_lc (own := [("follow", 6)]) (g := gName 6) (by rfl) nd (piL_K (K := K) rfl (pv 3)) (blkOk_by (own := [("follow", 6)]) (by kernel_rfl)) (fun _ _ _ _ _ => pg_name (i := 6) nd rfl (Or.inl rfl)) (fun _ _ _ _ _ => (pts_one (pt_cmpR op_notN (pv 6) pe_non (nomark _)))) (fun _ _ _ _ _ => (pe_ix (ixL_K (K := K) rfl) (pv 5) (pv 6) (fun _ _ => rfl)))) pa_nil)))) pa_nil))))))
      (pss_one (ps_ret (pv 2))))), ?_⟩
  walk_at "s0"
  have ow := Own.start H
  have lv := ra.length
  walk_at "go"
  refine r_lc ?_
  walk_at "go"
  refine c_ilS sq ?_
  refine c_lcJ vs.length (by omega) (fun _ => rfl) (fun D i acc H' => Own H H' [(D, .lst acc)] ∧ acc = nI (List.replicate i 1)) (fun D nD => ⟨ow.new nD, rfl⟩) ?_ ?_ ?_ ?_
  · rintro D i acc H1 ⟨ow, rfl⟩ hi
    exact itl_go (Same.seq ow.toSame_of sq) hi
  · rintro D acc H1 ⟨ow, rfl⟩
    exact itl_stop (Same.seq ow.toSame_of sq)
  · rintro D i acc H1 x H2 R hi la ⟨ow, rfl⟩ ⟨rfl, hy⟩ hR
    walk_at "go"
    refine hR _ _ (ow.get 0 rfl) ⟨ow.put 0 rfl, ?_⟩
    unfold nI
    rw [List.replicate_succ', List.map_append]
    rfl
  rintro D acc H1 nD ⟨ow1, rfl⟩ la
  clear ow
  have ow := ow1
  rw [lv] at ow
  walk_at "go"
  obtain ⟨ow2, fz⟩ := ow.frzAt 1 rfl
  have hD : SqL K (upd H D (.lst (nI (wv T 0)))) D (((wv T 0).map some).map vO) := by rw [← nI_rowN]; exact SqL.of upd_same
  generalize hF0 : upd H D (.lst (nI (List.replicate T.length 1))) = F0 at ow2 fz
  have hD : SqL K F0 D (((wv T 0).map some).map vO) := by rw [← hF0]; exact hD
  have nW : H pL = none := same_none fz (ow2.own 0 pL _ rfl).2
  generalize pL = W at *
  clear ow ow1
  refine for_range (fun j σ' H' => ∃ (F : Hp) (us : List V) (u3 u4 u5 u6 : Option V), σ' = [some (.ref a), some (.int (k : Nat)), some (.ref W), u3, u4, u5, u6] ∧ Same H F ∧ Own F H' [(W, .lst us)] ∧ RoomsAt K F us ((List.range (j + 1)).map fun i => (wv T i).map some)) ⟨F0, [.ref D], _, _, _, _, rfl, fz, ow2, .cons ⟨D, rfl, hD⟩ .nil⟩ ?_ ?_
  · clear ow2
    rintro j σ' H2 hj ⟨F, us, u3, u4, u5, u6, rfl, sF, ow, rs⟩
    have lus := rs.length
    rw [List.length_map, List.length_range] at lus
    obtain ⟨v0, hv0, p, rfl, sp⟩ := rs.at (i := j) (r := (wv T j).map some) (by rw [List.getElem?_map, List.getElem?_range (by omega)]; rfl)
    rw [← nI_rowN] at sp
    have hat : atI us (-1) = some (.ref p) := at_last lus hv0
    walk_at "go"
    refine r_lc ?_
    walk_at "go"
    refine c_ilS ((sF.trans ow.toSame).seq sq) ?_
    refine c_lcJ vs.length (by omega) (fun _ => rfl) (fun D' i acc H' => Own F H' ((D', .lst acc) :: [(W, .lst us)]) ∧ acc = nI ((T.take i).map (rowW (wv T j)))) (fun D' nD' => ⟨ow.new nD', rfl⟩) ?_ ?_ ?_ ?_
    · rintro D' i acc H3 ⟨ow, rfl⟩ hi
      exact itl_go ((sF.trans ow.toSame).seq sq) hi
    · rintro D' acc H3 ⟨ow, rfl⟩
      exact itl_stop ((sF.trans ow.toSame).seq sq)
    · rintro D' i acc H3 x H4 R hi la ⟨ow1, rfl⟩ ⟨rfl, hy⟩ hR
      clear ow
      have ow := ow1
      have hx := hy _ ((sF.trans ow.toSame).seq sq)
      obtain ⟨r, hr⟩ : ∃ r, T[i]? = some r := ⟨T[i], List.getElem?_eq_getElem (by omega)⟩
      have hrT := List.mem_of_getElem? hr
      obtain ⟨v, hv, hra⟩ := ra.at hr
      rw [hx] at hv
      cases hv
      obtain ⟨ar, rfl, srH⟩ := hra
      have hrl := hm r hrT
      have et : (T.take (i + 1)).map (rowW (wv T j)) = (T.take i).map (rowW (wv T j)) ++ [rowW (wv T j) r] := by rw [List.take_succ, hr]; simp
      rw [et, nI_app] at hR
      walk_at "go"
      refine r_lc ?_
      walk_at "go"
      refine c_ilS ((sF.trans ow.toSame).seq srH) ?_
      refine c_lcF (r.map vO).length (by rw [List.length_map]; omega) (fun _ => rfl) (fun E c acc2 H' => Own F H' ((E, .lst acc2) :: (D', .lst (nI ((T.take i).map (rowW (wv T j))))) :: [(W, .lst us)]) ∧ acc2 = nI (((r.take c).filterMap id).map fun n => (wv T j)[n]?.getD 0)) (fun E nE => ⟨ow.new nE, rfl⟩) ?_ ?_ ?_ ?_
      · rintro E c acc2 H5 ⟨ow, rfl⟩ hc
        exact itl_go ((sF.trans ow.toSame).seq srH) hc
      · rintro E acc2 H5 ⟨ow, rfl⟩
        exact itl_stop ((sF.trans ow.toSame).seq srH)
      · rintro E c acc2 H5 y H6 R' Z' hc la' ⟨ow2, rfl⟩ ⟨rfl, hy2⟩ hR' hZ'
        clear ow
        have ow := ow2
        have hx2 := hy2 _ ((sF.trans ow.toSame).seq srH)
        rw [List.getElem?_map] at hx2
        obtain ⟨e, he, rfl⟩ := Option.map_eq_some_iff.mp hx2
        have et2 : (r.take (c + 1)).filterMap id = (r.take c).filterMap id ++ [e].filterMap id := by rw [List.take_succ, he, List.filterMap_append]; rfl
        rw [et2, List.map_append, nI_app] at hR' hZ'
        cases e with
        | none =>
          simp only [vO]
          walk_at "go"
          exact hZ' _ ⟨ow, by simp [nI]⟩
        | some n =>
          have hn1 : n < (wv T j).length := by rw [wv_len]; exact tin.lt r hrT _ (List.mem_of_getElem? he) n rfl
          have hln : atI (nI (wv T j)) (n : Int) = some (.int ((wv T j)[n] : Nat)) := nI_at (List.getElem?_eq_getElem hn1)
          simp only [vO]
          walk_at "go"
          refine hR' _ _ (ow.get 0 rfl) ⟨ow.put 0 rfl, ?_⟩
          show _ = _ ++ [V.int (((wv T j)[n]?.getD 0 : Nat) : Int)]
          rw [List.getElem?_eq_getElem hn1]
          rfl
      · rintro E acc2 H5 nE ⟨ow2, rfl⟩ la'
        clear ow
        have ow := ow2
        rw [List.length_map, List.take_length] at ow
        walk_at "go"
        refine r_sumN (SqL.of (ow.get 0 rfl)) ?_
        rw [rowW_filter]
        exact hR _ _ (ow.get 1 rfl) ⟨(ow.put 1 rfl).drop, rfl⟩
    · rintro D' acc H3 nD' ⟨ow1, rfl⟩ la
      clear ow
      have ow := ow1
      rw [List.take_of_length_le (by omega)] at ow
      have nDF : F D' = none := (ow.own 0 D' _ rfl).2
      walk_at "go"
      obtain ⟨f1, f2⟩ := ow.frz
      refine ⟨_, us ++ [.ref D'], _, _, _, _, rfl, sF.trans f2, f1, ?_⟩
      rw [List.range_succ, List.map_append]
      refine RoomsAt.snoc ⟨D', rfl, ?_⟩ (rs.same f2)
      rw [← nI_rowN]
      exact SqL.of upd_same
  · rintro σ' H2 ⟨F, us, u3, u4, u5, u6, rfl, sF, ow, rs⟩
    walk_at "go"
    have ek : ((k : Nat) : Int).toNat = k := by omega
    rw [ek] at rs
    obtain ⟨f1, f2⟩ := ow.frz
    exact q W _ H2 (sF.trans f2) f1.toSame nW ⟨us, SqL.of upd_same, rs.same f2⟩
end

/-! widths -/

def sp_chk (I : Addr) : Sp := fun vs H Q E => ∃ n : Int, vs = [.int n] ∧ (0 ≤ n → Q .non H) ∧ (n < 0 → ∀ d H', H d = none → Same H H' → H' d = some (.xd [("value", .int n)]) → E (.ref I) (some d) H')
section
variable {F H : Hp} {L : List (Addr × HO)} {C I r d0 : Addr} {p q t b n : Int} {Q : VK} {E : XK} {m : Nat}
theorem c_chkP (h0 : 0 ≤ n) (k : Q .non H) : sp_chk I ([.int n] ++ []) H Q E := ⟨n, rfl, fun _ => k, fun z => by omega⟩
theorem c_chkN (h : Own F H L) (h0 : n < 0) (k : ∀ d H', Own F H' ((d, .xd [("value", .int n)]) :: L) → E (.ref I) (some d) H') : sp_chk I ([.int n] ++ []) H Q E :=
  ⟨n, rfl, fun z => by omega, fun _ d H' n' s e => k d H' (h.newS n' s e)⟩
end
set_option hygiene false in
local macro_rules | `(tactic| walk_at "r1") => `(tactic| first
  | ((with_reducible refine' Bs.c_chkP ?p1 ?_); (case p1 => omega))
  | ((with_reducible refine' Bs.c_chkN ?p1 ?p2 ?_); (case p1 => assumption); (case p2 => omega); intro dX H' ow))
section
variable {P : Program} {w : World} {K : PySem.W.Frag} {mg : Str → Option Value} {base : Heap} {C aInvalidWidth f : Addr} {fd : FuncData}
theorem ok_check_width (F : FnP K "check_width" "check_width" s_check_width f fd) (B : Bi mg) (x_InvalidWidth : Xc P w K mg base "InvalidWidth" aInvalidWidth) : FnOk P w K mg base (L2.CX P w) 3 f fd ["width"] (sp_chk aInvalidWidth) := by
  refine F.ok sc_check_width (fun vs H Q E h => by walk_at "len") (fun cdv A outer s H vs Q E hr h => ?_)
  have nd := sc_check_width.nd
  obtain ⟨n, rfl, q1, q2⟩ := h
  refine ⟨_, pss_one (ps_if (pt_cmpR op_lt (pv 0) pe_int (nomark _)) (pss_one (ps_rx rfl (takes_of rfl rfl rfl rfl) x_InvalidWidth hr (by decide) (pa_cons (pv 0) pa_nil) (mo_cons mo_var mo_nil))) pss_nil), ?_⟩
  walk_at "s0"
  have ow := Own.start H
  walk_at "go"
  · exact q2 hc dX H' (ow.new0 g0) ow.toSame_of (ow.get 0 rfl)
  · exact q1 (by omega)
end

/-! low rows counted -/

def sp_countlow (K : PySem.W.Frag) (CS I : Addr) : Sp := fun vs H Q E => ∃ (p : Addr) (ns : List Str) (T : Tab) (n : Int), vs = [.ref p, .int n] ∧ SolAt K CS H p ns T ∧ n ≤ 100000 ∧ (0 ≤ n → ∀ H', Same H H' → Q (.int ((cntM T n.toNat : Nat) : Int)) H') ∧
  (n < 0 → ∀ d H', H d = none → Same H H' → H' d = some (.xd [("value", .int n)]) → E (.ref I) (some d) H')
section
variable {P : Program} {w : World} {K : PySem.W.Frag} {mg : Str → Option Value} {base : Heap} {CS aInvalidWidth f : Addr} {fd : FuncData}
theorem ok_count_low (F : FnP K "count_low" "count_low" s_count_low f fd) (B : Bi mg) (c_check_width : Fo P w K mg base (L2.CX P w) 3 "check_width" ["width"] (sp_chk aInvalidWidth)) (c_ways_on : Fo P w K mg base CX0 1 "ways_on" ["rooms", "width"] (sp_wayson K)) (clS : Cls K CS) (nSr : NoAttr K CS "rooms") : FnOk P w K mg base (L2.CX P w) 4 f fd ["solutions", "width"] (sp_countlow K CS aInvalidWidth) := by
  refine F.ok sc_count_low (fun vs H Q E h => by walk_at "len") (fun cdv A outer s H vs Q E hr h => ?_)
  have nd := sc_count_low.nd
  obtain ⟨p, ns, T, n, rfl, so, hn, q1, q2⟩ := h
  obtain ⟨dx, t, r, ep, st, tt⟩ := so.at_
  refine ⟨_, pss_cons (ps_expr (pe_fx c_check_width hr (by decide) (fun σ => passAt (takes_of rfl rfl rfl rfl) σ) (pa_cons (pv 1) pa_nil)))
      (pss_one (ps_ret (pe_ifExp (pt_cmpR (op_neD hr.units) (pe_fld (pv 0) rfl) (pe_lst pa_nil) (nomark _)) (pe_ix ix_list (pe_ix ix_list (pe_fo c_ways_on hr (by decide) (pa_cons (pe_fld (pv 0) rfl) (pa_cons (pv 1) pa_nil))) (pe_un un_neg pe_int) (fun _ _ => rfl)) pe_int (fun _ _ => rfl)) pe_int))), ?_⟩
  walk_at "s0"
  have ow := Own.start H
  by_cases h0 : 0 ≤ n
  · obtain ⟨k, rfl⟩ := Int.eq_ofNat_of_zero_le h0
    walk_at "go"
    refine o_neTE (tt.same ow.toSame_of) (ow.get 0 rfl) ?_
    by_cases c0 : T = []
    · rw [decide_eq_true c0]
      walk_at "go"
      have e0 : ((cntM T ((k : Nat) : Int).toNat : Nat) : Int) = 0 := by rw [c0]; unfold cntM; cases ((k : Nat) : Int).toNat <;> rfl
      have := q1 h0 _ ow.toSame_of
      rw [e0] at this
      exact this
    · rw [decide_eq_false c0]
      walk_at "go"
      have l0 := List.length_pos_iff.mpr c0
      refine ⟨r, T, k, rfl, tt.same ow.toSame_of, so.can.tin, so.len, so.wide, by omega, fun r2 F H3 s1 s2 nr tb => ?_⟩
      obtain ⟨us, sq, ra⟩ := tb
      have lus := ra.length
      rw [List.length_map, List.length_range] at lus
      obtain ⟨v, hv, q0, rfl, sp⟩ := ra.at (i := k) (r := (wv T k).map some) (by rw [List.getElem?_map, List.getElem?_range (by omega)]; rfl)
      rw [← nI_rowN] at sp
      have hat : atI us (-1) = some (.ref q0) := at_last lus hv
      have lw : 0 < (wv T k).length := by rw [wv_len]; exact l0
      have hat0 : atI (nI (wv T k)) 0 = some (.int ((wv T k)[0] : Nat)) := nI_at (List.getElem?_eq_getElem lw)
      have sq3 := s2.seq sq
      have sp3 := s2.seq sp
      have sH : Same H H3 := ow.toSame_of.trans (s1.trans s2)
      clear ow
      walk_at "go"
      have e0 : cntM T ((k : Nat) : Int).toNat = (wv T k)[0] := by
        unfold cntM
        rw [show ((k : Nat) : Int).toNat = k by omega, List.getElem?_eq_getElem lw]
        rfl
      have := q1 h0 H3 sH
      rw [e0] at this
      exact this
  · have h1 : n < 0 := by omega
    walk_at "go"
    exact q2 h1 dX _ (ow.new0 g0) ow.toSame_of (ow.get 0 rfl)
end

/-! calls with solutions: signs, ==, bool, within, tables of their own -/
/-- what is new joins the base; what stood outside of it stays outside -/
theorem Own.rest2 {F H H' : Hp} {L : List (Addr × HO)} (h : Own F H L) (s : Same H H') : ∃ F2, Own F2 H' L ∧ Same F F2 ∧ Same (newF H H') F2 ∧ ∀ c, F c = none → (H c).isSome = true → F2 c = none := by
  refine ⟨fun c => if (H c).isSome then F c else H' c, ⟨fun c o e => ?_, fun i c o e => ⟨s _ _ (h.get i e), ?_⟩, h.nd⟩, fun c o e => ?_, fun c o e => ?_, fun c n i => ?_⟩
  · split at e
    · exact s _ _ (h.sub c o e)
    · exact e
  · show (if _ then _ else _) = _
    rw [if_pos (by rw [h.get i e]; rfl)]
    exact (h.own i c o e).2
  · show (if _ then _ else _) = _
    rw [if_pos (by rw [h.sub c o e]; rfl)]
    exact e
  · unfold newF at e
    show (if _ then _ else _) = _
    split at e
    · cases e
    · rename_i n1
      rw [if_neg n1]
      exact e
  · show (if _ then _ else _) = _
    rw [if_pos i]
    exact n
theorem r_same {C : Addr} {sp : Sp} {E : L2.St → XK} {ta tb : TE} {σ : L2.St} {H : Hp} {Q : VK} (k : ta σ H fun x H1 => tb σ H1 fun y H2 => rSame C sp (E σ) x y H2 Q) : tSame C sp E ta tb σ H Q := k
def cMeS (C : Addr) (m : Str) (sp : Sp) (E : XK) (t : TA) (σ : L2.St) (Q : VK) (x : V) (H1 : Hp) : Prop := ∃ a dx fs, x = .ref a ∧ H1 a = some (.ins C dx fs) ∧ fs.lookup m = none ∧ t σ H1 fun vs H2 => sp (x :: vs) H2 Q E
theorem r_meS {C : Addr} {m : Str} {sp : Sp} {E : L2.St → XK} {ta : TE} {t : TA} {σ : L2.St} {H : Hp} {Q : VK} (k : ta σ H (cMeS C m sp (E σ) t σ Q)) : tMeS C m sp E ta t σ H Q := k
theorem sfl_w (x y : V) : (sfl x y).lookup ("within" : Str) = none := by
  have e1 : (("within" : Str) == ("kept_names" : Str)) = false := by decide +kernel
  have e2 : (("within" : Str) == ("rooms" : Str)) = false := by decide +kernel
  simp [List.lookup, e1, e2]
def gOne {α : Type} (vs zs : List α) : List α := vs ++ zs
def cMeSk (C : Addr) (m : Str) (n : Nat) (sp : Sp) (gV : List V → List V → List V) (E : XK) (tk : TA) (σ : L2.St) (Q : VK) (x : V) (H1 : Hp) : Prop := ∃ a dx fs, x = .ref a ∧ H1 a = some (.ins C dx fs) ∧ fs.lookup m = none ∧ tk σ H1 fun zs H2 => zs.length = n ∧ sp (gV [x] zs) H2 Q E
theorem r_meSk {C : Addr} {m : Str} {n : Nat} {sp : Sp} {gV : List V → List V → List V} {E : L2.St → XK} {ta : TE} {tk : TA} {σ : L2.St} {H : Hp} {Q : VK} (k : ta σ H (cMeSk C m n sp gV (E σ) tk σ Q)) : tMeSk C m n sp gV E ta tk σ H Q := k
section
variable {K : PySem.W.Frag} {F H : Hp} {L : List (Addr × HO)} {CS p q a b : Addr} {ns ms : List Str} {A B T : Tab} {Q : VK} {E : XK} {sp : Sp} {t : TA} {σ : L2.St}
theorem c_same (s1 : SolAt K CS H p ns A) (s2 : SolAt K CS H q ms B) (k : sp [.ref p, .ref q] H Q E) : rSame CS sp E (.ref p) (.ref q) H Q := by
  obtain ⟨dx, t, r, e1, _⟩ := s1.at_
  obtain ⟨dy, t', r', e2, _⟩ := s2.at_
  exact ⟨p, dx, _, q, dy, _, rfl, e1, rfl, e2, k⟩
theorem c_neO (s1 : SolAt K CS H p ns A) (s2 : SolAt K CS H q ms B) (k : sp [.ref p, .ref q] H (fun v H' => ∃ c, v = .bl c ∧ Q (.bl (!c)) H') fun _ _ _ => False) : rNeO CS sp (.ref p) (.ref q) H Q := by
  obtain ⟨dx, t, r, e1, _⟩ := s1.at_
  obtain ⟨dy, t', r', e2, _⟩ := s2.at_
  exact ⟨p, q, dx, dy, _, _, rfl, rfl, e1, e2, k⟩
theorem c_meS (s1 : SolAt K CS H p ns A) (k : t σ H fun vs H2 => sp (.ref p :: vs) H2 Q E) : cMeS CS "within" sp E t σ Q (.ref p) H := by
  obtain ⟨dx, t, r, e1, _⟩ := s1.at_
  exact ⟨p, dx, _, rfl, e1, sfl_w _ _, k⟩
theorem c_meSk {n : Nat} (s1 : SolAt K CS H p ns A) (k : t σ H fun zs H2 => zs.length = n ∧ sp (.ref p :: zs) H2 Q E) : cMeSk CS "within" n sp gOne E t σ Q (.ref p) H := by
  obtain ⟨dx, t, r, e1, _⟩ := s1.at_
  exact ⟨p, dx, _, rfl, e1, sfl_w _ _, k⟩
theorem c_boolS (s1 : SolAt K CS H p ns A) (k : ∀ H', Same H H' → Q (.bl (!decide (A = []))) H') : rBoolO CS (sp_Sbool K CS) [.ref p] H Q := by
  obtain ⟨dx, t, r, e1, _⟩ := s1.at_
  exact ⟨p, dx, _, rfl, e1, p, ns, A, rfl, s1, fun H' s => ⟨_, rfl, k H' s⟩⟩
/-- == and != of solutions -/
theorem c_eqS (s1 : SolAt K CS H p ns A) (s2 : SolAt K CS H q ms B) (k : ∀ H', Same H H' → Q (.bl (decide (ns = ms ∧ A = B))) H') : rEqO CS (sp_Seq K CS) (.ref p) (.ref q) H Q := c_eqO s1 s2 ⟨p, q, ns, ms, A, B, rfl, s1, s2, k⟩
theorem c_neS (s1 : SolAt K CS H p ns A) (s2 : SolAt K CS H q ms B) (k : ∀ H', Same H H' → Q (.bl (!decide (ns = ms ∧ A = B))) H') : rNeO CS (sp_Seq K CS) (.ref p) (.ref q) H Q := c_neO s1 s2 ⟨p, q, ns, ms, A, B, rfl, s1, s2, fun H' s => ⟨_, rfl, k H' s⟩⟩
theorem itt_go {xs : List V} {i : Nat} (s : SqT K H a xs) (h : i < xs.length) : (Itt K a).go i H := ⟨xs, xs[i], s, List.getElem?_eq_getElem h⟩
theorem itt_stop {xs : List V} (s : SqT K H a xs) : (Itt K a).stop xs.length H := ⟨xs, s, Nat.le_refl _⟩
end
theorem reprD_K {X : Cx} {K : PySem.W.Frag} {k : Nat} (h : X.K = K) (hg : X.A.guards = some []) (hr : Room k X.A) : CallR X (.builtin "repr") (rRepr K) := h ▸ call_reprD hg hr
set_option hygiene false in
local macro_rules | `(tactic| walk_at "r1") => `(tactic| first
  | with_reducible refine Bs.r_same ?_
  | with_reducible refine Bs.r_meS ?_
  | with_reducible refine Bs.r_meSk ?_)

/-! whether solutions are as they were constructed -/

def sp_stays (K : PySem.W.Frag) (CS : Addr) : Sp := fun vs H Q _ => ∃ (p r1 t1 : Addr) (ns : List Str) (T M : Tab), vs = [.ref p, .ref r1, .ref t1] ∧ SolAt K CS H p ns M ∧ SqL K H r1 (ns.map V.str) ∧ TabAt K H t1 T ∧ TIn T ∧ (∀ r ∈ T, r.length = 2 ^ ns.length) ∧ T.length ≤ 20 ∧ IsLeast (2 ^ ns.length) T M ∧ ∀ H', Same H H' → Q (.bl true) H'
section
variable {P : Program} {w : World} {K : PySem.W.Frag} {mg : Str → Option Value} {base : Heap} {CS aInvalidNames aInvalidTable aUnlikeNames f : Addr} {fd : FuncData}
theorem ok__law_stays (F : FnP K "_law_stays" "_law_stays" s__law_stays f fd) (B : Bi mg) (c_Solutions : ClX P w K mg base "Solutions" CS 6 ["self", "names", "table"] (sp_Sol_init K CS aInvalidNames aInvalidTable)) (p_names : PrC P w K mg base CX0 CS "names" 1 (sp_Snames K CS)) (p_table : PrC P w K mg base CX0 CS "table" 1 (sp_Stable K CS)) (m_Sbool : MeC P w K mg base CX0 CS "__bool__" 1 ["self"] (sp_Sbool K CS) am_Sbool) (e_Sol : EqO P w K mg base CS 2 (sp_Seq K CS)) : FnG P w K mg base CX0 12 f fd ["_law_made_here", "_law_names_here", "_law_rooms_here"] (sp_stays K CS) := by
  refine FunD_okG F sc__law_stays (fun vs H Q E h => by walk_at "len") (fun cdv A outer s H vs Q E gd hr h => ?_)
  have nd := sc__law_stays.nd
  obtain ⟨p, r1, t1, ns, T, M, rfl, so, sr1, st1, tin, rw1, lT, il, q⟩ := h
  obtain ⟨vs, sq, ra⟩ := id st1
  have lv := ra.length
  have on1 := so.ok
  have oS := okN_S on1
  have l3 := so.l3
  have can := so.can
  have p8 : 2 ^ ns.length ≤ 8 := Nat.le_trans (Nat.pow_le_pow_right (by decide) l3) (by decide)
  refine ⟨_, PSs.nox (pss_cons (ps_set (i := 3) nd rfl (Or.inl rfl) (pe_mkCX c_Solutions hr (by decide) (fun _ => psL0) (pa_cons (pe_callTy cb_listof rfl B.list (by decide +kernel) (pa_cons (pv 1) pa_nil)) (pa_cons (pe_lc (own := [("_law_room", 4)]) (g := gName 4) (tt := tYes) (by rfl) nd (pi_list (pv 2)) (blkOk_by (own := [("_law_room", 4)]) (N := ["_law_made_here", "_law_names_here", "_law_rooms_here", "_law_fresh", "_law_room", "_law_told", "_law_again"]) (sc := defScope s__law_stays) (by decide +kernel)) (fun _ _ _ _ _ => pg_name (i := 4) nd rfl (Or.inl rfl)) (fun _ _ _ _ _ => pts_nil) (fun _ _ _ _ _ => (pe_callTy (listof_K (K := K) rfl) (by rfl) (by exact B.list) (by decide +kernel) (pa_cons (pv 4) pa_nil)))) pa_nil))))
      (pss_cons (ps_par (i := 5) (j := 6) rfl nd rfl rfl (by decide) rfl rfl (pa_cons (pe_lst (pa_cons (pe_wp p_names hr (by decide) (pv 0)) (pa_cons (pe_wp p_table hr (by decide) (pv 0)) (pa_cons (pe_callTy (call_boolO m_Sbool hr (by decide)) rfl B.bool (by decide +kernel) (pa_cons (pv 0) pa_nil)) pa_nil)))) (pa_cons (pe_lst (pa_cons (pe_wp p_names hr (by decide) (pv 3)) (pa_cons (pe_wp p_table hr (by decide) (pv 3)) (pa_cons (pe_callTy (call_boolO m_Sbool hr (by decide)) rfl B.bool (by decide +kernel) (pa_cons (pv 3) pa_nil)) pa_nil)))) pa_nil)) rfl)
      (pss_one (ps_ret (pe_and (pe_cmpR op_eq (pe_callB (call_reprD gd hr) rfl B.repr (by decide +kernel) (pa_cons (pv 5) pa_nil)) (pe_callB (call_reprD gd hr) rfl B.repr (by decide +kernel) (pa_cons (pv 6) pa_nil)) (nomark _)) (pe_and (pe_cmpR (op_eqO e_Sol hr (by decide)) (pv 0) (pv 3) (nomark _)) (pe_and (pe_cmpR (op_eqO e_Sol hr (by decide)) (pv 3) (pv 0) (nomark _)) (pe_one (pe_not (pe_cmpR (op_neO e_Sol hr (by decide)) (pv 0) (pv 3) (nomark _))))))))))), ?_⟩
  walk_at "s0"
  have ow := Own.start H
  walk_at "go"
  generalize pL = hn at *
  refine r_lc ?_
  walk_at "go"
  refine c_ilS (ow.toSame.seq sq) ?_
  refine c_lcJ vs.length (by omega) (fun _ => rfl) (fun D i acc H' => ∃ F, Same H F ∧ Own F H' [(D, .lst acc), (hn, .lst (ns.map V.str))] ∧ RoomsX (newF H F) acc (T.take i)) (fun D nD => ⟨H, Same.refl H, ow.new nD, rfl, fun i r e => (by simp at e)⟩) ?_ ?_ ?_ ?_
  · rintro D i acc H1 ⟨F, sF, ow, rs⟩ hi
    exact itl_go ((sF.trans ow.toSame).seq sq) hi
  · rintro D acc H1 ⟨F, sF, ow, rs⟩
    exact itl_stop ((sF.trans ow.toSame).seq sq)
  · rintro D i acc H1 x H2 R hi la ⟨F, sF, ow2, rs⟩ ⟨rfl, hy⟩ hR
    clear ow
    have ow := ow2
    have hx := hy _ ((sF.trans ow.toSame).seq sq)
    obtain ⟨rr, hr⟩ : ∃ r, T[i]? = some r := ⟨_, List.getElem?_eq_getElem (by omega)⟩
    obtain ⟨v, hv, ar, rfl, sr⟩ := ra.at hr
    rw [hx] at hv
    cases hv
    have sE : SqE K H2 ar (rr.map vO) := .inl ((sF.trans ow.toSame).seq sr)
    have et : T.take (i + 1) = T.take i ++ [rr] := by rw [List.take_succ, hr]; rfl
    walk_at "go"
    obtain ⟨f1, f2⟩ := ow.frz
    refine hR _ _ (f1.get 0 rfl) ⟨_, sF.trans f2, f1.put 0 rfl, ?_⟩
    rw [et]
    refine RoomsX.snoc (rs.same (newF_mono f2)) ?_
    unfold newF
    rw [same_none (sF.trans ow2.toSame) np]
    exact upd_same
  rintro hr1 us H1 nhr ⟨F, sF, ow2, rs⟩ la
  clear ow
  have ow := ow2
  clear ow2
  rw [lv, List.take_length] at rs
  have rF : RoomsX F us T := rs.same newF_sub
  walk_at "go"
  refine cMk_T (isT := false) (SqL.of (ow.get 1 rfl)) on1 ⟨us, SqL.of (ow.get 0 rfl), (rF.same ow.toSame).to⟩ tin rw1 (by omega) ?_
  intro M2 p2 H5 il2 ll np1 s5 so2
  obtain rfl : M2 = M := il2.eq il Eqv.rfl'
  obtain ⟨F5, ow5, sF5, sN5⟩ := ow.rest s5
  replace so2 := so2 F5 sN5 (fun z => by cases z)
  replace so := so.same (sF.trans sF5)
  have sHF : Same H F5 := sF.trans sF5
  clear ow
  have ow := ow5.drop.drop
  clear ow5 rs rF sN5 s5
  have pR8 : ∀ r ∈ M2, r.length ≤ 8 := fun r hr => by rw [can.rows r hr]; exact p8
  have rpM : Rp 60 27000 (.list [.list (ns.map PyData.str), .list (M2.map pR), .bool (!decide (M2 = []))]) := rq_list (by simp) (by simp) (rpl_cons (rq_strs oS l3 (fun x hx => by rw [okN_one on1 x hx]; decide) (by simp) (by simp)) (rpl_cons (rq_tab can.tin (by omega) pR8 (by simp) (by simp)) (rpl_cons (rq_bl (by simp)) rpl_nil)))
  walk_at "go"
  refine c_table ow (so.same ow.toSame) ?_
  intro ta F6 H6 ow sF6 tta
  replace so := so.same sF6
  replace so2 := so2.same sF6
  walk_at "go"
  refine c_boolS (so.same ow.toSame) fun H7 s7 => ?_
  replace ow := ow.same s7
  walk_at "go"
  generalize pL = q1 at *
  refine c_table ow (so2.same ow.toSame) ?_
  intro tb F8 H8 ow sF8 ttb
  replace so := so.same sF8
  replace so2 := so2.same sF8
  replace tta := tta.same sF8
  have sHE : Same H F8 := sHF.trans (sF6.trans sF8)
  walk_at "go"
  refine c_boolS (so2.same ow.toSame) fun H9 s9 => ?_
  replace ow := ow.same s9
  walk_at "go"
  refine r_repr (d := .list [.list (ns.map PyData.str), .list (M2.map pR), .bool (!decide (M2 = []))]) (dp_lst (ow.get 2 rfl) (.cons (dp_lst (ow.get 3 rfl) (dp_strs ns)) (.cons (tta.same ow.toSame).dp (.cons (.bl _) .nil)))) rpM ?_
  generalize hSO : PyData.shown (.list [.list (ns.map PyData.str), .list (M2.map pR), .bool (!decide (M2 = []))]) = SO
  walk_at "go"
  refine r_repr (d := .list [.list (ns.map PyData.str), .list (M2.map pR), .bool (!decide (M2 = []))]) (dp_lst (ow.get 0 rfl) (.cons (dp_lst (ow.get 1 rfl) (dp_strs ns)) (.cons (ttb.same ow.toSame).dp (.cons (.bl _) .nil)))) rpM ?_
  rw [hSO]
  walk_at "go"
  refine c_eqS (so.same ow.toSame) (so2.same ow.toSame) fun Ha sa => ?_
  replace ow := ow.same sa
  rw [decide_eq_true ⟨rfl, rfl⟩]
  walk_at "go"
  refine c_eqS (so2.same ow.toSame) (so.same ow.toSame) fun Hb sb => ?_
  replace ow := ow.same sb
  rw [decide_eq_true ⟨rfl, rfl⟩]
  walk_at "go"
  refine c_neS (so.same ow.toSame) (so2.same ow.toSame) fun Hc sc => ?_
  replace ow := ow.same sc
  rw [decide_eq_true ⟨rfl, rfl⟩]
  walk_at "go"
  exact q _ (sHE.trans ow.toSame)
end

/-! comprehensions over anything, with any targets and a condition -/
theorem c_lcG {g : TG} {tt : TT} {te : TE} {vs : List Nat} {σ : L2.St} {Q : VK} {J : It} {H : Hp} (n : Nat) (hn : n ≤ 1000000) (Pv : Addr → Nat → List V → Hp → Prop) (h0 : ∀ D, H D = none → Pv D 0 [] (upd H D (.lst [])))
    (hgo : ∀ D i acc H, Pv D i acc H → i < n → J.go i H) (hst : ∀ D acc H, Pv D n acc H → J.stop n H)
    (step : ∀ D i acc H x H' (R : VK) (Z : Hp → Prop), i < n → acc.length ≤ i → Pv D i acc H → J.yld i H x H' → (∀ y H4, H4 D = some (.lst acc) → Pv D (i + 1) (acc ++ [y]) (upd H4 D (.lst (acc ++ [y]))) → R y H4) → (∀ H3, Pv D (i + 1) acc H3 → Z H3) →
      g x (wipe σ vs) H' fun σ2 H2 => wipe σ2 vs = wipe σ vs ∧ tt σ2 H2 fun b H3 => if b = true then te σ2 H3 R else Z H3)
    (k : ∀ D acc H', H D = none → Pv D n acc H' → acc.length ≤ n → Q (.ref D) H') : cLc g tt te vs σ Q J H := by
  intro D hD
  refine ⟨fun i m H' => m = n - i ∧ i ≤ n ∧ ∃ acc, acc.length ≤ i ∧ Pv D i acc H', ⟨n, by simp, Nat.zero_le _, [], Nat.le_refl _, h0 D hD⟩, ?_⟩
  rintro i m H1 ⟨rfl, hi, acc, la, p⟩
  by_cases hlt : i < n
  · refine .inr ⟨hgo D i acc H1 p hlt, fun H' => ∃ acc, acc.length ≤ i + 1 ∧ Pv D (i + 1) acc H', fun H' ⟨acc, la, p⟩ => ⟨n - (i + 1), by omega, rfl, hlt, acc, la, p⟩, fun x H' y => ?_⟩
    refine step D i acc H1 x H' _ _ hlt la p y (fun y H4 eD q => ?_) (fun H3 q => ⟨acc, by omega, q⟩)
    exact ⟨acc, eD, Nat.lt_of_le_of_lt la (Nat.lt_of_lt_of_le hlt (Nat.le_trans hn (by decide))), acc ++ [y], by simp; omega, q⟩
  · have e : i = n := by omega
    subst e
    exact .inl ⟨hst D acc H1 p, k D acc H1 hD p la⟩
section
variable {K : PySem.W.Frag} {H : Hp} {a : Addr} {xs : List V} {σ : L2.St} {te : TE} {Q : VK}
theorem ite_go {i : Nat} (s : SqL K H a xs) (h : i < xs.length) : (Ite K a).go i H := ⟨xs, xs[i], s, List.getElem?_eq_getElem h⟩
theorem ite_stop {xs : List V} (s : SqL K H a xs) : (Ite K a).stop xs.length H := ⟨xs, s, Nat.le_refl _⟩
/-- two targets of a tuple -/
theorem g_two {i j : Nat} {p : Addr} {v w : V} {R : L2.St → Hp → Prop} (s : SqT K H p [v, w]) (k : R ((σ.set i (some v)).set j (some w)) H) : gTup K 2 (gCons (gName i) (gCons (gName j) gNil)) (.ref p) σ H R := ⟨p, _, rfl, s, rfl, v, _, rfl, w, _, rfl, rfl, k⟩
theorem tt_yes {R : Bool → Hp → Prop} (k : R true H) : tYes σ H R := k
end

/-! plain: letters picked by their bits: rows of a table by letters that are kept -/
/-- the letter of the bits at some places -/
def kl : List Nat → Nat → Nat
  | [], _ => 0
  | p :: ps, c => c / 2 ^ p % 2 + 2 * kl ps c
/-- rooms for other letters -/
def pickT (ps : List Nat) (n : Nat) (T : Tab) : Tab := T.map fun r => (List.range n).map fun c => r[kl ps c]?.getD none
/-- a bit put in at a place -/
def insB (a b c : Nat) : Nat := 2 ^ a * (b + 2 * (c / 2 ^ a)) + c % 2 ^ a
section
variable {ps qs : List Nat} {n i c a b m : Nat} {T M : Tab} {α : Nat → Nat}
theorem kl_lt : ∀ {ps : List Nat} {c : Nat}, kl ps c < 2 ^ ps.length
  | [], _ => Nat.lt_of_lt_of_le Nat.zero_lt_one (Nat.le_refl _)
  | p :: ps, c => by
    have := kl_lt (ps := ps) (c := c)
    show c / 2 ^ p % 2 + 2 * kl ps c < 2 ^ (ps.length + 1)
    rw [Nat.pow_succ]
    omega
theorem kl_bit : ∀ {ps : List Nat} {i c : Nat}, (kl ps c).testBit i = (match ps[i]? with | some p => c.testBit p | none => false)
  | [], i, c => by simp [kl]
  | p :: ps, 0, c => by
    show (c / 2 ^ p % 2 + 2 * kl ps c).testBit 0 = c.testBit p
    rw [Nat.testBit_zero, Nat.testBit_eq_decide_div_mod_eq]
    congr 1
    simp
  | p :: ps, i + 1, c => by
    show (c / 2 ^ p % 2 + 2 * kl ps c).testBit (i + 1) = _
    rw [Nat.testBit_succ, show (c / 2 ^ p % 2 + 2 * kl ps c) / 2 = kl ps c by omega, kl_bit]
    rfl
theorem insB_bit {j : Nat} (hb : b < 2) : (insB a b c).testBit j = if j < a then c.testBit j else if j = a then decide (b = 1) else c.testBit (j - 1) := by
  unfold insB
  rw [Nat.testBit_two_pow_mul_add _ (Nat.mod_lt _ (Nat.two_pow_pos a))]
  by_cases h : j < a
  · rw [if_pos h, if_pos h, Nat.testBit_mod_two_pow, decide_eq_true h, Bool.true_and]
  · rw [if_neg h, if_neg h]
    by_cases e : j = a
    · rw [if_pos e, e, Nat.sub_self, Nat.testBit_zero]
      congr 1
      simp
      omega
    · rw [if_neg e]
      obtain ⟨k, rfl⟩ : ∃ k, j = a + (k + 1) := ⟨j - a - 1, by omega⟩
      rw [show a + (k + 1) - a = k + 1 by omega, Nat.testBit_succ, show (b + 2 * (c / 2 ^ a)) / 2 = c / 2 ^ a by omega, Nat.testBit_div_two_pow]
      congr 1
      omega
theorem insB_lt (ha : a ≤ n) (hb : b < 2) (hc : c < 2 ^ n) : insB a b c < 2 ^ (n + 1) := by
  refine Nat.lt_pow_two_of_testBit _ fun j hj => ?_
  rw [insB_bit hb, if_neg (by omega), if_neg (by omega)]
  exact Nat.testBit_lt_two_pow (Nat.lt_of_lt_of_le hc (Nat.pow_le_pow_right (by decide) (by omega)))
theorem kl_ext {x y : Nat} (h : ∀ i, x.testBit i = y.testBit i) : x = y := Nat.eq_of_testBit_eq h
theorem kl_inv (h : ∀ (i p : Nat), ps[i]? = some p → qs[p]? = some i) (hc : c < 2 ^ ps.length) : kl ps (kl qs c) = c := by
  refine kl_ext fun i => ?_
  rw [kl_bit]
  cases e : ps[i]? with
  | some p =>
    show (kl qs c).testBit p = _
    rw [kl_bit, h i p e]
  | none =>
    have : ps.length ≤ i := List.getElem?_eq_none_iff.mp e
    exact (Nat.testBit_lt_two_pow (Nat.lt_of_lt_of_le hc (Nat.pow_le_pow_right (by decide) this))).symm
theorem kl_ins (h : ∀ (i p : Nat), ps[i]? = some p → p = if i < a then i else i + 1) (hb : b < 2) (hc : c < 2 ^ ps.length) : kl ps (insB a b c) = c := by
  refine kl_ext fun i => ?_
  rw [kl_bit]
  cases e : ps[i]? with
  | some p =>
    show (insB a b c).testBit p = _
    have ep := h i p e
    rw [insB_bit hb]
    by_cases hi : i < a
    · rw [if_pos hi] at ep
      subst ep
      rw [if_pos hi]
    · rw [if_neg hi] at ep
      subst ep
      rw [if_neg (by omega), if_neg (by omega)]
      rfl
  | none =>
    have : ps.length ≤ i := List.getElem?_eq_none_iff.mp e
    exact (Nat.testBit_lt_two_pow (Nat.lt_of_lt_of_le hc (Nat.pow_le_pow_right (by decide) this))).symm
theorem fol_pick : fol (pickT ps n T) i c = if c < n then fol T i (kl ps c) else none := by
  unfold fol pickT
  rw [List.getElem?_map]
  cases e : T[i]? with
  | none =>
    show (([] : List (Option Nat))[c]?).getD none = _
    simp
  | some r =>
    show (((List.range n).map fun c => r[kl ps c]?.getD none)[c]?).getD none = if c < n then (r[kl ps c]?).getD none else none
    rw [List.getElem?_map]
    by_cases h : c < n
    · rw [if_pos h, List.getElem?_range h]
      rfl
    · rw [if_neg h, List.getElem?_eq_none (by rw [List.length_range]; omega)]
      rfl
theorem acc_pick : Acc (pickT ps n T) i α ↔ (∀ k, α k < n) ∧ Acc T i fun k => kl ps (α k) := by
  constructor
  · rintro ⟨s, s0, h⟩
    have h1 : ∀ k, α k < n := fun k => by
      have := h k
      rw [fol_pick] at this
      split at this
      · assumption
      · cases this
    refine ⟨h1, s, s0, fun k => ?_⟩
    have := h k
    rw [fol_pick, if_pos (h1 k)] at this
    exact this
  · rintro ⟨h1, s, s0, h⟩
    refine ⟨s, s0, fun k => ?_⟩
    rw [fol_pick, if_pos (h1 k)]
    exact h k
theorem pick_len : (pickT ps n T).length = T.length := List.length_map _
theorem pick_rows : ∀ r ∈ pickT ps n T, r.length = n := fun r hr => by
  obtain ⟨q, _, rfl⟩ := List.mem_map.mp hr
  rw [List.length_map, List.length_range]
theorem pick_tin (h : TIn T) : TIn (pickT ps n T) := ⟨fun r hr e he k hk => by
  rw [pick_len]
  obtain ⟨q, hq, rfl⟩ := List.mem_map.mp hr
  obtain ⟨c, _, rfl⟩ := List.mem_map.mp he
  cases z : q[kl ps c]? with
  | none => rw [z] at hk; cases hk
  | some x =>
    rw [z] at hk
    exact h.lt q hq x (List.mem_of_getElem? z) k hk⟩
theorem acc_rows (hm : ∀ r ∈ T, r.length = m) (h : Acc T i α) : ∀ k, α k < m := fun k => by
  obtain ⟨s, _, hs⟩ := h
  exact fol_c hm (hs k)
/-- picked and picked back -/
theorem pick_back {M1 M2 : Tab} (can : Canon m M) (l1 : ps.length = n) (em : m = 2 ^ n) (i1 : IsLeast m (pickT ps m M) M1) (i2 : IsLeast m (pickT qs m M1) M2) (l2 : qs.length = n) (h : ∀ (i p : Nat), ps[i]? = some p → qs[p]? = some i) : M2 = M := by
  refine canon_eq i2.1 can (i2.2.symm.trans fun α => ?_)
  rw [acc_pick, ← i1.2, acc_pick]
  have inv : ∀ k, α k < m → kl ps (kl qs (α k)) = α k := fun k hk => kl_inv h (by rw [l1, ← em]; exact hk)
  constructor
  · rintro ⟨h1, _, h2⟩
    rw [show (fun k => kl ps (kl qs (α k))) = α from funext fun k => inv k (h1 k)] at h2
    exact h2
  · intro h2
    have h1 := acc_rows can.rows h2
    refine ⟨h1, fun k => by rw [em, ← l2]; exact kl_lt, ?_⟩
    rw [show (fun k => kl ps (kl qs (α k))) = α from funext fun k => inv k (h1 k)]
    exact h2
/-- rows with a word's bits put in -/
def InsAcc (a m : Nat) (w : Nat → Nat) (T T' : Tab) : Prop := ∀ α, Acc T' 0 α ↔ (∀ k, α k < m) ∧ Acc T 0 fun k => insB a (w k) (α k)
/-- more names, and a word for the one more -/
theorem pick_ins {M1 M2 : Tab} {w : Nat → Nat} (can : Canon m M) (l1 : ps.length = n) (em : m = 2 ^ n) (ha : a ≤ n) (i1 : IsLeast (2 ^ (n + 1)) (pickT ps (2 ^ (n + 1)) M) M1) (c2 : Canon m M2) (i2 : InsAcc a m w M1 M2) (hw : ∀ k, w k < 2) (h : ∀ (i p : Nat), ps[i]? = some p → p = if i < a then i else i + 1) : M2 = M := by
  refine canon_eq c2 can fun α => ?_
  rw [i2, ← i1.2, acc_pick]
  have inv : ∀ k, α k < m → kl ps (insB a (w k) (α k)) = α k := fun k hk => kl_ins h (hw k) (by rw [l1, ← em]; exact hk)
  constructor
  · rintro ⟨h1, _, h2⟩
    rw [show (fun k => kl ps (insB a (w k) (α k))) = α from funext fun k => inv k (h1 k)] at h2
    exact h2
  · intro h2
    have h1 := acc_rows can.rows h2
    refine ⟨h1, fun k => insB_lt ha (hw k) (by rw [← em]; exact h1 k), ?_⟩
    rw [show (fun k => kl ps (insB a (w k) (α k))) = α from funext fun k => inv k (h1 k)]
    exact h2
end

/-! the letter of kept bits: the walk -/

/-- what is summed up -/
def klI (c : Nat) (ps : List Nat) : List Int := (ps.zipIdx 0).map fun x => ((c / 2 ^ x.1 % 2 * 2 ^ x.2 : Nat) : Int)
theorem klI_sum0 {c : Nat} : ∀ {ps : List Nat} {o : Nat}, ((ps.zipIdx o).map fun x => ((c / 2 ^ x.1 % 2 * 2 ^ x.2 : Nat) : Int)).sum = ((2 ^ o * kl ps c : Nat) : Int)
  | [], o => by simp [kl]
  | p :: ps, o => by
    rw [List.zipIdx_cons, List.map_cons, List.sum_cons, klI_sum0]
    show ((c / 2 ^ p % 2 * 2 ^ o : Nat) : Int) + ((2 ^ (o + 1) * kl ps c : Nat) : Int) = ((2 ^ o * (c / 2 ^ p % 2 + 2 * kl ps c) : Nat) : Int)
    rw [← Int.natCast_add]
    congr 1
    rw [Nat.mul_add, Nat.pow_succ, Nat.mul_comm (2 ^ o) (c / 2 ^ p % 2), Nat.mul_assoc]
theorem klI_sum {c : Nat} {ps : List Nat} : (klI c ps).sum = (kl ps c : Nat) := by
  unfold klI
  rw [klI_sum0, Nat.pow_zero, Nat.one_mul]
theorem klI_len {c : Nat} {ps : List Nat} : (klI c ps).length = ps.length := by unfold klI; rw [List.length_map, List.length_zipIdx]
theorem klI_snoc {c i p : Nat} {ps : List Nat} (h : ps[i]? = some p) : (klI c ps).take (i + 1) = (klI c ps).take i ++ [((c / 2 ^ p % 2 * 2 ^ i : Nat) : Int)] := by
  rw [List.take_succ]
  unfold klI
  rw [List.getElem?_map, List.getElem?_zipIdx, h]
  simp
theorem shr_nat (c p : Nat) : (c : Int) / 2 ^ ((p : Nat) : Int).toNat = ((c / 2 ^ p : Nat) : Int) := by
  rw [Int.toNat_natCast]
  simp
theorem kl_val (c p i : Nat) : Builtin.bitAnd ((c : Int) / 2 ^ ((p : Nat) : Int).toNat) 1 * 2 ^ ((i : Nat) : Int).toNat = ((c / 2 ^ p % 2 * 2 ^ i : Nat) : Int) := by
  rw [shr_nat, bitAnd_m1, Int.toNat_natCast]
  simp
def sp_klet (K : PySem.W.Frag) : Sp := fun vs H Q _ => ∃ (a : Addr) (c : Nat) (ps : List Nat), vs = [.int (c : Nat), .ref a] ∧ SqL K H a (nI ps) ∧ c < 1000000 ∧ ps.length ≤ 60 ∧ ∀ H', Same H H' → Q (.int (kl ps c : Nat)) H'
section
variable {P : Program} {w : World} {K : PySem.W.Frag} {mg : Str → Option Value} {base : Heap} {f : Addr} {fd : FuncData}
theorem ok_kept_letter (F : FnP K "kept_letter" "kept_letter" s_kept_letter f fd) (B : Bi mg)  : FnOk P w K mg base CX0 1 f fd ["letter", "places"] (sp_klet K) := by
  refine F.ok sc_kept_letter (fun vs H Q E h => by walk_at "len") (fun cdv A outer s H vs Q E hr h => ?_)
  have nd := sc_kept_letter.nd
  obtain ⟨a, c, ps, rfl, sq, hc, hl, q⟩ := h
  refine ⟨_, PSs.nox (pss_one (ps_ret (pe_callB (cr_sum rfl) rfl B.sum (by decide +kernel) (pa_cons (pe_lc (own := [("index", 2), ("place", 3)]) (g := gTup K 2 (gCons (gName 2) (gCons (gName 3) gNil))) (tt := tYes) (by rfl) nd (pi_enum rfl B.enumerate (pa_cons (pv 1) pa_nil)) (blkOk_by (own := [("index", 2), ("place", 3)]) (N := ["letter", "places", "index", "place"]) (sc := defScope s_kept_letter) (by decide +kernel)) (fun _ _ _ _ _ => pg_tup rfl (pgs_cons (pg_name (i := 2) nd rfl (Or.inl rfl)) (pgs_cons (pg_name (i := 3) nd rfl (Or.inl rfl)) pgs_nil))) (fun _ _ _ _ _ => pts_nil) (fun _ _ _ _ _ => (pe_op op_shlW (pe_op op_and (pe_op op_shr (pv 0) (pv 3)) pe_int) (pv 2)))) pa_nil)))), ?_⟩
  walk_at "s0"
  have ow := Own.start H
  have ll : (nI ps).length = ps.length := by unfold nI; rw [List.length_map]
  walk_at "go"
  refine r_lc ?_
  walk_at "go"
  refine ⟨a, _, rfl, sq, ?_⟩
  refine c_lcG ps.length (by omega) (fun D i acc H' => acc = ((klI c ps).take i).map V.int ∧ Own H H' [(D, .lst acc)]) (fun D nD => ⟨rfl, ow.new nD⟩) ?_ ?_ ?_ ?_
  · rintro D i acc H1 ⟨rfl, ow2⟩ hi
    exact ite_go (ow2.toSame.seq sq) (by rw [ll]; exact hi)
  · rintro D acc H1 ⟨rfl, ow2⟩
    rw [← ll]
    exact ite_stop (ow2.toSame.seq sq)
  · rintro D i acc H1 x H2 R Z hi la ⟨rfl, ow2⟩ ⟨T, y, rfl, nT, rfl, hy⟩ hR hZ
    have hx := hy _ (ow2.toSame.seq sq)
    obtain ⟨p, hp⟩ : ∃ p, ps[i]? = some p := ⟨_, List.getElem?_eq_getElem hi⟩
    rw [show (nI ps)[i]? = some (.int (p : Nat)) by unfold nI; rw [List.getElem?_map, hp]; rfl] at hx
    cases hx
    clear ow
    have ow := ow2.new (o := .tup [.int ((i : Nat) : Int), .int ((p : Nat) : Int)]) nT
    refine g_two (SqT.of (ow.get 0 rfl)) ⟨rfl, tt_yes ?_⟩
    replace ow := ow.drop
    rw [if_pos rfl]
    have b0 : 0 ≤ Builtin.bitAnd ((c : Int) / 2 ^ ((p : Nat) : Int).toNat) 1 := by rw [bitAnd_m1]; omega
    have b1 : Builtin.bitAnd ((c : Int) / 2 ^ ((p : Nat) : Int).toNat) 1 < 2 := by rw [bitAnd_m1]; omega
    walk_at "go"
    rw [kl_val]
    refine hR _ _ (ow.get 0 rfl) ⟨?_, ow.put 0 rfl⟩
    rw [klI_snoc hp, List.map_append]
    rfl
  · rintro D acc H1 nD ⟨rfl, ow2⟩ la
    clear ow
    rw [← klI_len (c := c), List.take_length] at ow2
    refine r_sum (SqL.of (ow2.get 0 rfl)) ?_
    rw [klI_sum]
    exact q _ ow2.toSame_of
end

/-! texts in lists: in, index, sorted -/
theorem notIn_K {X : Cx} {K : PySem.W.Frag} (h : X.K = K) : OpR X (compareOp .NotIn) (rIn K true) := h ▸ op_notIn_seq
theorem in_K {X : Cx} {K : PySem.W.Frag} (h : X.K = K) : OpR X (compareOp .In) (rIn K false) := h ▸ op_in_seq
theorem index_K {X : Cx} {K : PySem.W.Frag} (h : X.K = K) : MtR X "list.index" (rIndex K) := h ▸ mt_index
theorem bm_K {X : Cx} {K : PySem.W.Frag} {e : Expr} {T : String} {r : V → List V → Hp → VK → Prop} {to : TE} {t : TA} (h : X.K = K) (p : PE X e (tBM X.K T r to t)) : PE X e (tBM K T r to t) := by
  subst h
  exact p
theorem inV_strs (x : Str) : ∀ ns : List Str, inV (.str x) (ns.map V.str) = decide (x ∈ ns)
  | [] => rfl
  | k :: ks => by
    have ih := inV_strs x ks
    unfold inV at ih ⊢
    rw [List.map_cons, List.any_cons, ih]
    have e : eqV (.str k) (.str x) = decide (k = x) := rfl
    rw [e]
    by_cases h1 : k = x
    · subst h1; simp
    · by_cases h2 : x ∈ ks
      · simp [h2]
      · simp [h1, h2, Ne.symm h1]
theorem flat_strs : ∀ ns : List Str, (ns.map V.str).all flatV = true
  | [] => rfl
  | k :: ks => by rw [List.map_cons, List.all_cons, flat_strs ks]; rfl
section
variable {K : PySem.W.Frag} {F H : Hp} {L : List (Addr × HO)} {a : Addr} {ns : List Str} {x : Str} {Q : VK}
theorem r_inS {neg : Bool} (s : SqE K H a (ns.map V.str)) (k : Q (.bl (if neg then !decide (x ∈ ns) else decide (x ∈ ns))) H) : rIn K neg (.str x) (.ref a) H Q :=
  ⟨a, _, rfl, s, rfl, flat_strs ns, by rw [inV_strs]; exact k⟩
theorem r_niS (s : SqE K H a (ns.map V.str)) (k : Q (.bl (!decide (x ∈ ns))) H) : rIn K true (.str x) (.ref a) H Q := r_inS s k
theorem r_isS (s : SqE K H a (ns.map V.str)) (k : Q (.bl (decide (x ∈ ns))) H) : rIn K false (.str x) (.ref a) H Q := r_inS s k
theorem r_idxS (s : SqL K H a (ns.map V.str)) (m : x ∈ ns) (k : Q (.int (ns.idxOf x : Nat)) H) : rIndex K (.ref a) [.str x] H Q := by
  have l := List.idxOf_lt_length_of_mem m
  refine ⟨a, _, .str x, ns.idxOf x, .str x, rfl, rfl, s, rfl, flat_strs ns, ?_, by show (x == x) = true; simp, fun j z hj hz => ?_, k⟩
  · rw [List.getElem?_map, List.getElem?_eq_getElem l, List.getElem_idxOf]
    rfl
  · rw [List.getElem?_map, List.getElem?_eq_getElem (by omega)] at hz
    cases hz
    show (ns[j] == x) = false
    have := List.not_of_lt_findIdx (p := (· == x)) (xs := ns) hj
    simpa using this
theorem c_bmF {r : V → List V → Hp → VK → Prop} {t : TA} {σ : L2.St} {xs : List V} (s : SqL K H a xs) (k : t σ H fun vs H2 => r (.ref a) vs H2 Q) : cBM K "list" r t σ Q (.ref a) H := ⟨Or.inl ⟨rfl, xs, s⟩, k⟩
theorem r_sortS (h : Own F H L) (s : SqL K H a (ns.map V.str)) (l : ns.length < 64) (k : ∀ (ys : List Str) (p : Addr) (H' : Hp), ys.Perm ns → sortedS ys = true → H p = none → Own F H' ((p, .lst (ys.map V.str)) :: L) → Q (.ref p) H') : rSortedS K [.ref a] H Q :=
  ⟨a, ns, rfl, s, l, fun ys p h1 h2 h3 => k ys p _ h1 h2 h3 (h.new h3)⟩
end

/-! other names: what is known, more names, exchanged names -/


def sp_known (K : PySem.W.Frag) (I : Addr) : Sp := fun vs H Q E => ∃ (a b : Addr) (ns ms : List Str), vs = [.ref a, .ref b] ∧ SqL K H a (ns.map V.str) ∧ SqL K H b (ms.map V.str) ∧ ((∀ x ∈ ns, x ∈ ms) → ∀ H', Same H H' → Q .non H') ∧
  (∀ (i : Nat) x, ns[i]? = some x → x ∉ ms → (∀ (j : Nat) y, j < i → ns[j]? = some y → y ∈ ms) → ∀ d H', Same H H' → H d = none → H' d = some (.xd [("value", .str x)]) → E (.ref I) (some d) H')
/-- places of names among names -/
def plc (ns ms : List Str) : List Nat := ns.map fun x => ms.idxOf x
def sp_widened (K : PySem.W.Frag) (CS : Addr) : Sp := fun vs H Q _ => ∃ (p b : Addr) (ns ms : List Str) (T : Tab), vs = [.ref p, .ref b] ∧ SolAt K CS H p ns T ∧ SqL K H b (ms.map V.str) ∧ okN ms = true ∧ (∀ x ∈ ns, x ∈ ms) ∧
  ∀ M p' H', IsLeast (2 ^ ms.length) (pickT (plc ns ms) (2 ^ ms.length) T) M → M.length ≤ T.length → H p' = none → Same H H' → (∀ F2, Same (newF H H') F2 → SolAt K CS F2 p' ms M) → Q (.ref p') H'
theorem kl_pad {ns ms : List Str} (c : Nat) : kl (plc ns ms) c < 2 ^ ns.length := by
  have := kl_lt (ps := plc ns ms) (c := c)
  unfold plc at this ⊢
  rw [List.length_map] at this
  exact this
theorem plc_snoc {ns ms : List Str} {i : Nat} {y : Str} (h : ns[i]? = some y) : (plc ns ms).take (i + 1) = (plc ns ms).take i ++ [ms.idxOf y] := by
  rw [List.take_succ]
  unfold plc
  rw [List.getElem?_map, h]
  rfl
section
variable {P : Program} {w : World} {K : PySem.W.Frag} {mg : Str → Option Value} {base : Heap} {CS aInvalidNames aInvalidTable aUnknownName f : Addr} {fd : FuncData}
theorem ok_check_known (F : FnP K "check_known" "check_known" s_check_known f fd) (B : Bi mg) (x_UnknownName : Xc P w K mg base "UnknownName" aUnknownName) : FnOk P w K mg base (L2.CX P w) 3 f fd ["names", "known"] (sp_known K aUnknownName) := by
  refine F.ok sc_check_known (fun vs H Q E h => by walk_at "len") (fun cdv A outer s H vs Q E hr h => ?_)
  have nd := sc_check_known.nd
  obtain ⟨a, b, ns, ms, rfl, sa, sb, q1, q2⟩ := h
  refine ⟨_, pss_one (ps_for (passes_of rfl) rfl (pi_list (pv 0)) (pg_name (i := 2) nd rfl (.inl rfl))
      (pss_one (ps_if (pt_cmpR op_notIn_seq (pv 2) (pv 1) rfl) (pss_one (ps_rx rfl (takes_of rfl rfl rfl rfl) x_UnknownName hr (by decide) (pa_cons (pv 2) pa_nil) (mo_cons mo_var mo_nil))) pss_nil))), ?_⟩
  walk_at "s0"
  have ll : (ns.map V.str).length = ns.length := List.length_map _
  walk_at "go"
  refine c_ilS sa ?_
  refine for_list (fun i σ' H' => ∃ u : Option V, σ' = [some (.ref a), some (.ref b), u] ∧ Same H H' ∧ ∀ (j : Nat) y, j < i → ns[j]? = some y → y ∈ ms) ⟨_, rfl, Same.refl H, fun j y hj => absurd hj (Nat.not_lt_zero j)⟩ (fun i σ' H' _ ⟨u, e, s, z⟩ => s.seq sa) ?_ ?_
  · rintro i x σ' H1 hx ⟨u, rfl, s, z⟩
    rw [List.getElem?_map] at hx
    obtain ⟨y, hy, rfl⟩ := Option.map_eq_some_iff.mp hx
    have ow := Own.start H1
    walk_at "go"
    refine r_niS (.inl (s.seq sb)) ?_
    by_cases hm : y ∈ ms
    · rw [decide_eq_true hm]
      walk_at "go"
      refine ⟨s, fun j z' hj hz => ?_⟩
      by_cases e : j = i
      · subst e
        rw [hy] at hz
        cases hz
        exact hm
      · exact z j z' (by omega) hz
    · rw [decide_eq_false hm]
      walk_at "go"
      exact q2 i y hy hm z dX _ (s.trans ow.toSame_of) (same_none s (ow.new0 g0)) (ow.get 0 rfl)
  · rintro σ' H1 ⟨u, rfl, s, z⟩
    walk_at "go"
    exact q1 (fun x hx => by
      obtain ⟨j, hj, rfl⟩ := List.mem_iff_getElem.mp hx
      exact z j _ (by rw [ll]; exact hj) (List.getElem?_eq_getElem hj)) H1 s
theorem ok_widened (F : FnP K "widened" "widened" s_widened f fd) (B : Bi mg) (c_check_names : Fo P w K mg base (L2.CX P w) 3 "check_names" ["names"] (sp_names K aInvalidNames)) (c_check_known : Fo P w K mg base (L2.CX P w) 3 "check_known" ["names", "known"] (sp_known K aUnknownName)) (p_names : PrC P w K mg base CX0 CS "names" 1 (sp_Snames K CS)) (c_kept_letter : Fo P w K mg base CX0 1 "kept_letter" ["letter", "places"] (sp_klet K)) (c_Solutions : ClX P w K mg base "Solutions" CS 6 ["self", "names", "table"] (sp_Sol_init K CS aInvalidNames aInvalidTable)) (clS : Cls K CS) (nSr : NoAttr K CS "rooms") : FnOk P w K mg base (L2.CX P w) 9 f fd ["solutions", "names"] (sp_widened K CS) := by
  refine F.ok sc_widened (fun vs H Q E h => by walk_at "len") (fun cdv A outer s H vs Q E hr h => ?_)
  have nd := sc_widened.nd
  obtain ⟨p, b, ns, ms, T, rfl, so, sm, okm, hsub, q⟩ := h
  have l3 := so.l3
  have m3 := (okN_len okm).2
  have o1 := okN_one okm
  refine ⟨_, pss_cons (ps_expr (pe_fx c_check_names hr (by decide) (fun σ => passAt (takes_of rfl rfl rfl rfl) σ) (pa_cons (pv 1) pa_nil)))
      (pss_cons (ps_expr (pe_fx c_check_known hr (by decide) (fun σ => passAt (takes_of rfl rfl rfl rfl) σ) (pa_cons (pe_wp p_names hr (by decide) (pv 0)) (pa_cons (pv 1) pa_nil))))
      (pss_cons (ps_set (i := 2) nd rfl (Or.inr rfl) (pe_lc (own := [("name", 3)]) (g := gName 3) (tt := tYes) (by rfl) nd (pi_list (pe_wp p_names hr (by decide) (pv 0))) (blkOk_by (own := [("name", 3)]) (N := ["solutions", "names", "places", "name", "kept", "letter", "room"]) (sc := defScope s_widened) (by decide +kernel)) (fun _ _ _ _ _ => pg_name (i := 3) nd rfl (Or.inl rfl)) (fun _ _ _ _ _ => pts_nil) (fun _ _ _ _ _ => (bm_K (K := K) rfl (pe_bm PySem.F.plainAttrs_list PySem.F.slot_list_index PySem.F.type_list_index (index_K (K := K) rfl) (pv 1) (pa_cons (pv 3) pa_nil))))))
      (pss_cons (ps_set (i := 4) nd rfl (Or.inr rfl) (pe_lc (own := [("letter", 5)]) (g := gName 5) (tt := tYes) (by rfl) nd (pi_range1 rfl B.range (pa_cons (pe_op op_shlW pe_int (pe_callB cb_len rfl B.len (by decide +kernel) (pa_cons (pv 1) pa_nil))) pa_nil)) (blkOk_by (own := [("letter", 5)]) (N := ["solutions", "names", "places", "name", "kept", "letter", "room"]) (sc := defScope s_widened) (by decide +kernel)) (fun _ _ _ _ _ => pg_name (i := 5) nd rfl (Or.inl rfl)) (fun _ _ _ _ _ => pts_nil) (fun _ _ _ _ _ => (pe_fo c_kept_letter hr (by decide) (pa_cons (pv 5) (pa_cons (pv 2) pa_nil))))))
      (pss_one (ps_ret (pe_mkCX c_Solutions hr (by decide) (fun σ => passAt (takes_of rfl rfl rfl rfl) σ) (pa_cons (pv 1) (pa_cons (pe_lc (own := [("room", 6)]) (g := gName 6) (tt := tYes) (by rfl) nd (pi_list (pe_fld (pv 0) rfl)) (blkOk_by (own := [("room", 6)]) (N := ["solutions", "names", "places", "name", "kept", "letter", "room"]) (sc := defScope s_widened) (by decide +kernel)) (fun _ _ _ _ _ => pg_name (i := 6) nd rfl (Or.inr rfl)) (fun _ _ _ _ _ => pts_nil) (fun _ _ _ _ _ => (pe_lc (own := [("letter", 5)]) (g := gName 5) (tt := tYes) (by rfl) nd (piL_K (K := K) rfl (pv 4)) (blkOk_by (own := [("letter", 5)]) (by kernel_rfl)) (fun _ _ _ _ _ => pg_name (i := 5) nd rfl (Or.inl rfl)) (fun _ _ _ _ _ => pts_nil) (fun _ _ _ _ _ => (pe_ix (ixL_K (K := K) rfl) (pv 6) (pv 5) (fun _ _ => rfl)))))) pa_nil)))))))), ?_⟩
  walk_at "s0"
  have ow := Own.start H
  walk_at "go"
  refine ⟨b, ms, rfl, .inl sm, by omega, fun x hx => by rw [o1 x hx]; decide, fun _ H1 s1 => ?_, fun z => by rw [okm] at z; cases z⟩
  replace ow := ow.same s1
  walk_at "go"
  refine ⟨pN, b, ns, ms, rfl, SqL.of (ow.get 0 rfl), ow.toSame.seq sm, fun _ H2 s2 => ?_, fun i x hx nx _ => absurd (hsub x (List.mem_of_getElem? hx)) nx⟩
  replace ow := (ow.same s2).drop
  walk_at "go"
  obtain ⟨dx, t, r, ep, st, tt⟩ := so.at_
  obtain ⟨vs, sq, ra⟩ := id tt
  have lv := ra.length
  have lT := so.len
  have lns : (ns.map V.str).length = ns.length := List.length_map _
  have lms : (ms.map V.str).length = ms.length := List.length_map _
  have p8 : 2 ^ ms.length ≤ 8 := Nat.le_trans (Nat.pow_le_pow_right (by decide) m3) (by decide)
  refine r_lc ?_
  walk_at "go"
  refine c_lcJ ns.length (by omega) (fun _ => rfl) (fun D i acc H' => acc = nI ((plc ns ms).take i) ∧ Own H H' [(D, .lst acc), (pN, .lst (ns.map V.str))]) (fun D nD => ⟨rfl, ow.new nD⟩) ?_ ?_ ?_ ?_
  · rintro D i acc H3 ⟨rfl, ow2⟩ hi
    exact itl_go (SqL.of (ow2.get 1 rfl)) (by rw [lns]; exact hi)
  · rintro D acc H3 ⟨rfl, ow2⟩
    have z := itl_stop (SqL.of (K := K) (ow2.get 1 rfl))
    rw [lns] at z
    exact z
  · rintro D i acc H3 x H4 R hi la ⟨rfl, ow2⟩ ⟨rfl, hy⟩ hR
    clear ow
    have ow := ow2
    have hx := hy _ (SqL.of (ow.get 1 rfl))
    obtain ⟨y, hy2⟩ : ∃ y, ns[i]? = some y := ⟨_, List.getElem?_eq_getElem hi⟩
    rw [List.getElem?_map, hy2] at hx
    cases hx
    have my := hsub y (List.mem_of_getElem? hy2)
    walk_at "go"
    refine c_bmF (ow.toSame.seq sm) ?_
    walk_at "go"
    refine r_idxS (ow.toSame.seq sm) my ?_
    refine hR _ _ (ow.get 0 rfl) ⟨?_, ow.put 0 rfl⟩
    rw [plc_snoc hy2]
    unfold nI
    rw [List.map_append]
    rfl
  rintro D acc H3 nD ⟨rfl, ow2⟩ la
  rw [show (plc ns ms).take ns.length = plc ns ms from List.take_of_length_le (by unfold plc; rw [List.length_map]; exact Nat.le_refl _)] at ow2
  clear ow
  obtain ⟨ow3, f3⟩ := ow2.frz
  have ow := ow3.drop
  have spl : SqL K (upd H D (.lst (nI (plc ns ms)))) D (nI (plc ns ms)) := SqL.of upd_same
  generalize upd H D (.lst (nI (plc ns ms))) = F6 at f3 ow spl
  clear ow2 ow3 la
  have sm6 := f3.seq sm
  walk_at "go"
  refine r_lc ?_
  walk_at "go"
  rw [lms, two_pow]
  refine ⟨Int.le_trans (by decide) (Int.natCast_nonneg _), Int.lt_of_le_of_lt (Int.ofNat_le.mpr p8) (by decide), ?_⟩
  rw [Int.toNat_natCast]
  refine c_lcR (fun c => .int (kl (plc ns ms) c : Nat)) ow (by omega) (fun _ => rfl) ?_ ?_
  · intro i E H4 R hi ow5 hR
    clear ow
    have ow := ow5
    walk_at "go"
    refine ⟨D, i, plc ns ms, by rw [Int.zero_add]; rfl, ow.toSame.seq spl, by omega, by unfold plc; rw [List.length_map]; omega, fun H5 s5 => ?_⟩
    exact hR _ (ow.same s5)
  intro E H4 nE ow5
  clear ow
  obtain ⟨ow6, f6⟩ := ow5.frz
  have ow := ow6
  have skp : SqL K (upd F6 E (.lst ((List.range (2 ^ ms.length)).map fun c => .int (kl (plc ns ms) c : Nat)))) E ((List.range (2 ^ ms.length)).map fun c => .int (kl (plc ns ms) c : Nat)) := SqL.of upd_same
  generalize upd F6 E (.lst ((List.range (2 ^ ms.length)).map fun c => .int (kl (plc ns ms) c : Nat))) = F7 at f6 ow skp
  clear ow5 ow6
  have lkp : ((List.range (2 ^ ms.length)).map fun c => V.int (kl (plc ns ms) c : Nat)).length = 2 ^ ms.length := by rw [List.length_map, List.length_range]
  have s7 := f3.trans f6
  have sq := s7.seq sq
  have ra := ra.same s7
  have snm := s7.seq sm
  have ep7 := s7 _ _ ep
  walk_at "go"
  refine r_lc ?_
  walk_at "go"
  refine c_ilS (ow.toSame.seq sq) ?_
  refine c_lcJ vs.length (by omega) (fun _ => rfl) (fun D i acc H' => ∃ F', Same F7 F' ∧ Own F' H' [(D, .lst acc)] ∧ RoomsAt K F' acc ((pickT (plc ns ms) (2 ^ ms.length) T).take i)) (fun D nD => ⟨F7, Same.refl F7, ow.new nD, .nil⟩) ?_ ?_ ?_ ?_
  · rintro D i acc H1 ⟨F', sF', ow2, rs⟩ hi
    exact itl_go ((sF'.trans ow2.toSame).seq sq) hi
  · rintro D acc H1 ⟨F', sF', ow2, rs⟩
    exact itl_stop ((sF'.trans ow2.toSame).seq sq)
  · rintro D i acc H1 x H2 R hi la ⟨F', sF', ow2, rs⟩ ⟨rfl, hy⟩ hR
    clear ow
    have ow := ow2
    have hx := hy _ ((sF'.trans ow.toSame).seq sq)
    obtain ⟨rr, hr⟩ : ∃ r, T[i]? = some r := ⟨_, List.getElem?_eq_getElem (by omega)⟩
    obtain ⟨v, hv, ar, rfl, sr⟩ := ra.at hr
    rw [hx] at hv
    cases hv
    have lrr := so.can.rows rr (List.mem_of_getElem? hr)
    have et : (pickT (plc ns ms) (2 ^ ms.length) T).take (i + 1) = (pickT (plc ns ms) (2 ^ ms.length) T).take i ++ [(List.range (2 ^ ms.length)).map fun c => rr[kl (plc ns ms) c]?.getD none] := by
      rw [List.take_succ]
      unfold pickT
      rw [List.getElem?_map, hr]
      rfl
    walk_at "go"
    refine r_lc ?_
    walk_at "go"
    refine c_ilS ((sF'.trans ow.toSame).seq skp) ?_
    refine c_lcJ (2 ^ ms.length) (by omega) (fun _ => rfl) (fun E j acc2 H' => acc2 = (((List.range (2 ^ ms.length)).map fun c => rr[kl (plc ns ms) c]?.getD none).take j).map vO ∧ Own F' H' [(E, .lst acc2), (D, .lst acc)]) (fun E nE => ⟨rfl, ow.new nE⟩) ?_ ?_ ?_ ?_
    · rintro E j acc2 H3 ⟨rfl, ow3⟩ hj
      exact itl_go ((sF'.trans ow3.toSame).seq skp) (by rw [lkp]; exact hj)
    · rintro E acc2 H3 ⟨rfl, ow3⟩
      have z := itl_stop ((sF'.trans ow3.toSame).seq skp)
      rw [lkp] at z
      exact z
    · rintro E j acc2 H3 x3 H4 R3 hj la3 ⟨rfl, ow3⟩ ⟨rfl, hy3⟩ hR3
      clear ow
      have ow := ow3
      have hx3 := hy3 _ ((sF'.trans ow.toSame).seq skp)
      rw [List.getElem?_map, List.getElem?_range hj] at hx3
      cases hx3
      have ll : kl (plc ns ms) j < rr.length := by rw [lrr]; exact kl_pad j
      have sr3 := (sF'.trans ow.toSame).seq sr
      have hat : atI (rr.map vO) ((kl (plc ns ms) j : Nat) : Int) = some (vO (rr[kl (plc ns ms) j]?.getD none)) := at_nat rfl (by
        rw [List.getElem?_map, List.getElem?_eq_getElem ll]
        rfl)
      walk_at "go"
      refine hR3 _ _ (ow.get 0 rfl) ⟨?_, ow.put 0 rfl⟩
      rw [List.take_succ, List.getElem?_map, List.getElem?_range hj, List.map_append]
      rfl
    · rintro E acc2 H3 nE ⟨rfl, ow3⟩ la3
      rw [show (((List.range (2 ^ ms.length)).map fun c => rr[kl (plc ns ms) c]?.getD none).take ((2 ^ ms.length))) = (List.range (2 ^ ms.length)).map fun c => rr[kl (plc ns ms) c]?.getD none from List.take_of_length_le (by rw [List.length_map, List.length_range]; exact Nat.le_refl _)] at ow3
      obtain ⟨f1, f2⟩ := (ow3.put 1 rfl (o := .lst (acc ++ [.ref E]))).frz
      refine hR _ _ (ow3.get 1 rfl) ⟨_, sF'.trans f2, f1, ?_⟩
      rw [et]
      exact RoomsAt.snoc ⟨E, rfl, SqL.of upd_same⟩ (rs.same f2)
  rintro tb us H1 ntb ⟨F8, sF8, ow8, rs⟩ la
  rw [lv, show (pickT (plc ns ms) (2 ^ ms.length) T).take T.length = pickT (plc ns ms) (2 ^ ms.length) T from List.take_of_length_le (by rw [pick_len]; exact Nat.le_refl _)] at rs
  clear ow
  have ow := ow8
  walk_at "go"
  refine cMk_T (isT := false) ((sF8.trans ow.toSame).seq snm) okm ⟨us, SqL.of (ow.get 0 rfl), rs.same ow.toSame⟩ (pick_tin so.can.tin) pick_rows (by rw [pick_len]; exact so.len) ?_
  intro M p2 H5 il ll np1 s5 so2
  rw [pick_len] at ll
  have sH := s7.trans (sF8.trans ow.toSame)
  exact q M p2 H5 il ll (same_none sH np1) (sH.trans s5) fun F2 sN => so2 F2 ((newF_pre sH).trans sN) fun z => by cases z
end

/-! names exchanged -/

/-- tuples of two texts -/
def PrsAt (K : PySem.W.Frag) (H : Hp) (vs : List V) (prs : List (Str × Str)) : Prop := vs.length = prs.length ∧ ∀ (i : Nat) pr, prs[i]? = some pr → ∃ t, vs[i]? = some (.ref t) ∧ SqT K H t [.str pr.1, .str pr.2]
theorem PrsAt.same {K : PySem.W.Frag} {H H' : Hp} {vs : List V} {prs : List (Str × Str)} (h : PrsAt K H vs prs) (s : Same H H') : PrsAt K H' vs prs := ⟨h.1, fun i pr e => by
  obtain ⟨t, g, k⟩ := h.2 i pr e
  exact ⟨t, g, sqT_same s k⟩⟩
/-- the later name -/
def chg (prs : List (Str × Str)) (x : Str) : Str := (prs.reverse.lookup x).getD x
def kvsQ : List (Str × Str) → List (Key × V)
  | [] => []
  | pr :: q => putK (kvsQ q) (.inr pr.1) (.str pr.2)
def kvsP (prs : List (Str × Str)) : List (Key × V) := kvsQ prs.reverse
theorem kvsP_snoc (prs : List (Str × Str)) (pr : Str × Str) : kvsP (prs ++ [pr]) = putK (kvsP prs) (.inr pr.1) (.str pr.2) := by
  unfold kvsP
  rw [List.reverse_append]
  rfl
theorem kvsQ_len : ∀ q : List (Str × Str), (kvsQ q).length ≤ q.length
  | [] => Nat.le_refl _
  | pr :: q => by
    have := length_putK (kvsQ q) (.inr pr.1) (.str pr.2)
    have := kvsQ_len q
    show (putK (kvsQ q) (.inr pr.1) (.str pr.2)).length ≤ q.length + 1
    omega
theorem kvsQ_val (x : Str) : ∀ q : List (Str × Str), valV (kvsQ q) (.inr x) = (q.lookup x).map V.str
  | [] => rfl
  | (o, l) :: q => by
    show valV (putK (kvsQ q) (.inr o) (.str l)) (.inr x) = _
    rw [valV_put, kvsQ_val x q, List.lookup_cons]
    by_cases e : x = o
    · subst e
      simp
    · rw [if_neg (show ¬ (Sum.inr x : Key) = Sum.inr o from fun z => e (Sum.inr.inj z))]
      rw [show (x == o) = false by simpa using e]
theorem chg_val (prs : List (Str × Str)) (x : Str) : (valV (kvsP prs) (.inr x)).getD (.str x) = .str (chg prs x) := by
  unfold kvsP chg
  rw [kvsQ_val]
  cases prs.reverse.lookup x <;> rfl
section
variable {K : PySem.W.Frag} {F H : Hp} {L : List (Addr × HO)} {a : Addr} {σ : L2.St} {Q : VK}
def cDc (g : TG) (tt : TT) (tk tv : TE) (vs : List Nat) (σ : L2.St) (Q : VK) (J : It) (H1 : Hp) : Prop := ∀ D, H1 D = none → ∃ W : Nat → Nat → Hp → Prop, (∃ m, W 0 m (upd H1 D (.dK []))) ∧ ∀ i m H, W i m H →
  (J.stop i H ∧ Q (.ref D) H) ∨ (J.go i H ∧ ∃ Nx : Hp → Prop, (∀ H', Nx H' → ∃ m', m' < m ∧ W (i + 1) m' H') ∧ ∀ x H', J.yld i H x H' → g x (wipe σ vs) H' fun σ2 H2 => wipe σ2 vs = wipe σ vs ∧ tt σ2 H2 fun b H3 =>
    if b = true then tk σ2 H3 fun y H4 => tv σ2 H4 fun z H5 => ∃ kvs k, y = kV k ∧ H5 D = some (.dK kvs) ∧ kvs.length < sizeLine ∧ Nx (upd H5 D (.dK (putK kvs k z))) else Nx H3)
theorem r_dc {wi : TI} {g : TG} {tt : TT} {tk tv : TE} {vs : List Nat} (k : wi σ H (cDc g tt tk tv vs σ Q)) : tDc wi g tt tk tv vs σ H Q := k
/-- a dict comprehension over anything -/
theorem c_dcG {g : TG} {tt : TT} {tk tv : TE} {vs : List Nat} {J : It} (n : Nat) (hn : n ≤ 1000000) (Pv : Addr → Nat → List (Key × V) → Hp → Prop) (h0 : ∀ D, H D = none → Pv D 0 [] (upd H D (.dK [])))
    (hgo : ∀ D i acc H, Pv D i acc H → i < n → J.go i H) (hst : ∀ D acc H, Pv D n acc H → J.stop n H)
    (step : ∀ D i acc H x H' (R : V → V → Hp → Prop), i < n → acc.length ≤ i → Pv D i acc H → J.yld i H x H' → (∀ k z H4, H4 D = some (.dK acc) → Pv D (i + 1) (putK acc k z) (upd H4 D (.dK (putK acc k z))) → R (kV k) z H4) →
      g x (wipe σ vs) H' fun σ2 H2 => wipe σ2 vs = wipe σ vs ∧ tt σ2 H2 fun b H3 => b = true ∧ tk σ2 H3 fun y H4 => tv σ2 H4 fun z H5 => R y z H5)
    (mono : ∀ x σ' H' (A B : L2.St → Hp → Prop), (∀ σ2 H2, A σ2 H2 → B σ2 H2) → g x σ' H' A → g x σ' H' B) (monoT : ∀ σ' H' (A B : Bool → Hp → Prop), (∀ b H2, A b H2 → B b H2) → tt σ' H' A → tt σ' H' B)
    (k : ∀ D acc H', H D = none → Pv D n acc H' → acc.length ≤ n → Q (.ref D) H') : cDc g tt tk tv vs σ Q J H := by
  intro D hD
  refine ⟨fun i m H' => m = n - i ∧ i ≤ n ∧ ∃ acc, acc.length ≤ i ∧ Pv D i acc H', ⟨n, by simp, Nat.zero_le _, [], Nat.le_refl _, h0 D hD⟩, ?_⟩
  rintro i m H1 ⟨rfl, hi, acc, la, p⟩
  by_cases hlt : i < n
  · refine .inr ⟨hgo D i acc H1 p hlt, fun H' => ∃ acc, acc.length ≤ i + 1 ∧ Pv D (i + 1) acc H', fun H' ⟨acc, la, p⟩ => ⟨n - (i + 1), by omega, rfl, hlt, acc, la, p⟩, fun x H' y => ?_⟩
    refine mono _ _ _ _ _ (fun σ2 H2 z => ⟨z.1, monoT _ _ _ _ (fun b H3 w => by rw [if_pos w.1]; exact w.2) z.2⟩) (step D i acc H1 x H' (fun y z H5 => ∃ kvs k, y = kV k ∧ H5 D = some (.dK kvs) ∧ kvs.length < sizeLine ∧ ∃ acc, acc.length ≤ i + 1 ∧ Pv D (i + 1) acc (upd H5 D (.dK (putK kvs k z)))) hlt la p y ?_)
    intro k z H4 eD q
    have := length_putK acc k z
    exact ⟨acc, k, rfl, eD, Nat.lt_of_le_of_lt la (Nat.lt_of_lt_of_le hlt (Nat.le_trans hn (by decide))), _, by omega, q⟩
  · have e : i = n := by omega
    subst e
    exact .inl ⟨hst D acc H1 p, k D acc H1 hD p la⟩
theorem two_mono {i j : Nat} (x : V) (σ' : L2.St) (H' : Hp) (A B : L2.St → Hp → Prop) (m : ∀ σ2 H2, A σ2 H2 → B σ2 H2) (h : gTup K 2 (gCons (gName i) (gCons (gName j) gNil)) x σ' H' A) : gTup K 2 (gCons (gName i) (gCons (gName j) gNil)) x σ' H' B := by
  obtain ⟨p, xs, e, s, l, v, r, e1, w, r2, e2, e3, k⟩ := h
  exact ⟨p, xs, e, s, l, v, r, e1, w, r2, e2, e3, m _ _ k⟩
theorem yes_mono (σ' : L2.St) (H' : Hp) (A B : Bool → Hp → Prop) (m : ∀ b H2, A b H2 → B b H2) (h : tYes σ' H' A) : tYes σ' H' B := m _ _ h
def cD2 (ty tx : TE) (σ : L2.St) (Q : VK) (x : V) (H1 : Hp) : Prop := ∃ a, x = .ref a ∧ IsD H1 a ∧ ty σ H1 fun y H2 => tx σ H2 fun z H3 => ∃ o, DGet H3 a y o ∧ Q (o.getD z) H3
theorem c_d2 {ty tx : TE} {kvs : List (Key × V)} (e : H a = some (.dK kvs)) (k : ty σ H fun y H2 => tx σ H2 fun z H3 => ∃ o, DGet H3 a y o ∧ Q (o.getD z) H3) : cD2 ty tx σ Q (.ref a) H := ⟨a, rfl, .inl ⟨kvs, .of e⟩, k⟩
theorem r_dget2 {td ty tx : TE} (k : td σ H (cD2 ty tx σ Q)) : tDGet2 td ty tx σ H Q := k
end
theorem isL_one {x : Str} (h : isL x = true) : x.length = 1 := by
  unfold isL at h
  exact of_decide_eq_true (ban h).1
theorem isL_cp {x : Str} (h : isL x = true) : ∃ c, x = ⟨#[c]⟩ := by
  obtain ⟨⟨l⟩⟩ := x
  have l1 : l.length = 1 := isL_one h
  obtain ⟨c, rfl⟩ := List.length_eq_one_iff.mp l1
  exact ⟨c, rfl⟩
theorem rising_at : ∀ {r : List Str} {p a b : Str} {i : Nat}, risingS p r = true → (p :: r)[i]? = some a → (p :: r)[i + 1]? = some b → ltCps b.cps.toList a.cps.toList = false
  | [], p, a, b, i, _, _, h => by simp at h
  | x :: r, p, a, b, 0, h, h1, h2 => by
    cases h1
    cases h2
    have := (ban h).1
    simpa using this
  | x :: r, p, a, b, i + 1, h, h1, h2 => rising_at (ban h).2 (by simpa using h1) (by simpa using h2)
theorem okN_sorted {ys : List Str} (h : sortedS ys = true) (nd : ys.Nodup) (hl : ∀ x ∈ ys, isL x = true) (l1 : 1 ≤ ys.length) (l3 : ys.length ≤ 3) : okN ys = true := by
  unfold okN
  rw [decide_eq_true l1, decide_eq_true l3, Bool.true_and, Bool.true_and, List.all_eq_true]
  intro i hi
  have hi := List.mem_range.mp hi
  unfold okAt
  rw [List.getElem?_eq_getElem hi]
  show (isL ys[i] && _) = true
  rw [hl _ (List.getElem_mem hi), Bool.true_and]
  by_cases z : i = 0
  · rw [decide_eq_true z, Bool.true_or]
  · have h2 : i - 1 < ys.length := by omega
    rw [decide_eq_false z, Bool.false_or, List.getElem?_eq_getElem h2]
    show ltS ys[i - 1] ys[i] = true
    have ne := List.pairwise_iff_getElem.mp nd (i - 1) i h2 hi (by omega)
    have r : ltCps ys[i].cps.toList ys[i - 1].cps.toList = false := by
      cases ys with
      | nil => cases l1
      | cons p r => exact rising_at (i := i - 1) h (List.getElem?_eq_getElem h2) (by rw [show i - 1 + 1 = i by omega]; exact List.getElem?_eq_getElem hi)
    obtain ⟨c, hc⟩ := isL_cp (hl _ (List.getElem_mem h2))
    obtain ⟨d, hd⟩ := isL_cp (hl _ (List.getElem_mem hi))
    rw [hc, hd] at ne r ⊢
    have r2 : ltCps [d] [c] = false := r
    have r3 : ¬ d < c := by
      intro z
      simp [ltCps, z] at r2
    have n2 : c ≠ d := fun z => ne (by rw [z])
    unfold ltS
    refine decide_eq_true ?_
    show [c] < [d]
    rw [lt_one]
    omega
set_option hygiene false in
local macro_rules | `(tactic| walk_at "r1") => `(tactic| first
  | with_reducible refine Bs.r_dc ?_
  | with_reducible refine Bs.r_dget2 ?_)
def sp_renamed (K : PySem.W.Frag) (CS : Addr) : Sp := fun vs H Q _ => ∃ (p b : Addr) (ns : List Str) (T : Tab) (us : List V) (prs : List (Str × Str)), vs = [.ref p, .ref b] ∧ SolAt K CS H p ns T ∧ SqL K H b us ∧ PrsAt K H us prs ∧ prs.length ≤ 60 ∧ (∀ pr ∈ prs, pr.1 ∈ ns) ∧ (∀ x ∈ ns, isL (chg prs x) = true) ∧ (ns.map (chg prs)).Nodup ∧
  ∀ ms M p' H', ms.Perm (ns.map (chg prs)) → sortedS ms = true → okN ms = true → IsLeast (2 ^ ms.length) (pickT (plc (ns.map (chg prs)) ms) (2 ^ ms.length) T) M → M.length ≤ T.length → H p' = none → Same H H' → (∀ F2, Same (newF H H') F2 → SolAt K CS F2 p' ms M) → Q (.ref p') H'
section
variable {P : Program} {w : World} {K : PySem.W.Frag} {mg : Str → Option Value} {base : Heap} {CS aInvalidNames aInvalidTable aUnknownName f : Addr} {fd : FuncData}
theorem ok_renamed (F : FnP K "renamed" "renamed" s_renamed f fd) (B : Bi mg) (c_check_known : Fo P w K mg base (L2.CX P w) 3 "check_known" ["names", "known"] (sp_known K aUnknownName)) (p_names : PrC P w K mg base CX0 CS "names" 1 (sp_Snames K CS)) (c_is_letter : Fo P w K mg base CX0 1 "is_letter" ["name"] (sp_letter)) (x_InvalidNames : Xc P w K mg base "InvalidNames" aInvalidNames) (c_kept_letter : Fo P w K mg base CX0 1 "kept_letter" ["letter", "places"] (sp_klet K)) (c_Solutions : ClX P w K mg base "Solutions" CS 6 ["self", "names", "table"] (sp_Sol_init K CS aInvalidNames aInvalidTable)) (clS : Cls K CS) (nSr : NoAttr K CS "rooms") : FnOk P w K mg base (L2.CX P w) 9 f fd ["solutions", "pairs"] (sp_renamed K CS) := by
  refine F.ok sc_renamed (fun vs H Q E h => by walk_at "len") (fun cdv A outer s H vs Q E hr h => ?_)
  have nd := sc_renamed.nd
  have hu : (A.deeper (envOfC ("renamed" : Str) (defScope s_renamed) s.heap.objs.size f cdv)).units + 1 < cLine := by have := hr.un; omega
  obtain ⟨p, b, ns, T, us, prs, rfl, so, sb, pa, lp, hsub, hlet, nodp, q⟩ := h
  have l3 := so.l3
  obtain ⟨lu, pa2⟩ := id pa
  refine ⟨_, pss_cons (ps_expr (pe_fx c_check_known hr (by decide) (fun σ => passAt (takes_of rfl rfl rfl rfl) σ) (pa_cons (pe_lc (own := [("old", 2), ("later", 3)]) (g := gTup K 2 (gCons (gName 2) (gCons (gName 3) gNil))) (tt := tYes) (by rfl) nd (pi_list (pv 1)) (blkOk_by (own := [("old", 2), ("later", 3)]) (N := ["solutions", "pairs", "old", "later", "changed", "later_names", "name", "index", "names", "places", "kept", "letter", "room"]) (sc := defScope s_renamed) (by decide +kernel)) (fun _ _ _ _ _ => pg_tup rfl (pgs_cons (pg_name (i := 2) nd rfl (Or.inl rfl)) (pgs_cons (pg_name (i := 3) nd rfl (Or.inl rfl)) pgs_nil))) (fun _ _ _ _ _ => pts_nil) (fun _ _ _ _ _ => (pv 2))) (pa_cons (pe_wp p_names hr (by decide) (pv 0)) pa_nil))))
      (pss_cons (ps_set (i := 4) nd rfl (Or.inr rfl) (pe_dc (own := [("old", 2), ("later", 3)]) (g := gTup K 2 (gCons (gName 2) (gCons (gName 3) gNil))) (tt := tYes) (by rfl) nd (pi_list (pv 1)) (blkOk_by (own := [("old", 2), ("later", 3)]) (N := ["solutions", "pairs", "old", "later", "changed", "later_names", "name", "index", "names", "places", "kept", "letter", "room"]) (sc := defScope s_renamed) (by decide +kernel)) (fun _ _ _ _ _ => pg_tup rfl (pgs_cons (pg_name (i := 2) nd rfl (Or.inl rfl)) (pgs_cons (pg_name (i := 3) nd rfl (Or.inl rfl)) pgs_nil))) (fun _ _ _ _ _ => pts_nil) (fun _ _ _ _ _ => (pv 2)) (fun _ _ _ _ _ => (pv 3))))
      (pss_cons (ps_setLc (i := 5) (own := [("name", 6)]) (g := gName 6) (tt := tYes) (by rfl) nd rfl rfl (sw_true rfl rfl rfl rfl) (pi_list (pe_wp p_names hr (by decide) (pv 0))) (blkOk_by (own := [("name", 6)]) (N := ["solutions", "pairs", "old", "later", "changed", "later_names", "name", "index", "names", "places", "kept", "letter", "room"]) (sc := defScope s_renamed) (by decide +kernel)) (fun _ _ _ _ _ => pg_name (i := 6) nd rfl (Or.inl rfl)) (fun _ _ _ _ _ => pts_nil) (fun _ _ _ _ _ => (pe_dget2 hu (pv 4) (pv 6) (pv 6) ⟨rfl, rfl, rfl, rfl⟩)))
      (pss_cons (ps_for (passes_of rfl) rfl (pi_enum rfl B.enumerate (pa_cons (pv 5) pa_nil)) (pg_tup rfl (pgs_cons (pg_name (i := 7) nd rfl (.inl rfl)) (pgs_cons (pg_name (i := 6) nd rfl (.inl rfl)) pgs_nil)))
      (pss_one (ps_if (PW.pt (pw_or (pt_not (pt_val (pe_fo c_is_letter hr (by decide) (pa_cons (pv 6) pa_nil)))) (pw_or1 (pt_cmpR op_in_seq (pv 6) (pe_slice sl_list (pv 5) po_none (po_some (pv 7))) rfl)))) (pss_one (ps_rx rfl (takes_of rfl rfl rfl rfl) x_InvalidNames hr (by decide) (pa_cons (pv 5) pa_nil) (mo_cons mo_var mo_nil))) pss_nil)))
      (pss_cons (ps_set (i := 8) nd rfl (Or.inr rfl) (pe_callB cr_sortedS rfl B.sorted (by decide +kernel) (pa_cons (pv 5) pa_nil)))
      (pss_cons (ps_set (i := 9) nd rfl (Or.inr rfl) (pe_lc (own := [("name", 6)]) (g := gName 6) (tt := tYes) (by rfl) nd (pi_list (pv 5)) (blkOk_by (own := [("name", 6)]) (N := ["solutions", "pairs", "old", "later", "changed", "later_names", "name", "index", "names", "places", "kept", "letter", "room"]) (sc := defScope s_renamed) (by decide +kernel)) (fun _ _ _ _ _ => pg_name (i := 6) nd rfl (Or.inl rfl)) (fun _ _ _ _ _ => pts_nil) (fun _ _ _ _ _ => (bm_K (K := K) rfl (pe_bm PySem.F.plainAttrs_list PySem.F.slot_list_index PySem.F.type_list_index (index_K (K := K) rfl) (pv 8) (pa_cons (pv 6) pa_nil))))))
      (pss_cons (ps_set (i := 10) nd rfl (Or.inr rfl) (pe_lc (own := [("letter", 11)]) (g := gName 11) (tt := tYes) (by rfl) nd (pi_range1 rfl B.range (pa_cons (pe_op op_shlW pe_int (pe_callB cb_len rfl B.len (by decide +kernel) (pa_cons (pv 8) pa_nil))) pa_nil)) (blkOk_by (own := [("letter", 11)]) (N := ["solutions", "pairs", "old", "later", "changed", "later_names", "name", "index", "names", "places", "kept", "letter", "room"]) (sc := defScope s_renamed) (by decide +kernel)) (fun _ _ _ _ _ => pg_name (i := 11) nd rfl (Or.inl rfl)) (fun _ _ _ _ _ => pts_nil) (fun _ _ _ _ _ => (pe_fo c_kept_letter hr (by decide) (pa_cons (pv 11) (pa_cons (pv 9) pa_nil))))))
      (pss_one (ps_ret (pe_mkCX c_Solutions hr (by decide) (fun σ => passAt (takes_of rfl rfl rfl rfl) σ) (pa_cons (pv 8) (pa_cons (pe_lc (own := [("room", 12)]) (g := gName 12) (tt := tYes) (by rfl) nd (pi_list (pe_fld (pv 0) rfl)) (blkOk_by (own := [("room", 12)]) (N := ["solutions", "pairs", "old", "later", "changed", "later_names", "name", "index", "names", "places", "kept", "letter", "room"]) (sc := defScope s_renamed) (by decide +kernel)) (fun _ _ _ _ _ => pg_name (i := 12) nd rfl (Or.inr rfl)) (fun _ _ _ _ _ => pts_nil) (fun _ _ _ _ _ => (pe_lc (own := [("letter", 11)]) (g := gName 11) (tt := tYes) (by rfl) nd (piL_K (K := K) rfl (pv 10)) (blkOk_by (own := [("letter", 11)]) (by kernel_rfl)) (fun _ _ _ _ _ => pg_name (i := 11) nd rfl (Or.inl rfl)) (fun _ _ _ _ _ => pts_nil) (fun _ _ _ _ _ => (pe_ix (ixL_K (K := K) rfl) (pv 12) (pv 11) (fun _ _ => rfl)))))) pa_nil))))))))))), ?_⟩
  walk_at "s0"
  have ow := Own.start H
  walk_at "go"
  have lns : (ns.map V.str).length = ns.length := List.length_map _
  have tupAt : ∀ {H' : Hp} {i : Nat}, Same H H' → i < prs.length → ∃ pr t, prs[i]? = some pr ∧ us[i]? = some (.ref t) ∧ SqT K H' t [.str pr.1, .str pr.2] := fun {H' i} s hi => by
    obtain ⟨pr, hpr⟩ : ∃ pr, prs[i]? = some pr := ⟨_, List.getElem?_eq_getElem hi⟩
    obtain ⟨t, g, k⟩ := pa2 i pr hpr
    exact ⟨pr, t, hpr, g, sqT_same s k⟩
  refine r_lc ?_
  walk_at "go"
  refine c_ilS sb ?_
  refine c_lcG us.length (by omega) (fun D i acc H' => acc = ((prs.map Prod.fst).take i).map V.str ∧ Own H H' [(D, .lst acc)]) (fun D nD => ⟨rfl, ow.new nD⟩) ?_ ?_ ?_ ?_
  · rintro D i acc H1 ⟨rfl, ow2⟩ hi
    exact itl_go (ow2.toSame.seq sb) hi
  · rintro D acc H1 ⟨rfl, ow2⟩
    exact itl_stop (ow2.toSame.seq sb)
  · rintro D i acc H1 x H2 R Z hi la ⟨rfl, ow2⟩ ⟨rfl, hy⟩ hR hZ
    clear ow
    have ow := ow2
    obtain ⟨pr, t, hpr, hut, st⟩ := tupAt ow.toSame (i := i) (by omega)
    have hx := hy _ (ow.toSame.seq sb)
    rw [hut] at hx
    cases hx
    refine g_two st ⟨rfl, tt_yes ?_⟩
    rw [if_pos rfl]
    walk_at "go"
    refine hR _ _ (ow.get 0 rfl) ⟨?_, ow.put 0 rfl⟩
    rw [List.take_succ, List.getElem?_map, hpr, List.map_append]
    rfl
  rintro D acc H1 nD ⟨rfl, ow2⟩ la
  clear ow
  have ow := ow2
  rw [lu, show (prs.map Prod.fst).take prs.length = prs.map Prod.fst from List.take_of_length_le (by rw [List.length_map]; exact Nat.le_refl _)] at ow
  clear ow2 la
  walk_at "go"
  refine ⟨D, pN, prs.map Prod.fst, ns, rfl, SqL.of (ow.get 1 rfl), SqL.of (ow.get 0 rfl), fun _ H2 s2 => ?_, fun i x hx nx _ => absurd (by
    obtain ⟨pr, hpr, rfl⟩ := List.mem_map.mp (List.mem_of_getElem? hx)
    exact hsub pr hpr) nx⟩
  replace ow := (ow.same s2).drop.drop
  clear nD
  walk_at "go"
  refine c_ilS (ow.toSame.seq sb) ?_
  refine c_dcG us.length (by omega) (fun D i acc H' => acc = kvsP (prs.take i) ∧ Own H H' [(D, .dK acc)]) (fun D nD => ⟨rfl, ow.new nD⟩) ?_ ?_ ?_ two_mono yes_mono ?_
  · rintro D i acc H1 ⟨rfl, ow2⟩ hi
    exact itl_go (ow2.toSame.seq sb) hi
  · rintro D acc H1 ⟨rfl, ow2⟩
    exact itl_stop (ow2.toSame.seq sb)
  · rintro D i acc H1 x H2 R hi la ⟨rfl, ow2⟩ ⟨rfl, hy⟩ hR
    clear ow
    have ow := ow2
    obtain ⟨pr, t, hpr, hut, st⟩ := tupAt ow.toSame (i := i) (by omega)
    have hx := hy _ (ow.toSame.seq sb)
    rw [hut] at hx
    cases hx
    refine g_two st ⟨rfl, tt_yes ⟨rfl, ?_⟩⟩
    walk_at "go"
    refine hR (.inr pr.1) _ _ (ow.get 0 rfl) ⟨?_, ow.put 0 rfl⟩
    rw [List.take_succ, hpr]
    exact (kvsP_snoc _ _).symm
  rintro D acc H1' nD ⟨rfl, ow2⟩ la
  clear ow
  rw [lu, List.take_length] at ow2
  clear la
  obtain ⟨ow3, f3⟩ := ow2.frz
  have ow := ow3
  have hD : (upd H D (.dK (kvsP prs))) D = some (.dK (kvsP prs)) := upd_same
  generalize upd H D (.dK (kvsP prs)) = F3 at f3 ow hD
  clear ow2 ow3
  have so3 := so.same f3
  walk_at "go"
  refine r_lc ?_
  walk_at "go"
  refine c_lcJ ns.length (by omega) (fun _ => rfl) (fun E i acc H' => acc = ((ns.map (chg prs)).take i).map V.str ∧ Own F3 H' [(E, .lst acc), (pN, .lst (ns.map V.str))]) (fun E nE => ⟨rfl, ow.new nE⟩) ?_ ?_ ?_ ?_
  · rintro E i acc H3 ⟨rfl, ow2⟩ hi
    exact itl_go (SqL.of (ow2.get 1 rfl)) (by rw [lns]; exact hi)
  · rintro E acc H3 ⟨rfl, ow2⟩
    have z := itl_stop (SqL.of (K := K) (ow2.get 1 rfl))
    rw [lns] at z
    exact z
  · rintro E i acc H3 x H4 R hi la ⟨rfl, ow2⟩ ⟨rfl, hy⟩ hR
    clear ow
    have ow := ow2
    have hx := hy _ (SqL.of (ow.get 1 rfl))
    obtain ⟨y, hy2⟩ : ∃ y, ns[i]? = some y := ⟨_, List.getElem?_eq_getElem hi⟩
    rw [List.getElem?_map, hy2] at hx
    cases hx
    walk_at "go"
    refine c_d2 (ow.gets hD) ?_
    walk_at "go"
    refine ⟨_, DGet.k (k := .inr y) (ow.gets hD), ?_⟩
    rw [chg_val]
    refine hR _ _ (ow.get 0 rfl) ⟨?_, ow.put 0 rfl⟩
    rw [List.take_succ, List.getElem?_map, hy2, List.map_append]
    rfl
  rintro E acc H3 nE ⟨rfl, ow2⟩ la
  rw [show (ns.map (chg prs)).take ns.length = ns.map (chg prs) from List.take_of_length_le (by rw [List.length_map]; exact Nat.le_refl _)] at ow2
  clear ow la
  obtain ⟨LN, hLN⟩ : ∃ LN, LN = ns.map (chg prs) := ⟨_, rfl⟩
  rw [← hLN] at ow2 nodp q
  have lLN : LN.length = ns.length := by rw [hLN, List.length_map]
  have hletN : ∀ x ∈ LN, isL x = true := fun x hx => by
    rw [hLN] at hx
    obtain ⟨y, hy, rfl⟩ := List.mem_map.mp hx
    exact hlet y hy
  obtain ⟨ow3, f4⟩ := ow2.frz
  have ow := ow3.drop
  have sLN : SqL K (upd F3 E (.lst (LN.map V.str))) E (LN.map V.str) := SqL.of upd_same
  generalize upd F3 E (.lst (LN.map V.str)) = F4 at f4 ow sLN
  clear ow2 ow3
  have lLV : (LN.map V.str).length = LN.length := List.length_map _
  walk_at "go"
  refine ⟨E, _, rfl, ow.toSame.seq sLN, ?_⟩
  refine for_enum (fun i σ' H' => ∃ u6 u7 : Option V, σ' = [some (.ref p), some (.ref b), none, none, some (.ref D), some (.ref E), u6, u7, none, none, none, none, none] ∧ Own F4 H' []) ⟨_, _, rfl, ow⟩ (fun i σ' H' hi ⟨_, _, _, o⟩ => o.toSame.seq sLN) ?_ ?_
  · clear ow
    rintro i x σ' H4 tp hx ⟨u6, u7, rfl, ow⟩ ntp
    rw [List.getElem?_map] at hx
    obtain ⟨y, hy, rfl⟩ := Option.map_eq_some_iff.mp hx
    have hi : i < LN.length := (List.getElem?_eq_some_iff.mp hy).1
    have my := List.mem_of_getElem? hy
    replace ow := ow.new (o := .tup [.int ((i : Nat) : Int), .str y]) ntp
    have nm : y ∉ LN.take i := fun z => by
      obtain ⟨j, hj, e⟩ := List.mem_iff_getElem.mp z
      rw [List.length_take] at hj
      rw [List.getElem_take] at e
      have h2 := (List.getElem?_eq_some_iff.mp hy).2
      have := List.pairwise_iff_getElem.mp nodp j i (by omega) hi (by omega)
      exact this (e.trans h2.symm)
    walk_at "go"
    refine ⟨y, rfl, by rw [isL_one (hletN y my)]; decide, ?_⟩
    rw [hletN y my]
    walk_at "go"
    rw [cutv_to (by omega), ← List.map_take] at ow
    refine r_isS (.inl (SqL.of (ow.get 0 rfl))) ?_
    rw [decide_eq_false nm]
    walk_at "go"
    exact ow.drop.drop
  rintro σ' H4 ⟨u6, u7, rfl, ow⟩
  walk_at "go"
  refine r_sortS ow (ow.toSame.seq sLN) (by omega) ?_
  intro ms pY H5 hperm hsort nY ow5
  clear ow
  have lms0 : ms.length = LN.length := hperm.length_eq
  have okm : okN ms = true := okN_sorted hsort (hperm.nodup_iff.mpr nodp) (fun x hx => hletN x (hperm.mem_iff.mp hx)) (by have := (okN_len so.ok).1; omega) (by omega)
  obtain ⟨ow6, f5⟩ := ow5.frz
  have ow := ow6
  have sY : SqL K (upd F4 pY (.lst (ms.map V.str))) pY (ms.map V.str) := SqL.of upd_same
  generalize upd F4 pY (.lst (ms.map V.str)) = F5 at f5 ow sY
  clear ow5 ow6
  have sLN5 := f5.seq sLN
  have lms : (ms.map V.str).length = ms.length := List.length_map _
  have p8 : 2 ^ ms.length ≤ 8 := Nat.le_trans (Nat.pow_le_pow_right (by decide) (show ms.length ≤ 3 by omega)) (by decide)
  walk_at "go"
  refine r_lc ?_
  walk_at "go"
  refine c_ilS (ow.toSame.seq sLN5) ?_
  refine c_lcJ LN.length (by omega) (fun _ => rfl) (fun D i acc H' => acc = nI ((plc LN ms).take i) ∧ Own F5 H' [(D, .lst acc)]) (fun D nD => ⟨rfl, ow.new nD⟩) ?_ ?_ ?_ ?_
  · rintro D i acc H3 ⟨rfl, ow2⟩ hi
    exact itl_go (ow2.toSame.seq sLN5) (by rw [lLV]; exact hi)
  · rintro D acc H3 ⟨rfl, ow2⟩
    have z := itl_stop (ow2.toSame.seq sLN5)
    rw [lLV] at z
    exact z
  · rintro D i acc H3 x H4 R hi la ⟨rfl, ow2⟩ ⟨rfl, hy⟩ hR
    clear ow
    have ow := ow2
    have hx := hy _ (ow.toSame.seq sLN5)
    obtain ⟨y, hy2⟩ : ∃ y, LN[i]? = some y := ⟨_, List.getElem?_eq_getElem hi⟩
    rw [List.getElem?_map, hy2] at hx
    cases hx
    have my := hperm.mem_iff.mpr (List.mem_of_getElem? hy2)
    walk_at "go"
    refine c_bmF (ow.toSame.seq sY) ?_
    walk_at "go"
    refine r_idxS (ow.toSame.seq sY) my ?_
    refine hR _ _ (ow.get 0 rfl) ⟨?_, ow.put 0 rfl⟩
    rw [plc_snoc hy2]
    unfold nI
    rw [List.map_append]
    rfl
  rintro G acc H6 nG ⟨rfl, ow2⟩ la
  rw [show (plc LN ms).take LN.length = plc LN ms from List.take_of_length_le (by unfold plc; rw [List.length_map]; exact Nat.le_refl _)] at ow2
  clear ow
  obtain ⟨ow3, f6⟩ := ow2.frz
  have ow := ow3
  have spl : SqL K (upd F5 G (.lst (nI (plc LN ms)))) G (nI (plc LN ms)) := SqL.of upd_same
  generalize upd F5 G (.lst (nI (plc LN ms))) = F6 at f6 ow spl
  clear ow2 ow3 la
  have sY6 := f6.seq sY
  walk_at "go"
  refine r_lc ?_
  walk_at "go"
  rw [lms, two_pow]
  refine ⟨Int.le_trans (by decide) (Int.natCast_nonneg _), Int.lt_of_le_of_lt (Int.ofNat_le.mpr p8) (by decide), ?_⟩
  rw [Int.toNat_natCast]
  refine c_lcR (fun c => .int (kl (plc LN ms) c : Nat)) ow (by omega) (fun _ => rfl) ?_ ?_
  · intro i E H4 R hi ow5 hR
    clear ow
    have ow := ow5
    walk_at "go"
    refine ⟨G, i, plc LN ms, by rw [Int.zero_add]; rfl, ow.toSame.seq spl, by omega, by unfold plc; rw [List.length_map]; omega, fun H5 s5 => ?_⟩
    exact hR _ (ow.same s5)
  intro kp H7 nkp ow5
  clear ow
  obtain ⟨ow6, f7⟩ := ow5.frz
  have ow := ow6
  have skp : SqL K (upd F6 kp (.lst ((List.range (2 ^ ms.length)).map fun c => .int (kl (plc LN ms) c : Nat)))) kp ((List.range (2 ^ ms.length)).map fun c => .int (kl (plc LN ms) c : Nat)) := SqL.of upd_same
  generalize upd F6 kp (.lst ((List.range (2 ^ ms.length)).map fun c => .int (kl (plc LN ms) c : Nat))) = F7 at f7 ow skp
  clear ow5 ow6
  have lkp : ((List.range (2 ^ ms.length)).map fun c => V.int (kl (plc LN ms) c : Nat)).length = 2 ^ ms.length := by rw [List.length_map, List.length_range]
  have pb : ∀ c, kl (plc LN ms) c < 2 ^ ns.length := fun c => by
    have := kl_pad (ns := LN) (ms := ms) c
    rw [lLN] at this
    exact this
  obtain ⟨dx, t, r, ep, st, tt⟩ := so.at_
  obtain ⟨vs, sq, ra⟩ := id tt
  have lv := ra.length
  have lT := so.len
  have s7 := ((f3.trans f4).trans (f5.trans f6)).trans f7
  have sq := s7.seq sq
  have ra := ra.same s7
  have snm := f7.seq sY6
  have ep7 := s7 _ _ ep
  walk_at "go"
  refine r_lc ?_
  walk_at "go"
  refine c_ilS (ow.toSame.seq sq) ?_
  refine c_lcJ vs.length (by omega) (fun _ => rfl) (fun D i acc H' => ∃ F', Same F7 F' ∧ Own F' H' [(D, .lst acc)] ∧ RoomsAt K F' acc ((pickT (plc LN ms) (2 ^ ms.length) T).take i)) (fun D nD => ⟨F7, Same.refl F7, ow.new nD, .nil⟩) ?_ ?_ ?_ ?_
  · rintro D i acc H1 ⟨F', sF', ow2, rs⟩ hi
    exact itl_go ((sF'.trans ow2.toSame).seq sq) hi
  · rintro D acc H1 ⟨F', sF', ow2, rs⟩
    exact itl_stop ((sF'.trans ow2.toSame).seq sq)
  · rintro D i acc H1 x H2 R hi la ⟨F', sF', ow2, rs⟩ ⟨rfl, hy⟩ hR
    clear ow
    have ow := ow2
    have hx := hy _ ((sF'.trans ow.toSame).seq sq)
    obtain ⟨rr, hr⟩ : ∃ r, T[i]? = some r := ⟨_, List.getElem?_eq_getElem (by omega)⟩
    obtain ⟨v, hv, ar, rfl, sr⟩ := ra.at hr
    rw [hx] at hv
    cases hv
    have lrr := so.can.rows rr (List.mem_of_getElem? hr)
    have et : (pickT (plc LN ms) (2 ^ ms.length) T).take (i + 1) = (pickT (plc LN ms) (2 ^ ms.length) T).take i ++ [(List.range (2 ^ ms.length)).map fun c => rr[kl (plc LN ms) c]?.getD none] := by
      rw [List.take_succ]
      unfold pickT
      rw [List.getElem?_map, hr]
      rfl
    walk_at "go"
    refine r_lc ?_
    walk_at "go"
    refine c_ilS ((sF'.trans ow.toSame).seq skp) ?_
    refine c_lcJ (2 ^ ms.length) (by omega) (fun _ => rfl) (fun E j acc2 H' => acc2 = (((List.range (2 ^ ms.length)).map fun c => rr[kl (plc LN ms) c]?.getD none).take j).map vO ∧ Own F' H' [(E, .lst acc2), (D, .lst acc)]) (fun E nE => ⟨rfl, ow.new nE⟩) ?_ ?_ ?_ ?_
    · rintro E j acc2 H3 ⟨rfl, ow3⟩ hj
      exact itl_go ((sF'.trans ow3.toSame).seq skp) (by rw [lkp]; exact hj)
    · rintro E acc2 H3 ⟨rfl, ow3⟩
      have z := itl_stop ((sF'.trans ow3.toSame).seq skp)
      rw [lkp] at z
      exact z
    · rintro E j acc2 H3 x3 H4 R3 hj la3 ⟨rfl, ow3⟩ ⟨rfl, hy3⟩ hR3
      clear ow
      have ow := ow3
      have hx3 := hy3 _ ((sF'.trans ow.toSame).seq skp)
      rw [List.getElem?_map, List.getElem?_range hj] at hx3
      cases hx3
      have ll : kl (plc LN ms) j < rr.length := by rw [lrr]; exact pb j
      have sr3 := (sF'.trans ow.toSame).seq sr
      have hat : atI (rr.map vO) ((kl (plc LN ms) j : Nat) : Int) = some (vO (rr[kl (plc LN ms) j]?.getD none)) := at_nat rfl (by
        rw [List.getElem?_map, List.getElem?_eq_getElem ll]
        rfl)
      walk_at "go"
      refine hR3 _ _ (ow.get 0 rfl) ⟨?_, ow.put 0 rfl⟩
      rw [List.take_succ, List.getElem?_map, List.getElem?_range hj, List.map_append]
      rfl
    · rintro E acc2 H3 nE ⟨rfl, ow3⟩ la3
      rw [show (((List.range (2 ^ ms.length)).map fun c => rr[kl (plc LN ms) c]?.getD none).take ((2 ^ ms.length))) = (List.range (2 ^ ms.length)).map fun c => rr[kl (plc LN ms) c]?.getD none from List.take_of_length_le (by rw [List.length_map, List.length_range]; exact Nat.le_refl _)] at ow3
      obtain ⟨f1, f2⟩ := (ow3.put 1 rfl (o := .lst (acc ++ [.ref E]))).frz
      refine hR _ _ (ow3.get 1 rfl) ⟨_, sF'.trans f2, f1, ?_⟩
      rw [et]
      exact RoomsAt.snoc ⟨E, rfl, SqL.of upd_same⟩ (rs.same f2)
  rintro tb us H1 ntb ⟨F8, sF8, ow8, rs⟩ la
  rw [lv, show (pickT (plc LN ms) (2 ^ ms.length) T).take T.length = pickT (plc LN ms) (2 ^ ms.length) T from List.take_of_length_le (by rw [pick_len]; exact Nat.le_refl _)] at rs
  clear ow
  have ow := ow8
  walk_at "go"
  refine cMk_T (isT := false) ((sF8.trans ow.toSame).seq snm) okm ⟨us, SqL.of (ow.get 0 rfl), rs.same ow.toSame⟩ (pick_tin so.can.tin) pick_rows (by rw [pick_len]; exact so.len) ?_
  intro M p2 H5 il ll np1 s5 so2
  rw [pick_len] at ll
  have sH := s7.trans (sF8.trans ow.toSame)
  exact q ms M p2 H5 hperm hsort okm il ll (same_none sH np1) (sH.trans s5) fun F2 sN => so2 F2 ((newF_pre sH).trans sN) fun z => by cases z
end

/-! words: the greatest common divisor, the constructor -/


theorem gcd_step {a b : Int} (h : b ≠ 0) : Int.gcd b (a.fmod b) = Int.gcd a b := by
  rw [Int.fmod_def, Int.gcd_sub_mul_left_right, Int.gcd_comm]
theorem natAbs_fmod {a b : Int} (h : b ≠ 0) : (a.fmod b).natAbs < b.natAbs := by
  rcases Int.lt_or_gt_of_ne h with hb | hb
  · have h1 := Int.neg_fmod_neg (-a) (-b)
    rw [Int.neg_neg, Int.neg_neg] at h1
    have h2 := Int.fmod_nonneg_of_pos (-a) (show 0 < -b by omega)
    have h3 := Int.fmod_lt_of_pos (-a) (show 0 < -b by omega)
    omega
  · have h2 := Int.fmod_nonneg_of_pos a hb
    have h3 := Int.fmod_lt_of_pos a hb
    omega
/-- what a fraction is shortened by -/
def wSh (t b : Int) : Int := if b < 0 then -(Int.gcd t b : Int) else Int.gcd t b
def wT (t b : Int) : Int := t.fdiv (wSh t b)
def wB (t b : Int) : Int := b.fdiv (wSh t b)
def wOk (t b : Int) : Prop := b ≠ 0 ∧ wB t b % 2 ≠ 0
theorem wSh_ne {t b : Int} (h : b ≠ 0) : wSh t b ≠ 0 := by
  have : 0 < Int.gcd t b := Int.gcd_pos_of_ne_zero_right t h
  unfold wSh; split <;> omega
theorem gcd_le_b {t b : Int} (h : b ≠ 0) : Int.gcd t b ≤ b.natAbs := Nat.le_of_dvd (by omega) (Int.natAbs_dvd_natAbs.mpr (Int.gcd_dvd_right t b))
/-- the fields of a word -/
abbrev wfl (t b : Int) : List (Str × V) := [("kept_top", .int t), ("kept_bottom", .int b)]
theorem wk_ne : ¬ (("kept_top" : Str) = "kept_bottom") := by decide +kernel
theorem put_top (t : Int) : putF "kept_top" (V.int t) [] = [(("kept_top" : Str), V.int t)] := rfl
theorem put_bot (t b : Int) : putF "kept_bottom" (V.int b) [(("kept_top" : Str), V.int t)] = wfl t b := by
  show (if ("kept_top" : Str) = "kept_bottom" then [(("kept_top" : Str), V.int b)] else (("kept_top" : Str), V.int t) :: putF "kept_bottom" (V.int b) []) = wfl t b
  rw [if_neg wk_ne]
  rfl
theorem wfl_top (t b : Int) : (wfl t b).lookup ("kept_top" : Str) = some (.int t) := by simp [List.lookup]
theorem wfl_bot (t b : Int) : (wfl t b).lookup ("kept_bottom" : Str) = some (.int b) := by
  have : (("kept_bottom" : Str) == "kept_top") = false := by decide +kernel
  simp [List.lookup, this]
section
variable {P : Program} {w : World} {K : PySem.W.Frag} {mg : Str → Option Value} {base : Heap}
def sp_common_part : Sp := fun vs H Q _ => ∃ a b : Int, vs = [.int a, .int b] ∧ Q (.int (Int.gcd a b : Int)) H
theorem c_gcd {a b : Int} {H : Hp} {Q : VK} {E : XK} (k : Q (.int (Int.gcd a b : Int)) H) : sp_common_part ([.int a, .int b] ++ []) H Q E := ⟨a, b, rfl, k⟩
set_option hygiene false in
local macro_rules | `(tactic| walk_at "r1") => `(tactic| with_reducible refine Bs.c_gcd ?_)
set_option hygiene false in
local macro_rules | `(tactic| walk_at "lk") => `(tactic| first
  | exact Bs.wfl_top _ _
  | exact Bs.wfl_bot _ _)
theorem ok_common_part {f : Addr} {fd : FuncData} (F : FnP K "common_part" "common_part" s_common_part f fd) (B : Bi mg) : FnOk P w K mg base CX0 1 f fd ["one", "other"] sp_common_part := by
  refine F.ok sc_common_part (fun vs H Q E h => ?_) (fun cdv A outer s H vs Q E hr h => ?_)
  · obtain ⟨a, b, rfl, _⟩ := h
    rfl
  · obtain ⟨a, b, rfl, k⟩ := h
    have nd := sc_common_part.nd
    refine ⟨_, PSs.nox (pss_cons (ps_while PassesOwn.never (pt_cmpR op_ne (pv 1) pe_int (nomark _)) (pss_one (ps_par (i := 0) (j := 1) rfl nd rfl rfl (by decide) rfl rfl (pa_cons (pv 1) (pa_cons (pe_op op_modN (pv 0) (pv 1)) pa_nil)) rfl)))
      (pss_one (ps_ret (pe_callB cb_abs rfl B.abs (by decide +kernel) (pa_cons (pv 0) pa_nil))))), ?_⟩
    walk_at "s0"
    walk_at "go"
    refine r_while (fun m σ H' => ∃ x y : Int, σ = [some (.int x), some (.int y)] ∧ H' = H ∧ m = y.natAbs ∧ Int.gcd x y = Int.gcd a b) b.natAbs ⟨a, b, rfl, rfl, rfl, rfl⟩ ?_
    rintro m σ H' ⟨x, y, rfl, rfl, rfl, hg⟩
    walk_at "go"
    · exact ⟨_, natAbs_fmod hc, _, _, rfl, rfl, rfl, (gcd_step hc).trans hg⟩
    · subst hc
      rw [Int.gcd_zero_right] at hg
      rw [hg]
      exact k
/-- Word.__init__: C the class, I that of InvalidWord -/
def sp_Word_init (C I : Addr) : Sp := fun vs H Q E => ∃ (p dx : Addr) (t b : Int), vs = [.ref p, .int t, .int b] ∧ H p = some (.ins C dx []) ∧ b.natAbs < 2 ^ 8000 ∧
  (wOk t b → ∀ H', Mut p (.ins C dx (wfl (wT t b) (wB t b))) H H' → Q .non H') ∧
  (¬ wOk t b → ∀ d q H', Same H H' → H d = none → H q = none → H' d = some (.xd [("value", .ref q)]) → H' q = some (.tup [.int t, .int b]) → E (.ref I) (some d) H')
theorem own_back {H H' : Hp} {p : Addr} {o : HO} {L : List (Addr × HO)} {i : Nat} (hp : H p = some o) (h : Own (fun b => if b = p then none else H b) H' L) (e : L[i]? = some (p, o)) : Same H H' := fun b u hb => by
  by_cases z : b = p
  · subst z; rw [hp] at hb; cases hb; exact h.get i e
  · exact h.sub b u (by show (if b = p then none else H b) = some u; rw [if_neg z]; exact hb)
theorem ok_Word_init {f C I : Addr} {fd : FuncData} {dvs : List V} (F : FunD K "__init__" "Word.__init__" (defArgs s_Word___init__) (defBody s_Word___init__) (defScope s_Word___init__) dvs [] f fd) (B : Bi mg) (cl : Cls K C) (nT : NoAttr K C "kept_top") (nB : NoAttr K C "kept_bottom")
    (c_common_part : Fo P w K mg base CX0 1 "common_part" ["one", "other"] sp_common_part) (x_InvalidWord : Xc P w K mg base "InvalidWord" I) : FnOk P w K mg base (L2.CX P w) 4 f fd ["self", "top", "bottom"] (sp_Word_init C I) := by
  refine F.ok sc_Word___init__ (fun vs H Q E h => ?_) (fun cdv A outer s H vs Q E hr h => ?_)
  · obtain ⟨p, dx, t, b, rfl, _⟩ := h
    rfl
  · obtain ⟨p, dx, t, b, rfl, hp, hb, k1, k2⟩ := h
    have nd := sc_Word___init__.nd
    refine ⟨_, pss_cons (ps_if (pt_cmpR op_eq (pv 2) pe_int (nomark _)) (pss_one (ps_rx rfl (takes_of rfl rfl rfl rfl) x_InvalidWord hr (by decide) (pa_cons (pe_tup (pa_cons (pv 1) (pa_cons (pv 2) pa_nil))) pa_nil) (mo_cons (mo_tup (mo_cons mo_var (mo_cons mo_var mo_nil))) mo_nil))) pss_nil)
      (pss_cons (ps_set (i := 3) nd rfl (Or.inl rfl) (pe_fo c_common_part hr (by decide) (pa_cons (pv 1) (pa_cons (pv 2) pa_nil))))
      (pss_cons (ps_if (pt_cmpR op_lt (pv 2) pe_int (nomark _)) (pss_one (ps_set (i := 3) nd rfl (Or.inl rfl) (pe_un un_neg (pv 3)))) pss_nil)
      (pss_cons (ps_if (pt_cmpR op_eq (pe_op op_mod (pe_op op_fdivF (pv 2) (pv 3)) pe_int) pe_int (nomark _)) (pss_one (ps_rx rfl (takes_of rfl rfl rfl rfl) x_InvalidWord hr (by decide) (pa_cons (pe_tup (pa_cons (pv 1) (pa_cons (pv 2) pa_nil))) pa_nil) (mo_cons (mo_tup (mo_cons mo_var (mo_cons mo_var mo_nil))) mo_nil))) pss_nil)
      (pss_cons (ps_fld (pv 0) (pe_op op_fdivF (pv 1) (pv 3)) rfl)
      (pss_one (ps_fld (pv 0) (pe_op op_fdivF (pv 2) (pv 3)) rfl)))))), ?_⟩
    walk_at "s0"
    have ow := Own.take1 hp
    by_cases hb0 : b = 0
    · subst hb0
      walk_at "go"
      exact k2 (fun z => z.1 rfl) dX pT H' (own_back hp ow g2) (own_new ow 0 2 rfl rfl (by decide)) np (ow.get 0 rfl) (ow.get 1 rfl)
    have hg : 0 < Int.gcd t b := Int.gcd_pos_of_ne_zero_right t hb0
    have hle := gcd_le_b (t := t) hb0
    have c1 : CFd 0 (-(Int.gcd t b : Int)) := cfd 8000 (by omega) (Nat.lt_of_le_of_lt (by omega) hb) (by decide) (by decide)
    have c2 : CFd 0 (Int.gcd t b : Int) := cfd 8000 (by omega) (Nat.lt_of_le_of_lt (by omega) hb) (by decide) (by decide)
    walk_at "go"
    · have e : wB t b = b.fdiv (-(Int.gcd t b : Int)) := by unfold wB wSh; rw [if_pos (by omega)]
      exact k2 (fun z => z.2 (by rw [e]; exact hc)) dX pT H' (own_back hp ow g2) (own_new ow 0 2 rfl rfl (by decide)) np (ow.get 0 rfl) (ow.get 1 rfl)
    · have e : wB t b = b.fdiv (-(Int.gcd t b : Int)) := by unfold wB wSh; rw [if_pos (by omega)]
      have e2 : wT t b = t.fdiv (-(Int.gcd t b : Int)) := by unfold wT wSh; rw [if_pos (by omega)]
      rw [put_top, put_bot, ← e, ← e2] at ow
      exact k1 ⟨hb0, by rw [e]; exact hc⟩ H' (ow.mut_of g0)
    · have e : wB t b = b.fdiv (Int.gcd t b : Int) := by unfold wB wSh; rw [if_neg (by omega)]
      exact k2 (fun z => z.2 (by rw [e]; exact hc)) dX pT H' (own_back hp ow g2) (own_new ow 0 2 rfl rfl (by decide)) np (ow.get 0 rfl) (ow.get 1 rfl)
    · have e : wB t b = b.fdiv (Int.gcd t b : Int) := by unfold wB wSh; rw [if_neg (by omega)]
      have e2 : wT t b = t.fdiv (Int.gcd t b : Int) := by unfold wT wSh; rw [if_neg (by omega)]
      rw [put_top, put_bot, ← e, ← e2] at ow
      exact k1 ⟨hb0, by rw [e]; exact hc⟩ H' (ow.mut_of g0)
end
theorem wSh_dt {t b : Int} : wSh t b ∣ t := by
  have g : (Int.gcd t b : Int) ∣ t := Int.gcd_dvd_left t b
  unfold wSh
  split
  · exact Int.neg_dvd.mpr g
  · exact g
theorem wSh_db {t b : Int} : wSh t b ∣ b := by
  have g : (Int.gcd t b : Int) ∣ b := Int.gcd_dvd_right t b
  unfold wSh
  split
  · exact Int.neg_dvd.mpr g
  · exact g
theorem wT_mul {t b : Int} : wT t b * wSh t b = t := Int.fdiv_mul_cancel wSh_dt
theorem wB_mul {t b : Int} : wB t b * wSh t b = b := Int.fdiv_mul_cancel wSh_db
theorem le_of_mul {x s t : Int} (h : x * s = t) (hs : s ≠ 0) : x.natAbs ≤ t.natAbs := by
  rw [← h, Int.natAbs_mul]
  exact Nat.le_mul_of_pos_right _ (by omega)
theorem wT_le {t b : Int} (h : b ≠ 0) : (wT t b).natAbs ≤ t.natAbs := le_of_mul wT_mul (wSh_ne h)
theorem wB_le {t b : Int} (h : b ≠ 0) : (wB t b).natAbs ≤ b.natAbs := le_of_mul wB_mul (wSh_ne h)
theorem wSh_one {t : Int} : wSh t 1 = 1 := by
  unfold wSh
  rw [if_neg (by decide), Int.gcd_one_right]
  rfl
theorem wT_one {t : Int} : wT t 1 = t := by
  have := wT_mul (t := t) (b := 1)
  rw [wSh_one, Int.mul_one] at this
  exact this
theorem wB_one {t : Int} : wB t 1 = 1 := by
  have := wB_mul (t := t) (b := 1)
  rw [wSh_one, Int.mul_one] at this
  exact this
theorem wOk_one {t : Int} : wOk t 1 := ⟨by decide, by rw [wB_one]; decide⟩

set_option hygiene false in
local macro_rules | `(tactic| walk_at "r1") => `(tactic| with_reducible refine Bs.c_gcd ?_)
set_option hygiene false in
local macro_rules | `(tactic| walk_at "lk") => `(tactic| first
  | exact Bs.wfl_top _ _
  | exact Bs.wfl_bot _ _)
/-! fractions in lowest terms, plain -/
theorem wSh_pos {t b : Int} (h : b ≠ 0) : 0 < wSh t b ↔ 0 < b := by
  have := Int.gcd_pos_of_ne_zero_right t h
  unfold wSh; split <;> omega
theorem nm_pos {t b : Int} (h : b ≠ 0) : 0 < wB t b := by
  have e := wB_mul (t := t) (b := b)
  have s := wSh_pos (t := t) h
  rcases Int.lt_or_gt_of_ne h with g | g
  · have s2 : wSh t b < 0 := by have := wSh_ne (t := t) h; omega
    rcases Int.lt_trichotomy (wB t b) 0 with q | q | q
    · have := Int.mul_pos_of_neg_of_neg q s2; omega
    · rw [q, Int.zero_mul] at e; omega
    · exact q
  · have s2 : 0 < wSh t b := s.mpr g
    rcases Int.lt_trichotomy (wB t b) 0 with q | q | q
    · have := Int.mul_neg_of_neg_of_pos q s2; omega
    · rw [q, Int.zero_mul] at e; omega
    · exact q
theorem wSh_abs {t b : Int} : (wSh t b).natAbs = Int.gcd t b := by unfold wSh; split <;> omega
theorem nm_co {t b : Int} (h : b ≠ 0) : Int.gcd (wT t b) (wB t b) = 1 := by
  have g : Int.gcd (wT t b * wSh t b) (wB t b * wSh t b) = Int.gcd (wT t b) (wB t b) * (wSh t b).natAbs := Int.gcd_mul_right ..
  rw [wT_mul, wB_mul, wSh_abs] at g
  have p := Int.gcd_pos_of_ne_zero_right t h
  exact Nat.eq_of_mul_eq_mul_right p (by omega)
theorem nm_cross {p q : Int} : wT p q * q = p * wB p q := by
  have e1 := wT_mul (t := p) (b := q)
  have e2 := wB_mul (t := p) (b := q)
  calc wT p q * q = wT p q * (wB p q * wSh p q) := by rw [e2]
    _ = (wT p q * wSh p q) * wB p q := by ac_rfl
    _ = p * wB p q := by rw [e1]
theorem co_dvd {a b c : Int} (g : Int.gcd b a = 1) (h : b ∣ a * c) : b ∣ c := by
  have h1 : b.natAbs ∣ a.natAbs * c.natAbs := by rw [← Int.natAbs_mul]; exact Int.natAbs_dvd_natAbs.mpr h
  exact Int.natAbs_dvd_natAbs.mp (Nat.Coprime.dvd_of_dvd_mul_left g h1)
theorem lw_unique {a b c d : Int} (hb : 0 < b) (hd : 0 < d) (g1 : Int.gcd a b = 1) (g2 : Int.gcd c d = 1) (h : a * d = c * b) : a = c ∧ b = d := by
  have d1 : b ∣ d := by
    have : b ∣ a * d := ⟨c, by rw [h, Int.mul_comm]⟩
    exact co_dvd (by rw [Int.gcd_comm]; exact g1) this
  have d2 : d ∣ b := by
    have : d ∣ c * b := ⟨a, by rw [← h, Int.mul_comm]⟩
    exact co_dvd (by rw [Int.gcd_comm]; exact g2) this
  have e : b = d := Int.dvd_antisymm (by omega) (by omega) d1 d2
  subst e
  exact ⟨Int.eq_of_mul_eq_mul_right (by omega) h, rfl⟩
theorem nm_eq {p q p' q' : Int} (h : q ≠ 0) (h' : q' ≠ 0) (e : p * q' = p' * q) : wT p q = wT p' q' ∧ wB p q = wB p' q' := by
  refine lw_unique (nm_pos h) (nm_pos h') (nm_co h) (nm_co h') ?_
  have c1 := nm_cross (p := p) (q := q)
  have c2 := nm_cross (p := p') (q := q')
  -- (T B') q q' = (T q) (B' q') = (p B) (B' q') = p q' B B' = p' q B B' = (T' q') B q
  have k : (wT p q * wB p' q') * (q * q') = (wT p' q' * wB p q) * (q * q') := by
    calc (wT p q * wB p' q') * (q * q') = (wT p q * q) * (wB p' q' * q') := by ac_rfl
      _ = (p * wB p q) * (wB p' q' * q') := by rw [c1]
      _ = (p * q') * (wB p q * wB p' q') := by ac_rfl
      _ = (p' * q) * (wB p q * wB p' q') := by rw [e]
      _ = (p' * wB p' q') * (wB p q * q) := by ac_rfl
      _ = (wT p' q' * q') * (wB p q * q) := by rw [c2]
      _ = (wT p' q' * wB p q) * (q * q') := by ac_rfl
  exact Int.eq_of_mul_eq_mul_right (Int.mul_ne_zero h h') k
theorem ok_odd {t b : Int} (h : b % 2 = 1) : wOk t b := by
  have hb : b ≠ 0 := by intro z; subst z; cases h
  refine ⟨hb, fun z => ?_⟩
  have e := wB_mul (t := t) (b := b)
  have : b % 2 = 0 := by rw [← e, Int.mul_emod, z, Int.zero_mul]; rfl
  omega
theorem odd_nm {t b : Int} (h : wOk t b) : wB t b % 2 = 1 := by have := h.2; omega
theorem odd_mul {a b : Int} (h : a % 2 = 1) (g : b % 2 = 1) : (a * b) % 2 = 1 := by rw [Int.mul_emod, h, g]; rfl
theorem ne_odd {a : Int} (h : a % 2 = 1) : a ≠ 0 := fun z => by subst z; cases h
theorem mulB {x y : Int} (A B : Nat) (hx : x.natAbs ≤ A) (hy : y.natAbs ≤ B) : (x * y).natAbs ≤ A * B := by
  rw [Int.natAbs_mul]; exact Nat.mul_le_mul hx hy
theorem mulW {x y : Int} (m n : Nat) (hx : x.natAbs < 2 ^ m) (hy : y.natAbs < 2 ^ n) : (x * y).natAbs < 2 ^ (m + n) := by
  rw [Int.natAbs_mul, Nat.pow_add]
  exact Nat.mul_lt_mul'' hx hy
theorem addW {x y : Int} (n : Nat) (hx : x.natAbs < 2 ^ n) (hy : y.natAbs < 2 ^ n) : (x + y).natAbs < 2 ^ (n + 1) := by
  rw [Nat.pow_succ]; omega
theorem subW {x y : Int} (n : Nat) (hx : x.natAbs < 2 ^ n) (hy : y.natAbs < 2 ^ n) : (x - y).natAbs < 2 ^ (n + 1) := by
  rw [Nat.pow_succ]; omega

/-! making words -/
def gId : {α : Type} → List α → List α → List α := fun vs _ => vs
def gFlip : {α : Type} → List α → List α → List α := fun vs zs => match vs, zs with
  | x :: _, b :: t :: _ => [x, t, b]
  | _, _ => []
def gKw1 : {α : Type} → List α → List α → List α → List α := fun vs ds zs => vs ++ zs ++ ds
def gPo1 : {α : Type} → List α → List α → List α → List α := fun vs ds _ => vs ++ ds
/-- the class Word as the text's top leaves it -/
structure WordC (P : Program) (w : World) (K : PySem.W.Frag) (mg : Str → Option Value) (base : Heap) (C I : Addr) : Prop where
  cl : Cls K C
  nT : NoAttr K C "kept_top"
  nB : NoAttr K C "kept_bottom"
  gC : mg "Word" = some (.ref C)
  ex : ∃ (f : Addr) (fd : FuncData), Mk K C f ∧ FnOk P w K mg base (L2.CX P w) 4 f fd ["self", "top", "bottom"] (sp_Word_init C I) ∧ Cb K fd ["self", "top", "bottom"] 3 [] gId ∧
    Cb K fd ["self", "top", "bottom"] 2 [] (fun vs zs => gPo1 vs [.int 1] zs) ∧ Cb K fd ["self", "top", "bottom"] 1 ["bottom", "top"] gFlip ∧ Cb K fd ["self", "top", "bottom"] 1 ["top"] (fun vs zs => gKw1 vs [.int 1] zs)
def cW (C I : Addr) (Q : VK) (E : XK) (t b : Int) (H : Hp) : Prop := b.natAbs < 2 ^ 8000 ∧ (wOk t b → ∀ p dx H', H p = none → Same H H' → H' p = some (.ins C dx (wfl (wT t b) (wB t b))) → Q (.ref p) H') ∧
  (¬ wOk t b → ∀ d q H', Same H H' → H d = none → H q = none → H' d = some (.xd [("value", .ref q)]) → H' q = some (.tup [.int t, .int b]) → E (.ref I) (some d) H')
theorem cW_init {C I : Addr} {Q : VK} {E : XK} {t b : Int} {H : Hp} (h : cW C I Q E t b H) (x dx : Addr) (n1 : H x = none) (n2 : H dx = none) (ne : dx ≠ x) :
    sp_Word_init C I [.ref x, .int t, .int b] (upd (upd H dx (.own x)) x (.ins C dx [])) (fun v H3 => v = .non ∧ Q (.ref x) H3) E := by
  obtain ⟨hb, k1, k2⟩ := h
  have s1 : Same H (upd (upd H dx (.own x)) x (.ins C dx [])) := fun c o e => by rw [upd_ne (ne_of_none e n1), upd_ne (ne_of_none e n2)]; exact e
  refine ⟨x, dx, t, b, rfl, upd_same, hb, fun v H' m => ⟨rfl, k1 v x dx H' n1 (fun c o e => m.keep c o (ne_of_none e n1) (s1 c o e)) m.here⟩, fun v d q H' s nd nq h1 h2 => k2 v d q H' (s1.trans s) (s1.free nd) (s1.free nq) h1 h2⟩
/-- readings: Word(t, b), Word(t), Word(bottom=b, top=t), Word(top=t) -/
abbrev tW2 (C I : Addr) (E : L2.St → XK) (ta : TA) : TE := tMkS C 2 0 (sp_Word_init C I) gId E ta tNil
abbrev tW1 (C I : Addr) (E : L2.St → XK) (ta : TA) : TE := tMkS C 1 0 (sp_Word_init C I) (fun vs zs => gPo1 vs [.int 1] zs) E ta tNil
abbrev tWk (C I : Addr) (E : L2.St → XK) (tk : TA) : TE := tMkS C 0 2 (sp_Word_init C I) gFlip E tNil tk
abbrev tWt (C I : Addr) (E : L2.St → XK) (tk : TA) : TE := tMkS C 0 1 (sp_Word_init C I) (fun vs zs => gKw1 vs [.int 1] zs) E tNil tk
theorem cMk_2 {C I : Addr} {Q : VK} {E : XK} {t b : Int} {H : Hp} (h : cW C I Q E t b H) : cMk C 2 0 (sp_Word_init C I) gId Q E [.int t, .int b] [] H := ⟨rfl, rfl, fun x dx n1 n2 ne => cW_init h x dx n1 n2 ne⟩
theorem cMk_1 {C I : Addr} {Q : VK} {E : XK} {t : Int} {H : Hp} (h : cW C I Q E t 1 H) : cMk C 1 0 (sp_Word_init C I) (fun vs zs => gPo1 vs [.int 1] zs) Q E [.int t] [] H := ⟨rfl, rfl, fun x dx n1 n2 ne => cW_init h x dx n1 n2 ne⟩
theorem cMk_k {C I : Addr} {Q : VK} {E : XK} {t b : Int} {H : Hp} (h : cW C I Q E t b H) : cMk C 0 2 (sp_Word_init C I) gFlip Q E [] [.int b, .int t] H := ⟨rfl, rfl, fun x dx n1 n2 ne => cW_init h x dx n1 n2 ne⟩
theorem cMk_t {C I : Addr} {Q : VK} {E : XK} {t : Int} {H : Hp} (h : cW C I Q E t 1 H) : cMk C 0 1 (sp_Word_init C I) (fun vs zs => gKw1 vs [.int 1] zs) Q E [] [.int t] H := ⟨rfl, rfl, fun x dx n1 n2 ne => cW_init h x dx n1 n2 ne⟩
section
variable {X : Cx} {C I : Addr} {j : Nat} {E : L2.St → XK} {p pos : Pos} {ta tk : TA}
theorem pe_W2 {e1 e2 : Expr} (c : WordC X.prog X.w X.K X.mg X.base C I) (hr : Room j X.A) (hj : 5 ≤ j) (hx : ∀ σ, PassesAt (L2.CX X.prog X.w) X σ (E σ)) (ha : PA X [e1, e2] ta) (hg : Gl X "Word" := by rfl)
    (hall : (backToKw pos (keywordEach [] X.env)).all (·.1.isSome) = true := by rfl) (hks : (backToKw pos (keywordEach [] X.env)).filterMap (·.1) = [] := by rfl)
    (he : starEach [e1, e2] X.env = (false, eval e1 X.env) :: starEach [e2] X.env := by rfl)
    (hpl : ((backTo pos (starEach [e1, e2] X.env)).any (·.1) || (backToKw pos (keywordEach [] X.env)).any (·.1.isNone)) = false := by rfl) : PE X (.Call (.Name "Word" p) [e1, e2] [] pos) (tW2 C I E ta) := by
  obtain ⟨f, fd, M, F, b3, b2, bk, bt⟩ := c.ex
  exact pe_mkS (n := 2) M F (hr.mono hj) c.gC b3 hx ha pk_nil hg hall hks (by decide) he hpl
theorem pe_W1 {e1 : Expr} (c : WordC X.prog X.w X.K X.mg X.base C I) (hr : Room j X.A) (hj : 5 ≤ j) (hx : ∀ σ, PassesAt (L2.CX X.prog X.w) X σ (E σ)) (ha : PA X [e1] ta) (hg : Gl X "Word" := by rfl)
    (hall : (backToKw pos (keywordEach [] X.env)).all (·.1.isSome) = true := by rfl) (hks : (backToKw pos (keywordEach [] X.env)).filterMap (·.1) = [] := by rfl)
    (he : starEach [e1] X.env = (false, eval e1 X.env) :: starEach [] X.env := by rfl)
    (hpl : ((backTo pos (starEach [e1] X.env)).any (·.1) || (backToKw pos (keywordEach [] X.env)).any (·.1.isNone)) = false := by rfl) : PE X (.Call (.Name "Word" p) [e1] [] pos) (tW1 C I E ta) := by
  obtain ⟨f, fd, M, F, b3, b2, bk, bt⟩ := c.ex
  exact pe_mkS (n := 1) M F (hr.mono hj) c.gC b2 hx ha pk_nil hg hall hks (by decide) he hpl
theorem pe_Wk {e1 e2 : Expr} {k1 k2 : Pos} (c : WordC X.prog X.w X.K X.mg X.base C I) (hr : Room j X.A) (hj : 5 ≤ j) (hx : ∀ σ, PassesAt (L2.CX X.prog X.w) X σ (E σ)) (ha : PK X [⟨some "bottom", e1, k1⟩, ⟨some "top", e2, k2⟩] tk) (hg : Gl X "Word" := by rfl)
    (hall : (backToKw pos (keywordEach [⟨some "bottom", e1, k1⟩, ⟨some "top", e2, k2⟩] X.env)).all (·.1.isSome) = true := by rfl) (hks : (backToKw pos (keywordEach [⟨some "bottom", e1, k1⟩, ⟨some "top", e2, k2⟩] X.env)).filterMap (·.1) = ([("bottom" : Str), "top"] : List Str) := by rfl)
    (hpl : ((backTo pos (starEach [] X.env)).any (·.1) || (backToKw pos (keywordEach [⟨some "bottom", e1, k1⟩, ⟨some "top", e2, k2⟩] X.env)).any (·.1.isNone)) = false := by rfl) : PE X (.Call (.Name "Word" p) [] [⟨some "bottom", e1, k1⟩, ⟨some "top", e2, k2⟩] pos) (tWk C I E tk) := by
  obtain ⟨f, fd, M, F, b3, b2, bk, bt⟩ := c.ex
  exact pe_mkS0 M F (hr.mono hj) c.gC bk hx ha hg hall hks (by decide) hpl
theorem pe_Wt {e1 : Expr} {k1 : Pos} (c : WordC X.prog X.w X.K X.mg X.base C I) (hr : Room j X.A) (hj : 5 ≤ j) (hx : ∀ σ, PassesAt (L2.CX X.prog X.w) X σ (E σ)) (ha : PK X [⟨some "top", e1, k1⟩] tk) (hg : Gl X "Word" := by rfl)
    (hall : (backToKw pos (keywordEach [⟨some "top", e1, k1⟩] X.env)).all (·.1.isSome) = true := by rfl) (hks : (backToKw pos (keywordEach [⟨some "top", e1, k1⟩] X.env)).filterMap (·.1) = ([("top" : Str)] : List Str) := by rfl)
    (hpl : ((backTo pos (starEach [] X.env)).any (·.1) || (backToKw pos (keywordEach [⟨some "top", e1, k1⟩] X.env)).any (·.1.isNone)) = false := by rfl) : PE X (.Call (.Name "Word" p) [] [⟨some "top", e1, k1⟩] pos) (tWt C I E tk) := by
  obtain ⟨f, fd, M, F, b3, b2, bk, bt⟩ := c.ex
  exact pe_mkS0 M F (hr.mono hj) c.gC bt hx ha hg hall hks (by decide) hpl
end
section
variable {F H : Hp} {L : List (Addr × HO)} {C I : Addr} {Q : VK} {E : XK} {t b : Int} {σ : L2.St}
theorem r_W2 {E : L2.St → XK} {ta : TA} (k : ta σ H fun vs H1 => cMk C 2 0 (sp_Word_init C I) gId Q (E σ) vs [] H1) : tW2 C I E ta σ H Q := k
theorem r_W1 {E : L2.St → XK} {ta : TA} (k : ta σ H fun vs H1 => cMk C 1 0 (sp_Word_init C I) (fun vs zs => gPo1 vs [.int 1] zs) Q (E σ) vs [] H1) : tW1 C I E ta σ H Q := k
theorem r_Wk {E : L2.St → XK} {ta : TA} (k : ta σ H fun zs H1 => cMk C 0 2 (sp_Word_init C I) gFlip Q (E σ) [] zs H1) : tWk C I E ta σ H Q := k
theorem r_Wt {E : L2.St → XK} {ta : TA} (k : ta σ H fun zs H1 => cMk C 0 1 (sp_Word_init C I) (fun vs zs => gKw1 vs [.int 1] zs) Q (E σ) [] zs H1) : tWt C I E ta σ H Q := k
theorem o_W (h : Own F H L) (hb : b.natAbs < 2 ^ 8000) (hv : wOk t b) (k : ∀ p dx H', H p = none → Own F H' ((p, .ins C dx (wfl (wT t b) (wB t b))) :: L) → Q (.ref p) H') : cW C I Q E t b H :=
  ⟨hb, fun _ p dx H' n s e => k p dx H' n ((h.newS n s e)), fun z => absurd hv z⟩
theorem o_WX (h : Own F H L) (hb : b.natAbs < 2 ^ 8000) (k : wOk t b → ∀ p dx H', H p = none → Own F H' ((p, .ins C dx (wfl (wT t b) (wB t b))) :: L) → Q (.ref p) H')
    (k2 : ¬ wOk t b → ∀ d q H', Own F H' ((d, .xd [("value", .ref q)]) :: (q, .tup [.int t, .int b]) :: L) → E (.ref I) (some d) H') : cW C I Q E t b H :=
  ⟨hb, fun v p dx H' n s e => k v p dx H' n ((h.newS n s e)), fun v d q H' s n1 n2 e1 e2 => k2 v d q H' (by
    have nq : d ≠ q := ne_of e1 e2 (fun z => by cases z)
    have w1 := h.newS n2 s e2
    exact w1.newAt (h.fresh n1) e1 (fun i a o e z => by
      cases i with
      | zero => simp at e; exact nq (z.trans e.1.symm)
      | succ i =>
        have := (h.own i a o (by simpa using e)).1
        rw [← z, n1] at this
        cases this))⟩
end
set_option hygiene false in
local macro_rules | `(tactic| walk_at "r1") => `(tactic| first
  | with_reducible refine Bs.cMk_2 ?_
  | with_reducible refine Bs.cMk_1 ?_
  | with_reducible refine Bs.cMk_k ?_
  | with_reducible refine Bs.cMk_t ?_
  | ((with_reducible refine' Bs.o_W ?p1 ?p2 ?p3 ?_); (case p1 => assumption); (case p2 => first | assumption | omega); (case p3 => first | assumption | exact Bs.wOk_one | exact Bs.ok_odd (by first | assumption | omega)); intro pW dW H' np ow; (try simp only [Bs.wT_one, Bs.wB_one] at ow))
  | ((with_reducible refine' Bs.o_WX ?p1 ?p2 ?_ ?_); (case p1 => assumption); (case p2 => first | assumption | omega); (all_goals first | (intro wok pW dW H' np ow) | (intro nwok dX pT H' ow))))

/-! top and bottom -/


section
variable {P : Program} {w : World} {K : PySem.W.Frag} {mg : Str → Option Value} {base : Heap}
theorem ok_Word_top {C : Addr} {f : Addr} {fd : FuncData} (F : FnP K "top" "Word.top" s_Word_top f fd) (cl : Cls K C) (n : NoAttr K C "kept_top") : FnOk P w K mg base CX0 1 f fd ["self"] (getSp C "kept_top") := by
  refine F.ok sc_Word_top (fun vs H Q E h => ?_) (fun cdv A outer s H vs Q E hr h => ?_)
  · obtain ⟨a, dx, fs, v, rfl, _⟩ := h
    rfl
  · obtain ⟨a, dx, fs, v, rfl, e, l, q⟩ := h
    refine ⟨_, PSs.nox (pss_one (ps_ret (pe_fld (pv 0) rfl))), ?_⟩
    exact ⟨.ref a, rfl, a, C, dx, fs, v, rfl, e, cl, n, l, q⟩
theorem ok_Word_bottom {C : Addr} {f : Addr} {fd : FuncData} (F : FnP K "bottom" "Word.bottom" s_Word_bottom f fd) (cl : Cls K C) (n : NoAttr K C "kept_bottom") : FnOk P w K mg base CX0 1 f fd ["self"] (getSp C "kept_bottom") := by
  refine F.ok sc_Word_bottom (fun vs H Q E h => ?_) (fun cdv A outer s H vs Q E hr h => ?_)
  · obtain ⟨a, dx, fs, v, rfl, _⟩ := h
    rfl
  · obtain ⟨a, dx, fs, v, rfl, e, l, q⟩ := h
    refine ⟨_, PSs.nox (pss_one (ps_ret (pe_fld (pv 0) rfl))), ?_⟩
    exact ⟨.ref a, rfl, a, C, dx, fs, v, rfl, e, cl, n, l, q⟩
end

/-! halves of a fraction: lead and span, plain -/
/-- the next half -/
def hv (b x : Int) : Int := (x - x % 2 * b) / 2
def hvs (b : Int) : Nat → Int → Int
  | 0, x => x
  | k + 1, x => hvs b k (hv b x)
theorem hvs_succ (b : Int) : ∀ (k : Nat) (x : Int), hvs b (k + 1) x = hv b (hvs b k x)
  | 0, _ => rfl
  | k + 1, x => hvs_succ b k (hv b x)
theorem hvs_add (b : Int) : ∀ (j k : Nat) (x : Int), hvs b (j + k) x = hvs b j (hvs b k x)
  | j, 0, x => rfl
  | j, k + 1, x => hvs_add b j k (hv b x)
/-- within the cycle -/
def In (b x : Int) : Prop := -b ≤ x ∧ x ≤ 0
section
variable {b x y : Int}
theorem hv2 (ob : b % 2 = 1) : 2 * hv b x = x - x % 2 * b := by
  unfold hv
  rcases Int.emod_two_eq x with h | h <;> rw [h] <;> omega
theorem in_hv (ob : b % 2 = 1) (h : In b x) : In b (hv b x) := by
  have e := hv2 (x := x) ob
  obtain ⟨h1, h2⟩ := h
  rcases Int.emod_two_eq x with p | p <;> rw [p] at e <;> constructor <;> omega
theorem hv_inj (ob : b % 2 = 1) (pb : 0 < b) (hx : In b x) (hy : In b y) (e : hv b x = hv b y) : x = y := by
  have e1 := hv2 (x := x) ob
  have e2 := hv2 (x := y) ob
  obtain ⟨h1, h2⟩ := hx
  obtain ⟨h3, h4⟩ := hy
  rcases Int.emod_two_eq x with p | p <;> rcases Int.emod_two_eq y with q | q <;> rw [p] at e1 <;> rw [q] at e2 <;> omega
theorem in_hvs (ob : b % 2 = 1) : ∀ (k : Nat) {x : Int}, In b x → In b (hvs b k x)
  | 0, _, h => h
  | k + 1, _, h => in_hvs ob k (in_hv ob h)
theorem hvs_inj (ob : b % 2 = 1) (pb : 0 < b) : ∀ (k : Nat) {x y : Int}, In b x → In b y → hvs b k x = hvs b k y → x = y
  | 0, _, _, _, _, e => e
  | k + 1, _, _, hx, hy, e => hv_inj ob pb hx hy (hvs_inj ob pb k (in_hv ob hx) (in_hv ob hy) e)
/-- how far from the cycle -/
def far (b x : Int) : Nat := if 0 < x then x.natAbs else if x < -b then x.natAbs else 0
theorem far_hv (ob : b % 2 = 1) (pb : 0 < b) (h : ¬ In b x) : far b (hv b x) < far b x := by
  have e := hv2 (x := x) ob
  have h' : 0 < x ∨ x < -b := by unfold In at h; omega
  unfold far
  rcases Int.emod_two_eq x with p | p <;> rw [p] at e <;> rcases h' with q | q
  · rw [if_pos q]; split
    · omega
    · split <;> omega
  · rw [if_neg (show ¬ 0 < x by omega), if_pos q]; split
    · omega
    · split <;> omega
  · rw [if_pos q]; split
    · omega
    · split <;> omega
  · rw [if_neg (show ¬ 0 < x by omega), if_pos q]; split
    · omega
    · split <;> omega
end
theorem least_of {p : Nat → Prop} {n : Nat} (h : p n) : ∃ m, p m ∧ ∀ k, k < m → ¬ p k := by
  induction n using Nat.strongRecOn with
  | ind n ih =>
    by_cases z : ∃ k, k < n ∧ p k
    · obtain ⟨k, hk, pk⟩ := z
      exact ih k hk pk
    · exact ⟨n, h, fun k hk pk => z ⟨k, hk, pk⟩⟩
theorem php : ∀ (n : Nat) (f : Nat → Nat), (∀ i, i ≤ n → f i < n) → ∃ i j, i < j ∧ j ≤ n ∧ f i = f j
  | 0, f, h => absurd (h 0 (Nat.le_refl _)) (Nat.not_lt_zero _)
  | n + 1, f, h => by
    by_cases z : ∃ i, i ≤ n ∧ f i = f (n + 1)
    · obtain ⟨i, hi, e⟩ := z
      exact ⟨i, n + 1, by omega, Nat.le_refl _, e⟩
    · have ne : ∀ i, i ≤ n → f i ≠ f (n + 1) := fun i hi e => z ⟨i, hi, e⟩
      have bound : ∀ i, i ≤ n → (if f i = n then f (n + 1) else f i) < n := by
        intro i hi
        have h1 := h i (by omega)
        have h2 := h (n + 1) (Nat.le_refl _)
        have h3 := ne i hi
        split <;> omega
      obtain ⟨i, j, hij, hj, e⟩ := php n (fun i => if f i = n then f (n + 1) else f i) bound
      have h3 := ne i (by omega)
      have h4 := ne j hj
      refine ⟨i, j, hij, by omega, ?_⟩
      by_cases a : f i = n <;> by_cases c : f j = n <;> simp only [a, c, if_true, if_false] at e <;> omega
/-- the least place of the cycle -/
structure IsLead (b x : Int) (n : Nat) : Prop where
  is : In b (hvs b n x)
  no : ∀ k, k < n → ¬ In b (hvs b k x)
/-- the order of 2 -/
structure IsSpan (b : Int) (p : Nat) : Prop where
  pos : 1 ≤ p
  dv : b ∣ 2 ^ p - 1
  no : ∀ q, 1 ≤ q → q < p → ¬ b ∣ 2 ^ q - 1
section
variable {b x y : Int}
theorem lead_ex (ob : b % 2 = 1) (pb : 0 < b) : ∀ x, ∃ n, In b (hvs b n x) := by
  intro x
  generalize e : far b x = m
  induction m using Nat.strongRecOn generalizing x with
  | ind m ih =>
    by_cases h : In b x
    · exact ⟨0, h⟩
    · have l := far_hv ob pb h
      obtain ⟨n, hn⟩ := ih _ (by rw [← e]; exact l) (hv b x) rfl
      exact ⟨n + 1, hn⟩
theorem isLead_ex (ob : b % 2 = 1) (pb : 0 < b) (x : Int) : ∃ n, IsLead b x n := by
  obtain ⟨n, hn⟩ := lead_ex ob pb x
  obtain ⟨m, h1, h2⟩ := least_of (p := fun n => In b (hvs b n x)) hn
  exact ⟨m, h1, h2⟩
theorem odd_dvd2 (ob : b % 2 = 1) (h : b ∣ 2 * x) : b ∣ x := by
  obtain ⟨k, e⟩ := h
  have : (b * k) % 2 = 0 := by rw [← e]; omega
  rw [Int.mul_emod, ob, Int.one_mul, Int.emod_emod] at this
  refine ⟨k / 2, ?_⟩
  have k2 : k = 2 * (k / 2) := by omega
  rw [k2, ← Int.mul_assoc, Int.mul_comm b 2, Int.mul_assoc] at e
  omega
theorem odd_dvdp (ob : b % 2 = 1) : ∀ (i : Nat) {x : Int}, b ∣ 2 ^ i * x → b ∣ x
  | 0, x, h => by simpa using h
  | i + 1, x, h => by
    rw [Int.pow_succ, Int.mul_assoc, Int.mul_left_comm] at h
    exact odd_dvdp ob i (odd_dvd2 ob h)
theorem isSpan_ex (ob : b % 2 = 1) (pb : 0 < b) : ∃ p, IsSpan b p := by
  have bd : ∀ i, i ≤ b.toNat → ((2 : Int) ^ i % b).toNat < b.toNat := fun i _ => by
    have h1 := Int.emod_nonneg ((2 : Int) ^ i) (show b ≠ 0 by omega)
    have h2 := Int.emod_lt_of_pos ((2 : Int) ^ i) pb
    omega
  obtain ⟨i, j, hij, _, e⟩ := php b.toNat _ bd
  have h1 := Int.emod_nonneg ((2 : Int) ^ i) (show b ≠ 0 by omega)
  have h2 := Int.emod_nonneg ((2 : Int) ^ j) (show b ≠ 0 by omega)
  have e2 : (2 : Int) ^ j % b = 2 ^ i % b := by omega
  have d : b ∣ 2 ^ j - 2 ^ i := Int.dvd_of_emod_eq_zero (Int.emod_eq_emod_iff_emod_sub_eq_zero.mp e2)
  have s : (2 : Int) ^ j - 2 ^ i = 2 ^ i * (2 ^ (j - i) - 1) := by
    rw [Int.mul_sub, ← Int.pow_add, Int.mul_one]
    congr 2
    omega
  rw [s] at d
  have d2 := odd_dvdp ob i d
  obtain ⟨m, hm, no⟩ := least_of (p := fun p => 1 ≤ p ∧ b ∣ 2 ^ p - 1) (n := j - i) ⟨by omega, d2⟩
  exact ⟨m, hm.1, hm.2, fun q h1 h2 h3 => no q h2 ⟨h1, h3⟩⟩
/-- 2 ^ k times the k-th half is the fraction's top, but for multiples of the bottom -/
theorem hvs_dvd (ob : b % 2 = 1) : ∀ (k : Nat) (x : Int), b ∣ 2 ^ k * hvs b k x - x
  | 0, x => by simp [hvs]
  | k + 1, x => by
    obtain ⟨c, e⟩ := hvs_dvd ob k (hv b x)
    have e2 := hv2 (x := x) ob
    show b ∣ 2 ^ (k + 1) * hvs b k (hv b x) - x
    refine ⟨2 * c - x % 2, ?_⟩
    rw [Int.pow_succ]
    grind
end
section
variable {b x : Int} {L p : Nat}
theorem dv_x (ob : b % 2 = 1) (g : Int.gcd x b = 1) {m : Int} (h : b ∣ m * hvs b L x) : b ∣ m := by
  obtain ⟨c, e⟩ := hvs_dvd ob L x
  obtain ⟨d, e2⟩ := h
  have : b ∣ x * m := ⟨2 ^ L * d - c * m, by grind⟩
  exact co_dvd (by rw [Int.gcd_comm]; exact g) this
theorem not_dv (ob : b % 2 = 1) (g : Int.gcd x b = 1) (h : b ∣ hvs b L x) : b ∣ 1 := dv_x (L := L) ob g (by rw [Int.one_mul]; exact h)
theorem per (ob : b % 2 = 1) (pb : 0 < b) (g : Int.gcd x b = 1) (hL : IsLead b x L) (hp : IsSpan b p) : hvs b (L + p) x = hvs b L x := by
  rw [Nat.add_comm, hvs_add]
  generalize hy : hvs b L x = y
  have iy : In b y := by rw [← hy]; exact hL.is
  have ih := in_hvs ob p iy
  obtain ⟨c, e⟩ := hvs_dvd ob p y
  obtain ⟨d, e2⟩ := hp.dv
  have dv : b ∣ hvs b p y - y := ⟨c - d * hvs b p y, by grind⟩
  obtain ⟨k, ek⟩ := dv
  obtain ⟨a1, a2⟩ := iy
  obtain ⟨a3, a4⟩ := ih
  have kk : k = 0 ∨ k = 1 ∨ k = -1 := by
    have h1 : b * k ≤ b * 1 := by omega
    have h2 : b * (-1) ≤ b * k := by omega
    have := Int.le_of_mul_le_mul_left h1 pb
    have := Int.le_of_mul_le_mul_left h2 pb
    omega
  rcases kk with rfl | rfl | rfl
  · omega
  · have y0 : y = -b := by omega
    have : b ∣ 1 := not_dv (L := L) ob g (by rw [hy, y0]; exact ⟨-1, by omega⟩)
    have b1 : b = 1 := Int.eq_one_of_dvd_one (by omega) this
    subst b1
    have h0 : hvs 1 p y = 0 := by omega
    have fx : ∀ (n : Nat), hvs 1 n (-1) = -1 := fun n => by
      induction n with
      | zero => rfl
      | succ n ih => exact ih
    rw [y0] at h0
    have := fx p
    omega
  · have y0 : y = 0 := by omega
    have : b ∣ 1 := not_dv (L := L) ob g (by rw [hy, y0]; exact ⟨0, by omega⟩)
    have b1 : b = 1 := Int.eq_one_of_dvd_one (by omega) this
    subst b1
    have h0 : hvs 1 p y = -1 := by omega
    have fx : ∀ (n : Nat), hvs 1 n 0 = 0 := fun n => by
      induction n with
      | zero => rfl
      | succ n ih => exact ih
    rw [y0] at h0
    have := fx p
    omega
theorem min_per (ob : b % 2 = 1) (g : Int.gcd x b = 1) (hp : IsSpan b p) {q : Nat} (h1 : 1 ≤ q) (h2 : q < p) : hvs b q (hvs b L x) ≠ hvs b L x := by
  intro e
  obtain ⟨c, e1⟩ := hvs_dvd ob q (hvs b L x)
  rw [e] at e1
  exact hp.no q h1 h2 (dv_x (L := L) ob g ⟨c, by grind⟩)
theorem far_lt (ob : b % 2 = 1) (pb : 0 < b) (x : Int) : ∀ (j i : Nat), i < j → (∀ k, k < j → ¬ In b (hvs b k x)) → far b (hvs b j x) < far b (hvs b i x)
  | 0, i, h, _ => by omega
  | j + 1, i, h, no => by
    have l := far_hv ob pb (no j (by omega))
    rw [hvs_succ]
    by_cases z : i = j
    · rw [z]; exact l
    · exact Nat.lt_trans l (far_lt ob pb x j i (by omega) fun k hk => no k (by omega))
theorem far_le (ob : b % 2 = 1) (pb : 0 < b) (hL : IsLead b x L) {i j : Nat} (h : i < j) (hj : j < L) : hvs b i x ≠ hvs b j x := by
  intro e
  have := far_lt ob pb x j i h fun k hk => hL.no k (by omega)
  rw [e] at this
  omega
theorem distinct (ob : b % 2 = 1) (pb : 0 < b) (g : Int.gcd x b = 1) (hL : IsLead b x L) (hp : IsSpan b p) {i j : Nat} (h : i < j) (hj : j < L + p) : hvs b i x ≠ hvs b j x := by
  intro e
  have inL : ∀ k, L ≤ k → In b (hvs b k x) := fun k hk => by
    rw [show k = (k - L) + L by omega, hvs_add]
    exact in_hvs ob _ hL.is
  by_cases h1 : j < L
  · exact far_le ob pb hL h h1 e
  · by_cases h2 : i < L
    · exact hL.no i h2 (by rw [e]; exact inL j (by omega))
    · rw [show i = (i - L) + L by omega, show j = (i - L) + ((j - i) + L) by omega, hvs_add, hvs_add b (i - L), hvs_add b (j - i)] at e
      have := hvs_inj ob pb (i - L) hL.is (in_hvs ob (j - i) hL.is) e
      exact min_per (L := L) ob g hp (q := j - i) (by omega) (by omega) this.symm
end


/-! leads and spans as the program finds them -/


theorem band1 (x : Int) : Builtin.bitAnd x 1 = x % 2 := by
  have := PySem.W.kbt_mask x 1
  simpa using this
theorem bandK (x : Int) (k : Nat) : Builtin.bitAnd x (2 ^ k - 1) = x % 2 ^ k := PySem.W.kbt_mask x k
theorem mok_and1 {x j : Int} : IntMulOk (Builtin.bitAnd x 1) j := by
  rw [band1]
  exact mok_l (by omega) (by omega)
theorem hv_prog {b x : Int} : (x - Builtin.bitAnd x 1 * b) / 2 ^ (1 : Int).toNat = hv b x := by
  rw [band1]
  rfl
def sp_lead : Sp := fun vs H Q _ => ∃ t b : Int, vs = [.int t, .int b] ∧ 0 < b ∧ b % 2 = 1 ∧ ∀ n : Nat, IsLead b t n → Q (.int n) H
def sp_span : Sp := fun vs H Q _ => ∃ b : Int, vs = [.int b] ∧ 0 < b ∧ b % 2 = 1 ∧ ∀ n : Nat, IsSpan b n → Q (.int n) H
set_option hygiene false in
local macro_rules | `(tactic| walk_at "sd") => `(tactic| first
  | exact Bs.mok_and1
  | (show _ ≤ _; omega))
section
variable {P : Program} {w : World} {K : PySem.W.Frag} {mg : Str → Option Value} {base : Heap}
theorem ok_lead_of {f : Addr} {fd : FuncData} (F : FnP K "lead_of" "lead_of" s_lead_of f fd) (B : Bi mg) : FnOk P w K mg base CX0 1 f fd ["top", "bottom"] sp_lead := by
  refine F.ok sc_lead_of (fun vs H Q E h => ?_) (fun cdv A outer s H vs Q E hr h => ?_)
  · obtain ⟨t, b, rfl, _⟩ := h
    rfl
  · obtain ⟨t, b, rfl, pb, ob, q⟩ := h
    have nd := sc_lead_of.nd
    refine ⟨_, PSs.nox (pss_cons (ps_set (i := 2) nd rfl (Or.inl rfl) pe_int)
      (pss_cons (ps_while PassesOwn.never (PW.pt (pw_or (pt_cmpR op_gt (pv 0) pe_int (nomark _)) (pw_or1 (pt_cmpR op_lt (pv 0) (pe_un un_neg (pv 1)) (nomark _))))) (pss_cons (ps_set (i := 0) nd rfl (Or.inl rfl) (pe_op op_shr (pe_op op_sub (pv 0) (pe_op op_mulO (pe_op op_and (pv 0) pe_int) (pv 1))) pe_int))
      (pss_one (ps_set (i := 2) nd rfl (Or.inl rfl) (pe_op op_add (pv 2) pe_int)))))
      (pss_one (ps_ret (pv 2))))), ?_⟩
    walk_at "s0"
    walk_at "go"
    refine r_while (fun m σ H' => ∃ n : Nat, σ = [some (.int (hvs b n t)), some (.int b), some (.int n)] ∧ H' = H ∧ m = far b (hvs b n t) ∧ ∀ k, k < n → ¬ In b (hvs b k t)) _ ⟨0, rfl, rfl, rfl, fun k h => by omega⟩ ?_
    rintro m σ H' ⟨n, rfl, rfl, rfl, no⟩
    have step : ¬ In b (hvs b n t) → ∃ m', m' < far b (hvs b n t) ∧ ∃ k : Nat, [some (V.int ((hvs b n t - Builtin.bitAnd (hvs b n t) 1 * b) / 2 ^ (1 : Int).toNat)), some (V.int b), some (V.int (n + 1))] = [some (V.int (hvs b k t)), some (V.int b), some (V.int k)] ∧ H' = H' ∧ m' = far b (hvs b k t) ∧ ∀ j, j < k → ¬ In b (hvs b j t) := by
      intro h
      refine ⟨_, far_hv ob pb h, n + 1, ?_, rfl, by rw [hvs_succ], fun j hj => ?_⟩
      · rw [hv_prog, hvs_succ]
        rfl
      · by_cases z : j = n
        · rw [z]; exact h
        · exact no j (by omega)
    walk_at "go"
    · exact step (fun z => by have := z.2; omega)
    · exact step (fun z => by have := z.1; omega)
    · exact q n ⟨⟨by omega, by omega⟩, no⟩
theorem ok_span_of {f : Addr} {fd : FuncData} (F : FnP K "span_of" "span_of" s_span_of f fd) (B : Bi mg) : FnOk P w K mg base CX0 1 f fd ["bottom"] sp_span := by
  refine F.ok sc_span_of (fun vs H Q E h => ?_) (fun cdv A outer s H vs Q E hr h => ?_)
  · obtain ⟨b, rfl, _⟩ := h
    rfl
  · obtain ⟨b, rfl, pb, ob, q⟩ := h
    have nd := sc_span_of.nd
    refine ⟨_, PSs.nox (pss_cons (ps_par (i := 1) (j := 2) rfl nd rfl rfl (by decide) rfl rfl (pa_cons pe_int (pa_cons (pe_op op_mod pe_int (pv 0)) pa_nil)) rfl)
      (pss_cons (ps_while PassesOwn.never (pt_cmpR op_ne (pv 2) (pe_op op_mod pe_int (pv 0)) (nomark _)) (pss_one (ps_par (i := 1) (j := 2) rfl nd rfl rfl (by decide) rfl rfl (pa_cons (pe_op op_add (pv 1) pe_int) (pa_cons (pe_op op_mod (pe_op op_mulO pe_int (pv 2)) (pv 0)) pa_nil)) rfl)))
      (pss_one (ps_ret (pv 1))))), ?_⟩
    walk_at "s0"
    obtain ⟨p, hp⟩ := isSpan_ex ob pb
    walk_at "go"
    refine r_while (fun m σ H' => ∃ n : Nat, σ = [some (.int b), some (.int n), some (.int (2 ^ n % b))] ∧ H' = H ∧ m = p - n ∧ 1 ≤ n ∧ n ≤ p) _ ⟨1, by rw [Int.pow_one]; rfl, rfl, rfl, Nat.le_refl _, hp.pos⟩ ?_
    rintro m σ H' ⟨n, rfl, rfl, rfl, n1, np⟩
    walk_at "go"
    · have ne : n ≠ p := fun z => hc (by rw [z]; exact Int.emod_eq_emod_iff_emod_sub_eq_zero.mpr (Int.emod_eq_zero_of_dvd hp.dv))
      refine ⟨_, by omega, n + 1, ?_, rfl, rfl, by omega, by omega⟩
      have e : (2 * (2 ^ n % b)) % b = 2 ^ (n + 1) % b := by rw [Int.pow_succ, Int.mul_comm (2 ^ n) 2, Int.mul_emod, Int.emod_emod, ← Int.mul_emod]
      rw [e]
      rfl
    · have d : b ∣ 2 ^ n - 1 := Int.dvd_of_emod_eq_zero (Int.emod_eq_emod_iff_emod_sub_eq_zero.mp hc)
      have e : n = p := by
        by_cases z : n < p
        · exact absurd d (hp.no n n1 z)
        · omega
      exact q n (e ▸ hp)
end

/-! the low bits as the program finds them -/


theorem two_pow_pos (k : Nat) : (0 : Int) < 2 ^ k := Int.pow_pos (by decide)
theorem abs_emod {x : Int} {k : Nat} : (x % 2 ^ k).natAbs < 2 ^ k := by
  have h1 := Int.emod_nonneg x (show (2 : Int) ^ k ≠ 0 from Int.ne_of_gt (two_pow_pos k))
  have h2 := Int.emod_lt_of_pos x (two_pow_pos k)
  have h3 : ((2 ^ k : Nat) : Int) = 2 ^ k := by simp
  omega
/-- a step: twice as many bits of the inverse are right -/
theorem inv_step {b f : Int} {k : Nat} (h : (2 : Int) ^ k ∣ b * f - 1) : (2 : Int) ^ (2 * k) ∣ b * ((f * (2 - b * f)) % 2 ^ (2 * k)) - 1 := by
  obtain ⟨c, e⟩ := h
  have d : (2 : Int) ^ (2 * k) ∣ b * (f * (2 - b * f)) - 1 := ⟨-(c * c), by
    have e2 : (2 : Int) ^ (2 * k) = 2 ^ k * 2 ^ k := by rw [← Int.pow_add]; congr 1; omega
    rw [e2]
    grind⟩
  obtain ⟨g, e3⟩ := d
  have m := Int.emod_add_mul_ediv (f * (2 - b * f)) (2 ^ (2 * k))
  exact ⟨g - b * (f * (2 - b * f) / 2 ^ (2 * k)), by grind⟩
theorem dv_low {a : Int} {j k : Nat} (h : j ≤ k) (d : (2 : Int) ^ k ∣ a) : (2 : Int) ^ j ∣ a := by
  obtain ⟨c, e⟩ := d
  refine ⟨2 ^ (k - j) * c, ?_⟩
  rw [e, ← Int.mul_assoc, ← Int.pow_add]
  congr 2
  omega
theorem dv_emod {b f : Int} {k : Nat} (h : (2 : Int) ^ k ∣ b * f - 1) : (2 : Int) ^ k ∣ b * (f % 2 ^ k) - 1 := by
  obtain ⟨c, e⟩ := h
  have m := Int.emod_add_mul_ediv f (2 ^ k)
  exact ⟨c - b * (f / 2 ^ k), by grind⟩
/-- the inverse below 2 ^ n -/
structure IsInv (b r : Int) (n : Nat) : Prop where
  r0 : 0 ≤ r
  r1 : r < 2 ^ n
  dv : (2 : Int) ^ n ∣ b * r - 1
def sp_inv : Sp := fun vs H Q _ => ∃ (b : Int) (n : Nat), vs = [.int b, .int n] ∧ b % 2 = 1 ∧ b.natAbs < 2 ^ 100000 ∧ n ≤ 1000000 ∧ ∀ r H', Same H H' → IsInv b r n → Q (.int r) H'
/-- the low bits of a fraction -/
structure IsLow (t b r : Int) (n : Nat) : Prop where
  r0 : 0 ≤ r
  r1 : r < 2 ^ n
  dv : (2 : Int) ^ n ∣ b * r - t
def sp_lowof : Sp := fun vs H Q _ => ∃ (t b : Int) (n : Nat), vs = [.int t, .int b, .int n] ∧ b % 2 = 1 ∧ b.natAbs < 2 ^ 100000 ∧ t.natAbs < 2 ^ 1000000 ∧ n ≤ 1000000 ∧ ∀ r H', Same H H' → IsLow t b r n → Q (.int r) H'
theorem c_inv {F : Hp} {L : List (Addr × HO)} {b : Int} {n : Nat} {H : Hp} {Q : VK} {E : XK} (h : Own F H L) (ob : b % 2 = 1) (hb : b.natAbs < 2 ^ 100000) (hn : n ≤ 1000000) (k : ∀ r H', IsInv b r n → Own F H' L → Q (.int r) H') : sp_inv ([.int b, .int n] ++ []) H Q E := ⟨b, n, rfl, ob, hb, hn, fun r H' s i => k r H' i (h.same s)⟩
theorem cshl1 {j : Int} (h0 : 0 ≤ j) (hj : j ≤ 4000000) : CShl 1 j := cshl 1 h0 (by decide) (by omega)
theorem tn_cast (n : Nat) : ((n : Int)).toNat = n := by omega
set_option hygiene false in
local macro_rules | `(tactic| walk_at "sd") => `(tactic| exact Bs.cshl1 (by omega) (by omega))
section
variable {P : Program} {w : World} {K : PySem.W.Frag} {mg : Str → Option Value} {base : Heap}
theorem ok_inverse_low {f : Addr} {fd : FuncData} (F : FnP K "inverse_low" "inverse_low" s_inverse_low f fd) (B : Bi mg) : FnOk P w K mg base CX0 1 f fd ["bottom", "width"] sp_inv := by
  refine F.ok sc_inverse_low (fun vs H Q E h => ?_) (fun cdv A outer s H vs Q E hr h => ?_)
  · obtain ⟨b, n, rfl, _⟩ := h
    rfl
  · obtain ⟨b, n, rfl, ob, hb, hn, q⟩ := h
    have nd := sc_inverse_low.nd
    refine ⟨_, PSs.nox (pss_cons (ps_asg (pe_tup (pa_cons pe_int (pa_cons pe_int pa_nil))) (pg_tup rfl (pgs_cons (pg_name (i := 2) nd rfl (.inl rfl)) (pgs_cons (pg_name (i := 3) nd rfl (.inl rfl)) pgs_nil))))
      (pss_cons (ps_while PassesOwn.never (pt_cmpR op_lt (pv 3) (pv 1) (nomark _)) (pss_cons (ps_set (i := 3) nd rfl (Or.inl rfl) (pe_op op_mulO pe_int (pv 3)))
      (pss_one (ps_set (i := 2) nd rfl (Or.inl rfl) (pe_op op_and (pe_op op_mulO (pv 2) (pe_op op_sub pe_int (pe_op op_mulO (pv 0) (pv 2)))) (pe_op op_sub (pe_op op_shlW pe_int (pv 3)) pe_int))))))
      (pss_one (ps_ret (pe_op op_and (pv 2) (pe_op op_sub (pe_op op_shlW pe_int (pv 1)) pe_int)))))), ?_⟩
    walk_at "s0"
    have ow := Own.start H
    walk_at "go"
    refine r_while (fun m σ H' => ∃ (k : Nat) (g : Int), σ = [some (.int b), some (.int n), some (.int g), some (.int k)] ∧ Same H H' ∧ m = 2000001 - k ∧ 1 ≤ k ∧ k ≤ 2000000 ∧ g.natAbs < 2 ^ k ∧ (2 : Int) ^ k ∣ b * g - 1) _ ⟨1, 1, rfl, ow.toSame_of, rfl, by decide, by decide, by decide, ⟨b / 2, by omega⟩⟩ ?_
    rintro m σ H' ⟨k, g, rfl, sm, rfl, k1, k2, hg, dv⟩
    have c1 : IntMulOk b g := mok_w 100000 2000000 hb (Nat.lt_of_lt_of_le hg (Nat.pow_le_pow_right (by decide) k2)) (by decide)
    have hbg : (b * g).natAbs < 2 ^ (100000 + k) := mulW 100000 k hb hg
    have h2 : (2 - b * g).natAbs < 2 ^ (2100002) := by
      have e : 2 ^ (100000 + k) ≤ 2 ^ 2100000 := Nat.pow_le_pow_right (by decide) (by omega)
      have : 4 * 2 ^ 2100000 = 2 ^ 2100002 := by rw [show 2100002 = 2100000 + 2 by rfl, Nat.pow_add]; omega
      have p := Nat.pow_pos (n := 2100000) (show 0 < 2 by decide)
      generalize 2 ^ 2100000 = z at *
      generalize 2 ^ (100000 + k) = y at *
      generalize 2 ^ 2100002 = x at *
      omega
    have c2 : IntMulOk g (2 - b * g) := mok_w 2000000 2100002 (Nat.lt_of_lt_of_le hg (Nat.pow_le_pow_right (by decide) k2)) h2 (by decide)
    walk_at "go"
    · refine ⟨2000001 - 2 * k, by omega, 2 * k, (g * (2 - b * g)) % 2 ^ (2 * k), ?_, sm, rfl, by omega, by omega, abs_emod, inv_step dv⟩
      rw [Int.one_mul, bandK, show (2 * (k : Int)).toNat = 2 * k by omega]
      rfl
    · rw [Int.one_mul, bandK, tn_cast]
      have le : n ≤ k := by omega
      exact q _ _ sm ⟨Int.emod_nonneg _ (Int.ne_of_gt (two_pow_pos n)), Int.emod_lt_of_pos _ (two_pow_pos n), dv_emod (dv_low le dv)⟩
set_option hygiene false in
local macro_rules | `(tactic| walk_at "r1") => `(tactic| ((with_reducible refine' Bs.c_inv ?p1 ?p2 ?p3 ?p4 ?_); (case p1 => assumption); (case p2 => assumption); (case p3 => assumption); (case p4 => omega); intro rI H' ri ow))
theorem low_mul {t b r : Int} {n : Nat} (h : IsInv b r n) : IsLow t b ((t * r) % 2 ^ n) n := by
  obtain ⟨c, e⟩ := h.dv
  have m := Int.emod_add_mul_ediv (t * r) (2 ^ n)
  exact ⟨Int.emod_nonneg _ (Int.ne_of_gt (two_pow_pos n)), Int.emod_lt_of_pos _ (two_pow_pos n), ⟨t * c - b * (t * r / 2 ^ n), by grind⟩⟩
theorem ok_low_of {f : Addr} {fd : FuncData} (F : FnP K "low_of" "low_of" s_low_of f fd) (B : Bi mg) (c_inverse_low : Fo P w K mg base CX0 1 "inverse_low" ["bottom", "width"] sp_inv) : FnOk P w K mg base CX0 2 f fd ["top", "bottom", "width"] sp_lowof := by
  refine F.ok sc_low_of (fun vs H Q E h => ?_) (fun cdv A outer s H vs Q E hr h => ?_)
  · obtain ⟨t, b, n, rfl, _⟩ := h
    rfl
  · obtain ⟨t, b, n, rfl, ob, hb, ht, hn, q⟩ := h
    have nd := sc_low_of.nd
    refine ⟨_, PSs.nox (pss_one (ps_ret (pe_op op_and (pe_op op_mulO (pv 0) (pe_fo c_inverse_low hr (by decide) (pa_cons (pv 1) (pa_cons (pv 2) pa_nil)))) (pe_op op_sub (pe_op op_shlW pe_int (pv 2)) pe_int)))), ?_⟩
    walk_at "s0"
    have ow := Own.start H
    walk_at "go"
    have c1 : IntMulOk t rI := mok_w 1000000 1000000 ht (Nat.lt_of_lt_of_le (show rI.natAbs < 2 ^ n by
      have h3 : ((2 ^ n : Nat) : Int) = 2 ^ n := by simp
      have := ri.r0; have := ri.r1; omega) (Nat.pow_le_pow_right (by decide) hn)) (by decide)
    walk_at "go"
    rw [Int.one_mul, bandK, tn_cast]
    exact q _ _ ow.toSame_of (low_mul ri)
end

set_option hygiene false in
local macro_rules | `(tactic| walk_at "r1") => `(tactic| ((with_reducible refine' Bs.c_inv ?p1 ?p2 ?p3 ?p4 ?_); (case p1 => assumption); (case p2 => assumption); (case p3 => assumption); (case p4 => omega); intro rI H' ri ow))
/-! bits of fractions, plain -/
/-- the number of the first n bits -/
def lowS (b : Int) : Nat → Int → Int
  | 0, _ => 0
  | n + 1, t => t % 2 + 2 * lowS b n (hv b t)
theorem lowS_eq {b : Int} (ob : b % 2 = 1) : ∀ (n : Nat) (t : Int), t = b * lowS b n t + 2 ^ n * hvs b n t
  | 0, t => by simp [lowS, hvs]
  | n + 1, t => by
    have e := lowS_eq ob n (hv b t)
    have e2 := hv2 (x := t) ob
    show t = b * (t % 2 + 2 * lowS b n (hv b t)) + 2 ^ (n + 1) * hvs b n (hv b t)
    rw [Int.pow_succ]
    grind
theorem lowS_bd (b : Int) : ∀ (n : Nat) (t : Int), 0 ≤ lowS b n t ∧ lowS b n t < 2 ^ n
  | 0, t => by simp [lowS]
  | n + 1, t => by
    have h := lowS_bd b n (hv b t)
    have p := Int.emod_two_eq t
    show 0 ≤ t % 2 + 2 * lowS b n (hv b t) ∧ t % 2 + 2 * lowS b n (hv b t) < 2 ^ (n + 1)
    rw [Int.pow_succ]
    omega
theorem lowS_succ (b : Int) : ∀ (n : Nat) (t : Int), lowS b (n + 1) t = lowS b n t + 2 ^ n * (hvs b n t % 2)
  | 0, t => by simp [lowS, hvs]
  | n + 1, t => by
    have e := lowS_succ b n (hv b t)
    show t % 2 + 2 * lowS b (n + 1) (hv b t) = (t % 2 + 2 * lowS b n (hv b t)) + 2 ^ (n + 1) * (hvs b n (hv b t) % 2)
    rw [Int.pow_succ]
    grind
theorem dv_odd {b : Int} (ob : b % 2 = 1) : ∀ (n : Nat) {x : Int}, (2 : Int) ^ n ∣ b * x → (2 : Int) ^ n ∣ x
  | 0, x, _ => by simp
  | n + 1, x, h => by
    have h2 : (2 : Int) ∣ b * x := by
      obtain ⟨c, e⟩ := h
      exact ⟨2 ^ n * c, by rw [e, Int.pow_succ]; grind⟩
    have x2 : x % 2 = 0 := by
      have := Int.emod_eq_zero_of_dvd h2
      rw [Int.mul_emod, ob, Int.one_mul, Int.emod_emod] at this
      exact this
    obtain ⟨y, ey⟩ := Int.dvd_of_emod_eq_zero x2
    obtain ⟨c, e⟩ := h
    have : (2 : Int) ^ n ∣ b * y := ⟨c, by
      rw [ey, Int.pow_succ] at e
      have : 2 * (b * y) = 2 * (2 ^ n * c) := by grind
      omega⟩
    obtain ⟨d, ed⟩ := dv_odd ob n this
    exact ⟨d, by rw [ey, ed, Int.pow_succ]; grind⟩
theorem low_is {t b r : Int} {n : Nat} (ob : b % 2 = 1) (h : IsLow t b r n) : r = lowS b n t := by
  have e := lowS_eq ob n t
  have bd := lowS_bd b n t
  obtain ⟨c, ec⟩ := h.dv
  have d : (2 : Int) ^ n ∣ b * (r - lowS b n t) := ⟨c + hvs b n t, by grind⟩
  obtain ⟨k, ek⟩ := dv_odd ob n d
  have p := two_pow_pos n
  have r0 := h.r0
  have r1 := h.r1
  generalize hz : (2 : Int) ^ n = z at *
  have kk : k = 0 := by
    have h1 : z * k < z * 1 := by omega
    have h2 : z * (-1) < z * k := by omega
    have := Int.lt_of_mul_lt_mul_left h1 (by omega)
    have := Int.lt_of_mul_lt_mul_left h2 (by omega)
    omega
  subst kk
  omega
theorem low_bit {t b r : Int} {n : Nat} (ob : b % 2 = 1) (h : IsLow t b r (n + 1)) : r / 2 ^ n = hvs b n t % 2 := by
  rw [low_is ob h, lowS_succ]
  have bd := lowS_bd b n t
  rw [Int.add_mul_ediv_left _ _ (Int.ne_of_gt (two_pow_pos n)), Int.ediv_eq_zero_of_lt bd.1 bd.2, Int.zero_add]
theorem hvs_cyc {b y : Int} {p : Nat} (h : hvs b p y = y) : ∀ m : Nat, hvs b (m * p) y = y
  | 0 => by rw [Nat.zero_mul]; rfl
  | m + 1 => by rw [Nat.succ_mul, hvs_add, h, hvs_cyc h m]
theorem hvs_place {b x : Int} {L p : Nat} (ob : b % 2 = 1) (pb : 0 < b) (g : Int.gcd x b = 1) (hL : IsLead b x L) (hp : IsSpan b p) {i : Nat} (h : L ≤ i) : hvs b i x = hvs b (L + (i - L) % p) x := by
  have e := per ob pb g hL hp
  rw [Nat.add_comm, hvs_add] at e
  have m := Nat.mod_add_div (i - L) p
  have c := hvs_cyc e ((i - L) / p)
  rw [show i = (i - L) % p + (((i - L) / p) * p + L) by rw [Nat.mul_comm] at m; omega, hvs_add, hvs_add, c]
  rw [show L + ((i - L) % p + (((i - L) / p) * p + L) - L) % p = (i - L) % p + L by
    rw [show (i - L) % p + (((i - L) / p) * p + L) - L = (i - L) % p + ((i - L) / p) * p by omega, Nat.add_mul_mod_self_right, Nat.mod_mod]
    omega, hvs_add]

/-! calls of the low bits, leads, spans -/
theorem lt_pw {x : Nat} {n : Nat} (h : x ≤ 1000) (hn : Nat.ble 10 n = true) : x < 2 ^ n := Nat.lt_of_le_of_lt h (Nat.lt_of_lt_of_le (show 1000 < 2 ^ 10 by decide) (Nat.pow_le_pow_right (by decide) (Nat.le_of_ble_eq_true hn)))
/-- sizes that the low bits bear -/
structure Wd (t b : Int) : Prop where
  t1 : t.natAbs < 2 ^ 100000
  b1 : b.natAbs < 2 ^ 8000
theorem wd_pw {t b : Int} (h : t.natAbs ≤ 1000) (g : b.natAbs ≤ 1000) : Wd t b := ⟨lt_pw h rfl, lt_pw g rfl⟩
theorem c_lead {t b : Int} {H : Hp} {Q : VK} {E : XK} (pb : 0 < b) (ob : b % 2 = 1) (k : ∀ n : Nat, IsLead b t n → Q (.int n) H) : sp_lead ([.int t, .int b] ++ []) H Q E := ⟨t, b, rfl, pb, ob, k⟩
theorem c_span {b : Int} {H : Hp} {Q : VK} {E : XK} (pb : 0 < b) (ob : b % 2 = 1) (k : ∀ n : Nat, IsSpan b n → Q (.int n) H) : sp_span ([.int b] ++ []) H Q E := ⟨b, rfl, pb, ob, k⟩
theorem c_lowof {F H : Hp} {L : List (Addr × HO)} {t b i : Int} {Q : VK} {E : XK} (h : Own F H L) (ob : b % 2 = 1) (wd : Wd t b) (h0 : 0 ≤ i) (hi : i ≤ 1000000) (k : ∀ r H', Own F H' L → IsLow t b r i.toNat → Q (.int r) H') : sp_lowof ([.int t, .int b, .int i] ++ []) H Q E :=
  ⟨t, b, i.toNat, by rw [Int.toNat_of_nonneg h0]; rfl, ob, Nat.lt_of_lt_of_le wd.b1 (Nat.pow_le_pow_right (by decide) (by decide)), Nat.lt_of_lt_of_le wd.t1 (Nat.pow_le_pow_right (by decide) (by decide)), by omega, fun r H' s l => k r H' (h.same s) l⟩
set_option hygiene false in
local macro_rules | `(tactic| walk_at "r1") => `(tactic| first
  | ((with_reducible refine' Bs.c_lead ?p1 ?p2 ?_); (case p1 => assumption); (case p2 => assumption); intro nL hL)
  | ((with_reducible refine' Bs.c_span ?p1 ?p2 ?_); (case p1 => assumption); (case p2 => assumption); intro nS hS)
  | ((with_reducible refine' Bs.c_lowof ?p1 ?p2 ?p3 ?p5 ?p6 ?_); (case p1 => assumption); (case p2 => assumption); (case p3 => assumption); (case p5 => omega); (case p6 => omega); intro rL H' ow hl)
  | ((with_reducible refine' Bs.o_W ?p1 ?p2 ?p3 ?_); (case p1 => assumption); (case p2 => exact Bs.Wd.b1 (by assumption)); (case p3 => first | assumption | exact Bs.ok_odd (by assumption)); intro pW dW H' np ow))

/-! the properties lead and span -/


def sp_plead (C : Addr) : Sp := fun vs H Q _ => ∃ (a dx : Addr) (t b : Int), vs = [.ref a] ∧ H a = some (.ins C dx (wfl t b)) ∧ 0 < b ∧ b % 2 = 1 ∧ ∀ n : Nat, IsLead b t n → Q (.int n) H
def sp_pspan (C : Addr) : Sp := fun vs H Q _ => ∃ (a dx : Addr) (t b : Int), vs = [.ref a] ∧ H a = some (.ins C dx (wfl t b)) ∧ 0 < b ∧ b % 2 = 1 ∧ ∀ n : Nat, IsSpan b n → Q (.int n) H
theorem c_plead {H : Hp} {C a dx : Addr} {t b : Int} {Q : VK} {E : XK} (e : H a = some (.ins C dx (wfl t b))) (pb : 0 < b) (ob : b % 2 = 1) (k : ∀ n : Nat, IsLead b t n → Q (.int n) H) : sp_plead C [.ref a] H Q E := ⟨a, dx, t, b, rfl, e, pb, ob, k⟩
theorem c_pspan {H : Hp} {C a dx : Addr} {t b : Int} {Q : VK} {E : XK} (e : H a = some (.ins C dx (wfl t b))) (pb : 0 < b) (ob : b % 2 = 1) (k : ∀ n : Nat, IsSpan b n → Q (.int n) H) : sp_pspan C [.ref a] H Q E := ⟨a, dx, t, b, rfl, e, pb, ob, k⟩
theorem isLead_uniq {b t : Int} {n m : Nat} (h : IsLead b t n) (g : IsLead b t m) : n = m := by
  rcases Nat.lt_trichotomy n m with z | z | z
  · exact absurd h.is (g.no n z)
  · exact z
  · exact absurd g.is (h.no m z)
theorem isSpan_uniq {b : Int} {n m : Nat} (h : IsSpan b n) (g : IsSpan b m) : n = m := by
  rcases Nat.lt_trichotomy n m with z | z | z
  · exact absurd h.dv (g.no n h.pos z)
  · exact z
  · exact absurd g.dv (h.no m g.pos z)
theorem c_pleadK {H : Hp} {C a dx : Addr} {t b : Int} {N : Nat} {Q : VK} {E : XK} (e : H a = some (.ins C dx (wfl t b))) (pb : 0 < b) (ob : b % 2 = 1) (hL : IsLead b t N) (k : Q (.int N) H) : sp_plead C [.ref a] H Q E := ⟨a, dx, t, b, rfl, e, pb, ob, fun n h => by rw [isLead_uniq h hL]; exact k⟩
theorem c_pspanK {H : Hp} {C a dx : Addr} {t b : Int} {N : Nat} {Q : VK} {E : XK} (e : H a = some (.ins C dx (wfl t b))) (pb : 0 < b) (ob : b % 2 = 1) (hS : IsSpan b N) (k : Q (.int N) H) : sp_pspan C [.ref a] H Q E := ⟨a, dx, t, b, rfl, e, pb, ob, fun n h => by rw [isSpan_uniq h hS]; exact k⟩
set_option hygiene false in
local macro_rules | `(tactic| walk_at "r1") => `(tactic| first
  | ((with_reducible refine' Bs.o_propF ?p1 ?_); (case p1 => walk_at "hx"))
  | ((with_reducible refine' Bs.c_get ?p1 ?p2 ?_); (case p1 => walk_at "hx"); (case p2 => walk_at "lk"))
  | ((with_reducible refine' Bs.c_pleadK ?p1 ?p2 ?p3 ?p4 ?_); (case p1 => walk_at "hx"); (case p2 => assumption); (case p3 => assumption); (case p4 => with_reducible assumption))
  | ((with_reducible refine' Bs.c_pspanK ?p1 ?p2 ?p3 ?p4 ?_); (case p1 => walk_at "hx"); (case p2 => assumption); (case p3 => assumption); (case p4 => with_reducible assumption))
  | ((with_reducible refine' Bs.c_plead ?p1 ?p2 ?p3 ?_); (case p1 => walk_at "hx"); (case p2 => assumption); (case p3 => assumption); intro nL hL)
  | ((with_reducible refine' Bs.c_pspan ?p1 ?p2 ?p3 ?_); (case p1 => walk_at "hx"); (case p2 => assumption); (case p3 => assumption); intro nS hS))
section
variable {P : Program} {w : World} {K : PySem.W.Frag} {mg : Str → Option Value} {base : Heap} {C f : Addr} {fd : FuncData}
theorem ok_Word_lead (F : FnP K "lead" "Word.lead" s_Word_lead f fd) (B : Bi mg) (c_lead_of : Fo P w K mg base CX0 1 "lead_of" ["top", "bottom"] (sp_lead)) (cl : Cls K C) (nT : NoAttr K C "kept_top") (nB : NoAttr K C "kept_bottom") : FnOk P w K mg base CX0 2 f fd ["self"] (sp_plead C) := by
  refine F.ok sc_Word_lead (fun vs H Q E h => by walk_at "len") (fun cdv A outer s H vs Q E hr h => ?_)
  have nd := sc_Word_lead.nd
  obtain ⟨a, dx, t, b, rfl, ea, pb, ob, q⟩ := h
  refine ⟨_, PSs.nox (pss_one (ps_ret (pe_fo c_lead_of hr (by decide) (pa_cons (pe_fld (pv 0) rfl) (pa_cons (pe_fld (pv 0) rfl) pa_nil))))), ?_⟩
  walk_at "s0"
  have ow := Own.start H
  walk_at "go"
  exact q nL hL
theorem ok_Word_span (F : FnP K "span" "Word.span" s_Word_span f fd) (B : Bi mg) (c_span_of : Fo P w K mg base CX0 1 "span_of" ["bottom"] (sp_span)) (cl : Cls K C) (nB : NoAttr K C "kept_bottom") : FnOk P w K mg base CX0 2 f fd ["self"] (sp_pspan C) := by
  refine F.ok sc_Word_span (fun vs H Q E h => by walk_at "len") (fun cdv A outer s H vs Q E hr h => ?_)
  have nd := sc_Word_span.nd
  obtain ⟨a, dx, t, b, rfl, ea, pb, ob, q⟩ := h
  refine ⟨_, PSs.nox (pss_one (ps_ret (pe_fo c_span_of hr (by decide) (pa_cons (pe_fld (pv 0) rfl) pa_nil)))), ?_⟩
  walk_at "s0"
  have ow := Own.start H
  walk_at "go"
  exact q nS hS
end

/-! the first bits of a word, plain -/
/-- the first n bits -/
def bitsL (b t : Int) (n : Nat) : List Int := (List.range n).map fun i => hvs b i t % 2
theorem bitsL_succ (b t : Int) (n : Nat) : bitsL b t (n + 1) = bitsL b t n ++ [hvs b n t % 2] := by
  unfold bitsL
  rw [List.range_succ, List.map_append]
  rfl
theorem bitsL_len (b t : Int) (n : Nat) : (bitsL b t n).length = n := by unfold bitsL; simp
theorem at_bits {b t : Int} {n : Nat} {j : Int} (h0 : 0 ≤ j) (h : j < n) : atI ((bitsL b t n).map V.int) j = some (.int (hvs b j.toNat t % 2)) := by
  unfold L2.atI L2.ixN
  have l : ((bitsL b t n).map V.int).length = n := by rw [List.length_map, bitsL_len]
  rw [if_pos h0, l, if_pos h]
  show ((bitsL b t n).map V.int)[j.toNat]? = _
  have z : j.toNat < n := by omega
  unfold bitsL
  simp [z]

/-! the bits of a word, and the place behind a place -/


/-- a word's object, with its lead and span -/
structure WordAt (C : Addr) (H : Hp) (a : Addr) (t b : Int) (L S : Nat) : Prop where
  at_ : ∃ dx, H a = some (.ins C dx (wfl t b))
  pb : 0 < b
  ob : b % 2 = 1
  g : Int.gcd t b = 1
  wd : Wd t b
  hL : IsLead b t L
  hS : IsSpan b S
theorem WordAt.same {C : Addr} {H H' : Hp} {a : Addr} {t b : Int} {L S : Nat} (h : WordAt C H a t b L S) (s : Same H H') : WordAt C H' a t b L S := by
  obtain ⟨⟨dx, e⟩, h1, h2, h3, h4, h5, h6⟩ := h
  exact ⟨⟨dx, s _ _ e⟩, h1, h2, h3, h4, h5, h6⟩
/-- the place behind a place -/
def nxp (L S p : Nat) : Nat := if p + 1 < L + S then p + 1 else L
/-- the bit of a place -/
def wbit (b t : Int) (k : Nat) : Nat := (hvs b k t % 2).toNat
theorem wbit_lt {b t : Int} {k : Nat} : wbit b t k < 2 := by unfold wbit; omega
theorem wbit_int {b t : Int} {k : Nat} : ((wbit b t k : Nat) : Int) = hvs b k t % 2 := by unfold wbit; omega
theorem nxp_lt {L S p : Nat} (h : 1 ≤ S) : nxp L S p < L + S := by unfold nxp; split <;> omega
theorem hvs_nxp {b t : Int} {L S p : Nat} (ob : b % 2 = 1) (pb : 0 < b) (g : Int.gcd t b = 1) (hL : IsLead b t L) (hS : IsSpan b S) (hp : p < L + S) : hvs b (nxp L S p) t = hv b (hvs b p t) := by
  unfold nxp
  rw [← hvs_succ]
  split
  · rfl
  · rw [show p + 1 = L + S by omega, per ob pb g hL hS]
/-- the place behind so many -/
def pos (L S : Nat) : Nat → Nat
  | 0 => 0
  | k + 1 => nxp L S (pos L S k)
theorem pos_lt {L S : Nat} (h : 1 ≤ S) : ∀ k, pos L S k < L + S
  | 0 => by show 0 < L + S; omega
  | k + 1 => nxp_lt h
theorem hvs_pos {b t : Int} {L S : Nat} (ob : b % 2 = 1) (pb : 0 < b) (g : Int.gcd t b = 1) (hL : IsLead b t L) (hS : IsSpan b S) (h1 : 1 ≤ S) : ∀ k, hvs b (pos L S k) t = hvs b k t
  | 0 => rfl
  | k + 1 => by
    show hvs b (nxp L S (pos L S k)) t = _
    rw [hvs_nxp ob pb g hL hS (pos_lt h1 k), hvs_pos ob pb g hL hS h1 k, hvs_succ]
theorem bit_lowW {b : Int} : ∀ {n i : Nat} {t : Int}, i < n → lowS b n t / 2 ^ i % 2 = hvs b i t % 2
  | 0, _, _, h => absurd h (Nat.not_lt_zero _)
  | n + 1, i, t, h => by
    rw [lowS_succ]
    by_cases e : i = n
    · subst e
      have bd := lowS_bd b i t
      have p := two_pow_pos i
      rw [Int.mul_comm, Int.add_mul_ediv_right _ _ (by omega), Int.ediv_eq_zero_of_lt bd.1 bd.2]
      omega
    · have hi : i < n := by omega
      obtain ⟨d, rfl⟩ : ∃ d, n = i + 1 + d := ⟨n - (i + 1), by omega⟩
      have p := two_pow_pos i
      have e2 : (2 : Int) ^ (i + 1 + d) * (hvs b (i + 1 + d) t % 2) = (2 * (2 ^ d * (hvs b (i + 1 + d) t % 2))) * 2 ^ i := by
        rw [Int.pow_add, Int.pow_succ]
        generalize (2 : Int) ^ i = A
        generalize (2 : Int) ^ d = B
        generalize hvs b (i + 1 + d) t % 2 = c
        rw [Int.mul_comm A 2, Int.mul_assoc, Int.mul_assoc, Int.mul_assoc, Int.mul_comm A]
      rw [e2, Int.add_mul_ediv_right _ _ (by omega), ← bit_lowW (t := t) hi]
      omega
theorem wbV {r : Int} (i : Nat) : Builtin.bitAnd (r / 2 ^ ((0 : Int) + (i : Int)).toNat) 1 = r / 2 ^ i % 2 := by
  rw [bitAnd_m1, Int.zero_add, Int.toNat_natCast]
def sp_wbits (K : PySem.W.Frag) (C : Addr) : Sp := fun vs H Q _ => ∃ (a : Addr) (t b : Int) (L S : Nat), vs = [.ref a] ∧ WordAt C H a t b L S ∧ L + S ≤ 100000 ∧
  ∀ r q H', Same H H' → H r = none → H q = none → H' r = some (.tup [.ref q, .int (L : Nat)]) → H' q = some (.tup ((bitsL b t (L + S)).map V.int)) → Q (.ref r) H'
def sp_nextp (K : PySem.W.Frag) : Sp := fun vs H Q _ => ∃ (r q : Addr) (L S p : Nat) (bs : List V), vs = [.ref r, .int (p : Nat)] ∧ SqT K H r [.ref q, .int (L : Nat)] ∧ SqT K H q bs ∧ bs.length = L + S ∧ p ≤ 1000000 ∧ L + S ≤ 1000000 ∧ Q (.int (nxp L S p : Nat)) H
section
variable {P : Program} {w : World} {K : PySem.W.Frag} {mg : Str → Option Value} {base : Heap} {C f : Addr} {fd : FuncData}
theorem ok_next_place (F : FnP K "next_place" "next_place" s_next_place f fd) (B : Bi mg)  : FnOk P w K mg base CX0 1 f fd ["row", "place"] (sp_nextp K) := by
  refine F.ok sc_next_place (fun vs H Q E h => by walk_at "len") (fun cdv A outer s H vs Q E hr h => ?_)
  have nd := sc_next_place.nd
  obtain ⟨r, q', L, S, p, bs, rfl, s1, s2, lb, hp, hl, q⟩ := h
  refine ⟨_, PSs.nox (pss_cons (ps_asg (pv 0) (pg_tup rfl (pgs_cons (pg_name (i := 2) nd rfl (.inl rfl)) (pgs_cons (pg_name (i := 3) nd rfl (.inl rfl)) pgs_nil))))
      (pss_one (ps_ret (pe_ifExp (pt_cmpR op_lt (pe_op op_add (pv 1) pe_int) (pe_callB cb_len rfl B.len (by decide +kernel) (pa_cons (pv 2) pa_nil)) (nomark _)) (pe_op op_add (pv 1) pe_int) (pv 3))))), ?_⟩
  walk_at "s0"
  have ow := Own.start H
  have eb : (bs.length : Int) = ((L + S : Nat) : Int) := by rw [lb]
  walk_at "go"
  · have e : nxp L S p = p + 1 := by unfold nxp; rw [if_pos (by omega)]
    rw [e] at q
    exact q
  · have e : nxp L S p = L := by unfold nxp; rw [if_neg (by omega)]
    rw [e] at q
    exact q
theorem ok_word_bits (F : FnP K "word_bits" "word_bits" s_word_bits f fd) (B : Bi mg) (p_lead : PrC P w K mg base CX0 C "lead" 2 (sp_plead C)) (p_span : PrC P w K mg base CX0 C "span" 2 (sp_pspan C)) (c_low_of : Fo P w K mg base CX0 2 "low_of" ["top", "bottom", "width"] (sp_lowof)) (p_top : PrC P w K mg base CX0 C "top" 1 (getSp C "kept_top")) (p_bottom : PrC P w K mg base CX0 C "bottom" 1 (getSp C "kept_bottom")) : FnOk P w K mg base CX0 5 f fd ["word"] (sp_wbits K C) := by
  refine F.ok sc_word_bits (fun vs H Q E h => by walk_at "len") (fun cdv A outer s H vs Q E hr h => ?_)
  have nd := sc_word_bits.nd
  obtain ⟨a, t, b, L, S, rfl, wa, hl, q⟩ := h
  obtain ⟨⟨dx, ea⟩, pb, ob, g, wd, hL, hS⟩ := id wa
  refine ⟨_, PSs.nox (pss_cons (ps_par (i := 1) (j := 2) rfl nd rfl rfl (by decide) rfl rfl (pa_cons (pe_wp p_lead hr (by decide) (pv 0)) (pa_cons (pe_op op_add (pe_wp p_lead hr (by decide) (pv 0)) (pe_wp p_span hr (by decide) (pv 0))) pa_nil)) rfl)
      (pss_cons (ps_set (i := 3) nd rfl (Or.inr rfl) (pe_fo c_low_of hr (by decide) (pa_cons (pe_wp p_top hr (by decide) (pv 0)) (pa_cons (pe_wp p_bottom hr (by decide) (pv 0)) (pa_cons (pv 2) pa_nil)))))
      (pss_one (ps_ret (pe_tup (pa_cons (pe_callTy cb_tupof rfl B.tuple (by decide +kernel) (pa_cons (pe_lc (own := [("place", 4)]) (g := gName 4) (tt := tYes) (by rfl) nd (pi_range1 rfl B.range (pa_cons (pv 2) pa_nil)) (blkOk_by (own := [("place", 4)]) (N := ["word", "lead", "many", "low", "place"]) (sc := defScope s_word_bits) (by decide +kernel)) (fun _ _ _ _ _ => pg_name (i := 4) nd rfl (Or.inl rfl)) (fun _ _ _ _ _ => pts_nil) (fun _ _ _ _ _ => (pe_op op_and (pe_op op_shr (pv 3) (pv 4)) pe_int))) pa_nil)) (pa_cons (pv 1) pa_nil))))))), ?_⟩
  walk_at "s0"
  have ow := Own.start H
  walk_at "go"
  refine r_lc ?_
  walk_at "go"
  have en : ((L : Int) + (S : Int)).toNat = L + S := by omega
  rw [en] at hl ⊢
  have er := low_is ob hl
  refine c_lcR (fun i => .int (hvs b i t % 2)) ow (by omega) (fun _ => rfl) ?_ ?_
  · intro i D H4 R hi ow5 hR
    clear ow
    have ow := ow5
    walk_at "go"
    rw [wbV, er, bit_lowW hi]
    exact hR _ ow
  intro D H4 nD ow5
  clear ow
  have ow := ow5
  walk_at "go"
  have eb : ((List.range (L + S)).map fun i => V.int (hvs b i t % 2)) = (bitsL b t (L + S)).map V.int := by
    unfold bitsL
    rw [List.map_map]
    rfl
  rw [eb] at ow
  exact q pT _ _ ow.toSame_of (ow.new0 g0) (ow.new0 g1) (ow.get 0 rfl) (ow.get 1 rfl)
end

/-! plain: a word for a name: rooms and places -/
/-- the state behind a letter: a room and a place -/
def stG (T : Tab) (a : Nat) (w : Nat → Nat) (nx : Nat → Nat) (s : Sta) (c : Nat) : Option Sta :=
  (fol T (s[0]?.getD 0).toNat (insB a (w (s[1]?.getD 0).toNat) c)).map fun f : Nat => [((f : Nat) : Int), ((nx (s[1]?.getD 0).toNat : Nat) : Int)]
def pG (h p : Nat) : Sta := [(h : Int), (p : Int)]
section
variable {T : Tab} {a m n N : Nat} {w : Nat → Nat} {nx : Nat → Nat}
theorem stG_at (h p c : Nat) : stG T a w nx (pG h p) c = (fol T h (insB a (w p) c)).map fun f => pG f (nx p) := by
  unfold stG pG
  simp
/-- so many places from the first one -/
def itn (nx : Nat → Nat) : Nat → Nat
  | 0 => 0
  | k + 1 => nx (itn nx k)
/-- what part_with tells -/
theorem part_acc {α : Nat → Nat} (ex : ExN (stG T a w nx) m (pG 0 0) n) : Acc (tabS (stG T a w nx) m (pG 0 0) n) 0 α ↔ (∀ k, α k < m) ∧ Acc T 0 fun k => insB a (w (itn nx k)) (α k) := by
  rw [ex.acc]
  constructor
  · rintro ⟨s, s0, hs⟩
    have inv : ∀ k, ∃ h, s k = pG h (itn nx k) := fun k => by
      induction k with
      | zero => exact ⟨0, s0⟩
      | succ k ih =>
        obtain ⟨h, e⟩ := ih
        have := (hs k).2
        rw [e, stG_at] at this
        obtain ⟨f, _, g⟩ := Option.map_eq_some_iff.mp this
        exact ⟨f, g.symm⟩
    refine ⟨fun k => (hs k).1, fun k => ((s k)[0]?.getD 0).toNat, ?_, fun k => ?_⟩
    · show ((s 0)[0]?.getD 0).toNat = 0
      rw [s0]
      rfl
    · obtain ⟨h, e⟩ := inv k
      obtain ⟨h', e'⟩ := inv (k + 1)
      have := (hs k).2
      rw [e, e', stG_at] at this
      obtain ⟨f, hf, g⟩ := Option.map_eq_some_iff.mp this
      show fol T ((s k)[0]?.getD 0).toNat _ = some ((s (k + 1))[0]?.getD 0).toNat
      rw [e, e', ← g]
      exact hf
  · rintro ⟨h1, t, t0, ht⟩
    refine ⟨fun k => pG (t k) (itn nx k), by show pG (t 0) 0 = _; rw [t0], fun k => ⟨h1 k, ?_⟩⟩
    show stG T a w nx (pG (t k) (itn nx k)) (α k) = some (pG (t (k + 1)) (nx (itn nx k)))
    rw [stG_at, ht k]
    rfl
def okG (T : Tab) (N : Nat) (s : Sta) : Prop := ∃ h p, s = pG h p ∧ h < T.length ∧ p < N
def allG (a b : Nat) : List Sta := (List.range a).flatMap fun x => (List.range b).map fun y => pG x y
theorem allG_len (a b : Nat) : (allG a b).length = a * b := by
  unfold allG
  rw [List.length_flatMap]
  simp only [List.length_map, List.length_range]
  rw [List.map_const', List.sum_replicate_nat, List.length_range]
theorem okG_mem {s : Sta} (h : okG T N s) : s ∈ allG T.length N := by
  obtain ⟨x, y, rfl, h1, h2⟩ := h
  exact List.mem_flatMap.mpr ⟨x, List.mem_range.mpr h1, List.mem_map.mpr ⟨y, List.mem_range.mpr h2, rfl⟩⟩
theorem okG_step (tT : TIn T) (hx : ∀ p, nx p < N) {s s' : Sta} {c : Nat} (h : stG T a w nx s c = some s') : okG T N s' := by
  unfold stG at h
  obtain ⟨f, hf, rfl⟩ := Option.map_eq_some_iff.mp h
  exact ⟨f, _, rfl, fol_in tT hf, hx _⟩
theorem nS_G (tT : TIn T) (hx : ∀ p, nx p < N) (h0 : 0 < T.length) (hN : 0 < N) {j : Nat} (hp : ∀ i, i < j → i < (nS (stG T a w nx) m (pG 0 0) i).length) : (∀ s ∈ nS (stG T a w nx) m (pG 0 0) j, okG T N s) ∧ (nS (stG T a w nx) m (pG 0 0) j).length ≤ T.length * N := by
  have h := nS_all (st := stG T a w nx) (m := m) (p := okG T N) ⟨0, 0, rfl, h0, hN⟩ (fun s c s' _ _ e => okG_step tT hx e) j hp
  refine ⟨h, ?_⟩
  rw [← allG_len]
  exact nodup_lenS (nS_nodup j) fun x hx => okG_mem (h x hx)
end

/-! a word for a name -/

theorem ltS_trans {a b c : Str} (h : ltS a b = true) (g : ltS b c = true) : ltS a c = true := by
  unfold ltS at *
  exact decide_eq_true (List.lt_trans (of_decide_eq_true h) (of_decide_eq_true g))
theorem okN_pw : ∀ {ns : List Str}, okN ns = true → ns.Pairwise (fun a b => ltS a b = true) := fun {ns} h => by
  rw [List.pairwise_iff_getElem]
  have adj : ∀ (i : Nat) (h2 : i + 1 < ns.length), ltS (ns[i]'(by omega)) ns[i + 1] = true := fun i h2 => by
    have := List.all_eq_true.mp (ban h).2 (i + 1) (List.mem_range.mpr h2)
    unfold okAt at this
    have := (ban this).2
    rw [decide_eq_false (by omega), Bool.false_or, show i + 1 - 1 = i by omega, List.getElem?_eq_getElem h2, List.getElem?_eq_getElem (show i < ns.length by omega)] at this
    exact this
  intro i j hi hj hij
  obtain ⟨d, rfl⟩ : ∃ d, j = i + 1 + d := ⟨j - (i + 1), by omega⟩
  clear hij
  induction d with
  | zero => exact adj i hj
  | succ d ih => exact ltS_trans (ih (by omega)) (adj (i + 1 + d) hj)
theorem okN_of {ns : List Str} (pw : ns.Pairwise (fun a b => ltS a b = true)) (hl : ∀ x ∈ ns, isL x = true) (l1 : 1 ≤ ns.length) (l3 : ns.length ≤ 3) : okN ns = true := by
  unfold okN
  rw [decide_eq_true l1, decide_eq_true l3, Bool.true_and, Bool.true_and, List.all_eq_true]
  intro i hi
  have hi := List.mem_range.mp hi
  unfold okAt
  rw [List.getElem?_eq_getElem hi]
  show (isL ns[i] && _) = true
  rw [hl _ (List.getElem_mem hi), Bool.true_and]
  by_cases z : i = 0
  · rw [decide_eq_true z, Bool.true_or]
  · have h2 : i - 1 < ns.length := by omega
    rw [decide_eq_false z, Bool.false_or, List.getElem?_eq_getElem h2]
    exact List.pairwise_iff_getElem.mp pw (i - 1) i h2 hi (by omega)
theorem okN_L {ns : List Str} (h : okN ns = true) : ∀ x ∈ ns, isL x = true := fun x hx => by
  obtain ⟨i, hi, rfl⟩ := List.mem_iff_getElem.mp hx
  have := List.all_eq_true.mp (ban h).2 i (List.mem_range.mpr hi)
  unfold okAt at this
  have := (ban this).1
  rw [List.getElem?_eq_getElem hi] at this
  exact this
theorem okN_nd {ns : List Str} (h : okN ns = true) : ns.Nodup := (okN_pw h).imp fun {a b} z => fun e => by
  subst e
  unfold ltS at z
  exact absurd (of_decide_eq_true z) (List.lt_irrefl _)
/-- the other names -/
def othr (ns : List Str) (x : Str) : List Str := ns.filter fun y => decide (y ≠ x)
theorem othr_len {ns : List Str} {x : Str} (nd : ns.Nodup) (m : x ∈ ns) : (othr ns x).length = ns.length - 1 := by
  have e : othr ns x = ns.erase x := by
    rw [nd.erase_eq_filter]
    unfold othr
    refine List.filter_congr fun y _ => ?_
    by_cases h : y = x <;> simp [h]
  rw [e, List.length_erase_of_mem m]
theorem othr_ok {ns : List Str} {x : Str} (h : okN ns = true) (m : x ∈ ns) (l2 : 2 ≤ ns.length) : okN (othr ns x) = true := by
  have l := othr_len (okN_nd h) m
  have l3 := (okN_len h).2
  exact okN_of ((okN_pw h).filter _) (fun y hy => okN_L h y (List.mem_filter.mp hy).1) (by omega) (by omega)
theorem bitOr_pp (m n : Nat) : Builtin.bitOr (m : Int) (n : Int) = ((m ||| n : Nat) : Int) := by
  have hm : (0 : Int) ≤ (m : Int) := Int.natCast_nonneg m
  have hn : (0 : Int) ≤ (n : Int) := Int.natCast_nonneg n
  have h1 : decide ((0 : Int) ≤ Builtin.bitNot (m : Int)) = false := decide_eq_false (by unfold Builtin.bitNot; omega)
  have h2 : decide ((0 : Int) ≤ Builtin.bitNot (n : Int)) = false := decide_eq_false (by unfold Builtin.bitNot; omega)
  have nn : ∀ x : Int, Builtin.bitNot (Builtin.bitNot x) = x := fun x => by unfold Builtin.bitNot; omega
  unfold Builtin.bitOr Builtin.bitAnd
  rw [h1, h2]
  show Builtin.bitNot (Builtin.bitNot _) = _
  rw [nn, nn, nn, Int.toNat_natCast, Int.toNat_natCast]
theorem ins_or {a b c : Nat} (hb : b < 2) : (c % 2 ^ a ||| b * 2 ^ a) ||| c / 2 ^ a * 2 ^ (a + 1) = insB a b c := by
  apply Nat.eq_of_testBit_eq
  intro j
  rw [insB_bit hb, Nat.testBit_or, Nat.testBit_or, Nat.testBit_mod_two_pow, Nat.testBit_mul_two_pow, Nat.testBit_mul_two_pow, Nat.testBit_div_two_pow]
  by_cases h1 : j < a
  · rw [if_pos h1]
    simp [h1, show ¬ a ≤ j by omega, show ¬ a + 1 ≤ j by omega]
  · rw [if_neg h1]
    by_cases h2 : j = a
    · rw [if_pos h2, h2]
      have : b.testBit 0 = decide (b = 1) := by
        rw [Nat.testBit_zero]
        congr 1
        simp
        omega
      simp [this]
      intro z
      omega
    · rw [if_neg h2]
      have h3 : b.testBit (j - a) = false := Nat.testBit_lt_two_pow (Nat.lt_of_lt_of_le hb (show 2 ^ 1 ≤ 2 ^ (j - a) from Nat.pow_le_pow_right (by decide) (by omega)))
      rw [h3]
      simp [h1, show a + 1 ≤ j by omega, show j - (a + 1) + a = j - 1 by omega]
/-- the index as the program reckons it -/
theorem insV {a b c : Nat} (hb : b < 2) : Builtin.bitOr (Builtin.bitOr (Builtin.bitAnd (c : Int) (1 * 2 ^ ((a : Nat) : Int).toNat - 1)) ((b : Int) * 2 ^ ((a : Nat) : Int).toNat)) ((c : Int) / 2 ^ ((a : Nat) : Int).toNat * 2 ^ (((a : Nat) : Int) + 1).toNat) = ((insB a b c : Nat) : Int) := by
  have e1 : (((a : Nat) : Int) + 1).toNat = a + 1 := by omega
  rw [Int.toNat_natCast, e1, Int.one_mul, bandK, show (c : Int) % 2 ^ a = ((c % 2 ^ a : Nat) : Int) by simp, show (b : Int) * 2 ^ a = ((b * 2 ^ a : Nat) : Int) by simp, show (c : Int) / 2 ^ a * 2 ^ (a + 1) = ((c / 2 ^ a * 2 ^ (a + 1) : Nat) : Int) by simp, bitOr_pp, bitOr_pp, ins_or hb]
theorem o_eqSE {K : PySem.W.Frag} {H : Hp} {a c : Addr} {ns : List Str} {Q : VK} (ok : OkS ns) (s : SqL K H a (ns.map V.str)) (e : H c = some (.lst [])) (k : Q (.bl (decide (ns = []))) H) : rEqD K (.ref a) (.ref c) H Q := by
  refine ⟨.list (ns.map PyData.str), .list [], .lst s (dp_strs ns), .lst (SqL.of e) .nil, sh_strs ok, sh_tab [], ?_⟩
  have z : PyData.eqv (.list (ns.map PyData.str)) (.list []) = decide (ns = []) := by cases ns <;> simp [PyData.eqv, PyData.eqvAll]
  rw [z]
  exact k
theorem i_intNo {i : Int} {A B : Prop} (k : B) : if decide (V.int i = V.non) = true then A else B := by rw [if_neg (by simp)]; exact k
theorem r_ixIns {K : PySem.W.Frag} {H : Hp} {ar : Addr} {xs : List V} {a b c : Nat} {v : V} {Q : VK} (hb : b < 2) (s : SqL K H ar xs) (g : atI xs ((insB a b c : Nat) : Int) = some v) (k : Q v H) :
    rIxL K (.ref ar) (.int (Builtin.bitOr (Builtin.bitOr (Builtin.bitAnd (c : Int) (1 * 2 ^ ((a : Nat) : Int).toNat - 1)) ((b : Int) * 2 ^ ((a : Nat) : Int).toNat)) ((c : Int) / 2 ^ ((a : Nat) : Int).toNat * 2 ^ (((a : Nat) : Int) + 1).toNat))) H Q := by
  rw [insV hb]
  exact r_ixL s g k
set_option hygiene false in
local macro_rules | `(tactic| walk_at "sd") => `(tactic| first | assumption)
set_option hygiene false in
local macro_rules | `(tactic| walk_at "r1") => `(tactic| first
  | with_reducible refine Bs.i_intNo ?_
  | ((with_reducible refine' Bs.r_ixIns ?p0 ?p1 ?p2 ?_); (case p0 => assumption); (case p1 => walk_at "hq"); (case p2 => assumption)))
def sp_partwith (K : PySem.W.Frag) (CS C : Addr) : Sp := fun vs H Q _ => ∃ (p wd : Addr) (x : Str) (ns : List Str) (T : Tab) (t b : Int) (L S : Nat), vs = [.ref p, .str x, .ref wd] ∧ SolAt K CS H p ns T ∧ x ∈ ns ∧ 2 ≤ ns.length ∧ WordAt C H wd t b L S ∧ L + S ≤ 100000 ∧ T.length * (L + S) ≤ 1000 ∧
  ∀ M p' H', Canon (2 ^ (othr ns x).length) M → InsAcc (ns.idxOf x) (2 ^ (othr ns x).length) (wbit b t) T M → M.length ≤ T.length * (L + S) → H p' = none → Same H H' → (∀ F2, Same (newF H H') F2 → SolAt K CS F2 p' (othr ns x) M) → Q (.ref p') H'
section
variable {P : Program} {w : World} {K : PySem.W.Frag} {mg : Str → Option Value} {base : Heap} {CS C aInvalidNames aInvalidTable aUnknownName f : Addr} {fd : FuncData}
theorem ok_part_with (F : FnP K "part_with" "part_with" s_part_with f fd) (B : Bi mg) (c_check_known : Fo P w K mg base (L2.CX P w) 3 "check_known" ["names", "known"] (sp_known K aUnknownName)) (p_names : PrC P w K mg base CX0 CS "names" 1 (sp_Snames K CS)) (x_InvalidNames : Xc P w K mg base "InvalidNames" aInvalidNames) (c_Solutions : ClX P w K mg base "Solutions" CS 6 ["self", "names", "table"] (sp_Sol_init K CS aInvalidNames aInvalidTable)) (c_word_bits : Fo P w K mg base CX0 5 "word_bits" ["word"] (sp_wbits K C)) (c_next_place : Fo P w K mg base CX0 1 "next_place" ["row", "place"] (sp_nextp K)) (clS : Cls K CS) (nSr : NoAttr K CS "rooms") : FnOk P w K mg base (L2.CX P w) 9 f fd ["solutions", "name", "word"] (sp_partwith K CS C) := by
  refine F.ok sc_part_with (fun vs H Q E h => by walk_at "len") (fun cdv A outer s H vs Q E hr h => ?_)
  have nd := sc_part_with.nd
  have hu : (A.deeper (envOfC ("part_with" : Str) (defScope s_part_with) s.heap.objs.size f cdv)).units + 1 < cLine := by have := hr.un; omega
  obtain ⟨p, wd, x, ns, T, t, b, L, S, rfl, so, mx, l2, wa, hLS, hlen, q⟩ := h
  have l3 := so.l3
  have lns : (ns.map V.str).length = ns.length := List.length_map _
  have oko := othr_ok so.ok mx l2
  have lo := othr_len (okN_nd so.ok) mx
  obtain ⟨dx, tn, r, ep, st, tt⟩ := so.at_
  refine ⟨_, pss_cons (ps_expr (pe_fx c_check_known hr (by decide) (fun σ => passAt (takes_of rfl rfl rfl rfl) σ) (pa_cons (pe_lst (pa_cons (pv 1) pa_nil)) (pa_cons (pe_wp p_names hr (by decide) (pv 0)) pa_nil))))
      (pss_cons (ps_setLc (i := 3) (own := [("other", 4)]) (g := gName 4) (by rfl) nd rfl rfl (sw_true rfl rfl rfl rfl) (pi_list (pe_wp p_names hr (by decide) (pv 0))) (blkOk_by (own := [("other", 4)]) (N := ["solutions", "name", "word", "others", "other", "at", "bits", "places", "pairs", "rooms", "here", "place", "room", "letter", "low", "high", "follow", "pair"]) (sc := defScope s_part_with) (by decide +kernel)) (fun _ _ _ _ _ => pg_name (i := 4) nd rfl (Or.inl rfl)) (fun _ _ _ _ _ => (pts_one (pt_cmpR op_ne (pv 4) (pv 1) (nomark _)))) (fun _ _ _ _ _ => (pv 4)))
      (pss_cons (ps_if (pt_cmpR (op_eqD hr.units) (pv 3) (pe_lst pa_nil) (nomark _)) (pss_one (ps_rx rfl (takes_of rfl rfl rfl rfl) x_InvalidNames hr (by decide) (pa_cons (pe_lst pa_nil) pa_nil) (mo_cons (mo_lst mo_nil) mo_nil))) pss_nil)
      (pss_cons (ps_if (pt_cmpR (op_eqD hr.units) (pe_fld (pv 0) rfl) (pe_lst pa_nil) (nomark _)) (pss_one (ps_ret (pe_mkCX c_Solutions hr (by decide) (fun σ => passAt (takes_of rfl rfl rfl rfl) σ) (pa_cons (pv 3) (pa_cons (pe_lst pa_nil) pa_nil))))) pss_nil)
      (pss_cons (ps_par (i := 5) (j := 6) rfl nd rfl rfl (by decide) rfl rfl (pa_cons (pe_bm PySem.F.plainAttrs_list PySem.F.slot_list_index PySem.F.type_list_index mt_index (pe_wp p_names hr (by decide) (pv 0)) (pa_cons (pv 1) pa_nil)) (pa_cons (pe_fo c_word_bits hr (by decide) (pa_cons (pv 2) pa_nil)) pa_nil)) rfl)
      (C8.pss_cut (ps_par3 (i := 7) (j := 8) (l := 9) rfl nd rfl rfl rfl (by decide) (by decide) (by decide) rfl rfl rfl (pa_cons (pe_dispT hu (pe_tup (pa_cons pe_int (pa_cons pe_int pa_nil))) pe_int) (pa_cons (pe_lst (pa_cons (pe_tup (pa_cons pe_int (pa_cons pe_int pa_nil))) pa_nil)) (pa_cons (pe_lst pa_nil) pa_nil))) rfl)
      (pss_cons (ps_while (passes_of rfl) (pt_cmpR op_lt (pe_callB cb_len rfl B.len (by decide +kernel) (pa_cons (pv 9) pa_nil)) (pe_callB cb_len rfl B.len (by decide +kernel) (pa_cons (pv 8) pa_nil)) (nomark _)) (pss_cons (ps_asg (pe_ix ix_list (pv 8) (pe_callB cb_len rfl B.len (by decide +kernel) (pa_cons (pv 9) pa_nil)) (fun _ _ => rfl)) (pg_tup rfl (pgs_cons (pg_name (i := 10) nd rfl (.inl rfl)) (pgs_cons (pg_name (i := 11) nd rfl (.inl rfl)) pgs_nil))))
      (pss_cons (ps_set (i := 12) nd rfl (Or.inl rfl) (pe_lst pa_nil))
      (pss_cons (ps_for (passes_of rfl) rfl (pi_range1 rfl B.range (pa_cons (pe_op op_shlW pe_int (pe_callB cb_len rfl B.len (by decide +kernel) (pa_cons (pv 3) pa_nil))) pa_nil)) (pg_name (i := 13) nd rfl (.inl rfl))
      (pss_cons (ps_par (i := 14) (j := 15) rfl nd rfl rfl (by decide) rfl rfl (pa_cons (pe_op op_and (pv 13) (pe_op op_sub (pe_op op_shlW pe_int (pv 5)) pe_int)) (pa_cons (pe_op op_shr (pv 13) (pv 5)) pa_nil)) rfl)
      (pss_cons (ps_set (i := 16) nd rfl (Or.inl rfl) (pe_ix ix_list (pe_ix ix_list (pe_fld (pv 0) rfl) (pv 10) (fun _ _ => rfl)) (pe_op op_or (pe_op op_or (pv 14) (pe_op op_shlW (pe_ix ix_tup (pe_ix ix_tup (pv 6) pe_int (fun _ _ => rfl)) (pv 11) (fun _ _ => rfl)) (pv 5))) (pe_op op_shlW (pv 15) (pe_op op_add (pv 5) pe_int))) (fun _ _ => rfl)))
      (pss_cons (ps_set (i := 17) nd rfl (Or.inl rfl) (pe_tup (pa_cons (pv 16) (pa_cons (pe_fo c_next_place hr (by decide) (pa_cons (pv 6) (pa_cons (pv 11) pa_nil))) pa_nil))))
      (pss_cons (ps_if (PW.pt (pw_and (pt_cmpR op_notN (pv 16) pe_non (nomark _)) (pw_and1 (pt_cmp (pc_dnotin hu (pv 17) (pv 7)))))) (pss_cons (ps_asg (pe_callB cb_len rfl B.len (by decide +kernel) (pa_cons (pv 8) pa_nil)) (pg_sub (pv 7) (pv 17) (set_dict hu)))
      (pss_one (ps_expr (pe_bm PySem.F.plainAttrs_list PySem.F.slot_list_append PySem.F.type_list_append mt_append (pv 8) (pa_cons (pv 17) pa_nil))))) pss_nil)
      (pss_one (ps_expr (pe_bm PySem.F.plainAttrs_list PySem.F.slot_list_append PySem.F.type_list_append mt_append (pv 12) (pa_cons (pe_ifExp (pt_cmpR op_isN (pv 16) pe_non (nomark _)) pe_non (pe_dget hu (pv 7) (pv 17) (fun _ _ => rfl))) pa_nil)))))))))
      (pss_one (ps_expr (pe_bm PySem.F.plainAttrs_list PySem.F.slot_list_append PySem.F.type_list_append mt_append (pv 9) (pa_cons (pv 12) pa_nil))))))))
      (pss_one (ps_ret (pe_mkCX c_Solutions hr (by decide) (fun σ => passAt (takes_of rfl rfl rfl rfl) σ) (pa_cons (pv 3) (pa_cons (pv 9) pa_nil))))))))))), ?_⟩
  walk_at "s0"
  have ow := Own.start H
  walk_at "go"
  refine ⟨pL, pN, [x], ns, rfl, SqL.of (ow.get 1 rfl), SqL.of (ow.get 0 rfl), fun _ H2 s2 => ?_, fun i y hy ny _ => absurd (by
    cases i with
    | zero => cases hy; exact mx
    | succ i => simp at hy) ny⟩
  replace ow := (ow.same s2).drop.drop
  walk_at "go"
  refine r_lc ?_
  walk_at "go"
  refine c_lcF ns.length (by omega) (fun _ => rfl) (fun E i acc H' => acc = (othr (ns.take i) x).map V.str ∧ Own H H' [(E, .lst acc), (pN, .lst (ns.map V.str))]) (fun E nE => ⟨rfl, ow.new nE⟩) ?_ ?_ ?_ ?_
  · rintro E i acc H3 ⟨rfl, ow2⟩ hi
    exact itl_go (SqL.of (ow2.get 1 rfl)) (by rw [lns]; exact hi)
  · rintro E acc H3 ⟨rfl, ow2⟩
    have z := itl_stop (SqL.of (K := K) (ow2.get 1 rfl))
    rw [lns] at z
    exact z
  · rintro E i acc H3 x' H4 R Z hi la ⟨rfl, ow2⟩ ⟨rfl, hy⟩ hR hZ
    clear ow
    have ow := ow2
    have hx := hy _ (SqL.of (ow.get 1 rfl))
    obtain ⟨y, hy2⟩ : ∃ y, ns[i]? = some y := ⟨_, List.getElem?_eq_getElem hi⟩
    rw [List.getElem?_map, hy2] at hx
    cases hx
    have et : ns.take (i + 1) = ns.take i ++ [y] := by rw [List.take_succ, hy2]; rfl
    by_cases e : y = x
    · have eo : othr (ns.take (i + 1)) x = othr (ns.take i) x := by
        rw [et]
        unfold othr
        rw [List.filter_append]
        simp [e]
      rw [eo] at hZ
      walk_at "go"
      · exact absurd (by rw [e]) hc
      · exact hZ _ ⟨rfl, ow⟩
    · have eo : othr (ns.take (i + 1)) x = othr (ns.take i) x ++ [y] := by
        rw [et]
        unfold othr
        rw [List.filter_append]
        simp [e]
      walk_at "go"
      · refine hR _ _ (ow.get 0 rfl) ⟨?_, ow.put 0 rfl⟩
        rw [eo, List.map_append]
        rfl
      · exact absurd (V.str.inj hc) e
  rintro oL acc H3 noL ⟨rfl, ow2⟩ la
  rw [List.take_length] at ow2
  clear ow la
  obtain ⟨ow3, f3⟩ := ow2.frz
  have ow := ow3.drop
  have sO : SqL K (upd H oL (.lst ((othr ns x).map V.str))) oL ((othr ns x).map V.str) := SqL.of upd_same
  generalize upd H oL (.lst ((othr ns x).map V.str)) = F3 at f3 ow sO
  clear ow2 ow3
  have so3 := so.same f3
  have tt3 := tt.same f3
  have ep3 := f3 _ _ ep
  have wa3 := wa.same f3
  walk_at "go"
  refine o_eqSE (okN_S oko) (ow.toSame.seq sO) (ow.get 0 rfl) ?_
  have no0 : othr ns x ≠ [] := fun z => by rw [z] at lo; simp at lo; omega
  rw [decide_eq_false no0]
  walk_at "go"
  refine o_eqTE (tt3.same ow.toSame) (ow.get 0 rfl) ?_
  replace ow := ow.drop.drop
  by_cases c0 : T = []
  · rw [decide_eq_true c0]
    walk_at "go"
    refine cMk_T (isT := false) (T := []) (ow.toSame.seq sO) oko ⟨[], SqL.of (ow.get 0 rfl), .nil⟩ ⟨fun r hr => absurd hr List.not_mem_nil⟩ (fun r hr => absurd hr List.not_mem_nil) (by decide) ?_
    intro M p2 H5 il ll np1 s5 so2
    have sH := f3.trans ow.toSame
    refine q M p2 H5 il.1 (fun α => ?_) (Nat.le_trans ll (Nat.zero_le _)) (same_none sH np1) (sH.trans s5) fun F2 sN => so2 F2 ((newF_pre sH).trans sN) fun z => by cases z
    rw [← il.2 α, c0]
    exact ⟨fun z => absurd ⟨α, z⟩ nil_dead, fun z => absurd ⟨_, z.2⟩ nil_dead⟩
  rw [decide_eq_false c0]
  have l0 := List.length_pos_iff.mpr c0
  have hS1 : 1 ≤ S := wa.hS.pos
  walk_at "go"
  refine c_bmF (SqL.of (ow.get 0 rfl)) ?_
  walk_at "go"
  refine r_idxS (SqL.of (ow.get 0 rfl)) mx ?_
  walk_at "go"
  refine ⟨wd, t, b, L, S, rfl, wa3.same ow.toSame, hLS, fun bT bq H4 s4 nr nq er eq => ?_⟩
  obtain ⟨F4, ow4, f4, sN⟩ := ow.rest s4
  have sbT : SqT K F4 bT [.ref bq, .int (L : Nat)] := SqT.of (sN _ _ (newF_at nr er))
  have sbq : SqT K F4 bq ((bitsL b t (L + S)).map V.int) := SqT.of (sN _ _ (newF_at nq eq))
  clear ow
  have ow := ow4.drop
  clear ow4 sN er eq nr nq
  have hatB : ∀ {pp : Nat}, pp < L + S → atI ((bitsL b t (L + S)).map V.int) ((pp : Nat) : Int) = some (.int (wbit b t pp : Nat)) := fun {pp} h => by
    rw [at_bits (by omega) (by omega), Int.toNat_natCast, wbit_int]
  have lBL : ((bitsL b t (L + S)).map V.int).length = L + S := by rw [List.length_map, bitsL_len]
  generalize (bitsL b t (L + S)).map V.int = BL at sbq hatB lBL
  walk_at "go"
  refine r_cut (fun σ' H' => ∃ (F : Hp) (pP nA fA q0 : Addr), σ' = [some (.ref p), some (.str x), some (.ref wd), some (.ref oL), none, some (.int (ns.idxOf x : Nat)), some (.ref bT), some (.ref pP), some (.ref nA), some (.ref fA), none, none, none, none, none, none, none, none] ∧ Same F4 F ∧ F q0 = some (.tup ((pG 0 0).map V.int)) ∧ Own F H' [(fA, .lst []), (nA, .lst [.ref q0]), (pP, .dT (kvsF 0 [pG 0 0]))]) ?_ ?_
  · walk_at "go"
    intro pP nP
    replace ow := ow.new (o := .dT []) nP
    walk_at "go"
    refine ⟨ow.get 1 rfl, pT, (pG 0 0).map Sum.inl, rfl, by rw [kV_map]; exact ow.get 0 rfl, ?_⟩
    replace ow := ow.put 1 rfl (o := .dT [((pG 0 0).map Sum.inl, V.int 0)])
    walk_at "ow"
    walk_at "go"
    obtain ⟨o1, g1⟩ := ow.frzAt 2 rfl
    obtain ⟨o2, g2⟩ := o1.frzAt 2 rfl
    exact ⟨_, _, _, _, _, rfl, g1.trans g2, g2 _ _ upd_same, o2⟩
  clear ow
  rintro σ' H5 ⟨F0, pP, nA, fA, q0, rfl, f0, hq0, ow⟩
  have fT := f4.trans f0
  have la0 : ns.idxOf x < ns.length := List.idxOf_lt_length_of_mem mx
  have tu0 : TupsAt F0 [.ref q0] (nS (stG T (ns.idxOf x) (wbit b t) (nxp L S)) (2 ^ (othr ns x).length) (pG 0 0) 0) := .cons hq0 .nil
  have kv0 : kvsF 0 [pG 0 0] = kvsF 0 (nS (stG T (ns.idxOf x) (wbit b t) (nxp L S)) (2 ^ (othr ns x).length) (pG 0 0) 0) := rfl
  rw [kv0] at ow
  clear kv0
  have nsp := fun {j : Nat} => nS_G (a := ns.idxOf x) (w := wbit b t) (nx := nxp L S) (N := L + S) (m := (2 ^ (othr ns x).length)) (j := j) so.can.tin (fun p => nxp_lt hS1) l0 (by omega)
  obtain ⟨vsT, sqT, raT⟩ := id tt3
  have lvT := raT.length
  have lov : ((othr ns x).map V.str).length = (othr ns x).length := List.length_map _
  have m8 : (2 ^ (othr ns x).length) ≤ 8 := Nat.le_trans (Nat.pow_le_pow_right (by decide) (show (othr ns x).length ≤ 3 by omega)) (by decide)
  refine r_seq ?_
  refine r_while (fun w' σ H' => ∃ (i : Nat) (F : Hp) (vs us : List V) (u10 u11 u12 u13 u14 u15 u16 u17 : Option V), σ = [some (.ref p), some (.str x), some (.ref wd), some (.ref oL), none, some (.int (ns.idxOf x : Nat)), some (.ref bT), some (.ref pP), some (.ref nA), some (.ref fA), u10, u11, u12, u13, u14, u15, u16, u17] ∧ Same F0 F ∧
      Own F H' [(fA, .lst vs), (nA, .lst us), (pP, .dT (kvsF 0 (nS (stG T (ns.idxOf x) (wbit b t) (nxp L S)) (2 ^ (othr ns x).length) (pG 0 0) i)))] ∧ RoomsAt K F vs ((List.range i).map (roomS (stG T (ns.idxOf x) (wbit b t) (nxp L S)) (2 ^ (othr ns x).length) (pG 0 0))) ∧ TupsAt F us (nS (stG T (ns.idxOf x) (wbit b t) (nxp L S)) (2 ^ (othr ns x).length) (pG 0 0) i) ∧ (∀ x', x' < i → x' < (nS (stG T (ns.idxOf x) (wbit b t) (nxp L S)) (2 ^ (othr ns x).length) (pG 0 0) x').length) ∧ i ≤ (nS (stG T (ns.idxOf x) (wbit b t) (nxp L S)) (2 ^ (othr ns x).length) (pG 0 0) i).length ∧ w' = T.length * (L + S) + 1 - i) _
      ⟨0, F0, [], _, _, _, _, _, _, _, _, _, rfl, Same.refl F0, ow, .nil, tu0, fun x hx => absurd hx (Nat.not_lt_zero x), Nat.zero_le _, rfl⟩ ?_
  clear ow
  rintro w' σ H8 ⟨i, F, vs, us, u10, u11, u12, u13, u14, u15, u16, u17, rfl, hF, ow, rs, tu, hp, hi, rfl⟩
  have lv : vs.length = i := by rw [rs.length, List.length_map, List.length_range]
  have lu := tu.length
  obtain ⟨okN', lk⟩ := nsp hp
  by_cases hlt : i < (nS (stG T (ns.idxOf x) (wbit b t) (nxp L S)) (2 ^ (othr ns x).length) (pG 0 0) i).length
  · obtain ⟨N, hN⟩ : ∃ N, N = nS (stG T (ns.idxOf x) (wbit b t) (nxp L S)) (2 ^ (othr ns x).length) (pG 0 0) i := ⟨_, rfl⟩
    rw [← hN] at ow tu okN' lk hlt lu
    have hsN : atS N i ∈ N := atS_mem hlt
    have hsi : N[i]? = some (atS N i) := by unfold atS; rw [List.getElem?_eq_getElem hlt]; rfl
    obtain ⟨h, pp, hxy, hh, hpp⟩ := okN' _ hsN
    obtain ⟨q1, hu1, hq1⟩ := tu.at hsi
    have hui : i < us.length := by omega
    generalize hs : atS N i = sA at *
    subst hxy
    have hat : atI us (vs.length : Int) = some (.ref q1) := by rw [lv]; exact at_nat rfl hu1
    have sq1 : SqT K F q1 [.int (h : Nat), .int (pp : Nat)] := SqT.of hq1
    have sOc := (f4.trans (f0.trans hF)).seq sO
    walk_at "go"
    rw [lov, two_pow]
    refine ⟨Int.le_trans (by decide) (Int.natCast_nonneg _), Int.lt_of_le_of_lt (Int.ofNat_le.mpr m8) (by decide), ?_⟩
    rw [Int.toNat_natCast]
    generalize pL = rA at *
    obtain ⟨rr, hrr⟩ : ∃ rr, T[h]? = some rr := ⟨_, List.getElem?_eq_getElem hh⟩
    obtain ⟨v0, hv0, ar, rfl, sr⟩ := raT.at hrr
    have lrr := so.can.rows rr (List.mem_of_getElem? hrr)
    have hatT : atI vsT ((h : Nat) : Int) = some (.ref ar) := at_nat rfl hv0
    have hwb := wbit_lt (b := b) (t := t) (k := pp)
    have hatBp := hatB hpp
    refine for_range (fun c σ' H' => ∃ (F' : Hp) (us' : List V) (u13 u14 u15 u16 u17 : Option V), σ' = [some (.ref p), some (.str x), some (.ref wd), some (.ref oL), none, some (.int (ns.idxOf x : Nat)), some (.ref bT), some (.ref pP), some (.ref nA), some (.ref fA), some (.int (h : Nat)), some (.int (pp : Nat)), some (.ref rA), u13, u14, u15, u16, u17] ∧ Same F F' ∧
      Own F' H' [(rA, .lst (accS N (rowS (stG T (ns.idxOf x) (wbit b t) (nxp L S)) (2 ^ (othr ns x).length) (pG h pp)) c)), (fA, .lst vs), (nA, .lst us'), (pP, .dT (kvsF 0 (foldS N ((rowS (stG T (ns.idxOf x) (wbit b t) (nxp L S)) (2 ^ (othr ns x).length) (pG h pp)).take c))))] ∧ TupsAt F' us' (foldS N ((rowS (stG T (ns.idxOf x) (wbit b t) (nxp L S)) (2 ^ (othr ns x).length) (pG h pp)).take c))) ⟨F, us, _, _, _, _, _, rfl, Same.refl F, ow, tu⟩ ?_ ?_
    · clear ow
      rintro c σ' H9 hc ⟨F', us', u13, u14, u15, u16, u17, rfl, hF', ow, tu⟩
      rw [Int.zero_add]
      have here : (rowS (stG T (ns.idxOf x) (wbit b t) (nxp L S)) (2 ^ (othr ns x).length) (pG h pp))[c]? = some ((stG T (ns.idxOf x) (wbit b t) (nxp L S)) (pG h pp) c) := rowS_at hc _
      have et : (rowS (stG T (ns.idxOf x) (wbit b t) (nxp L S)) (2 ^ (othr ns x).length) (pG h pp)).take (c + 1) = (rowS (stG T (ns.idxOf x) (wbit b t) (nxp L S)) (2 ^ (othr ns x).length) (pG h pp)).take c ++ [(stG T (ns.idxOf x) (wbit b t) (nxp L S)) (pG h pp) c] := by rw [List.take_succ, here]; rfl
      have acs := accS_step (N := N) here
      rw [et, foldS_snoc, acs]
      have lac : (accS N (rowS (stG T (ns.idxOf x) (wbit b t) (nxp L S)) (2 ^ (othr ns x).length) (pG h pp)) c).length = c := by unfold accS; rw [List.length_map, List.length_take, rowS_len]; omega
      have lN : (foldS N ((rowS (stG T (ns.idxOf x) (wbit b t) (nxp L S)) (2 ^ (othr ns x).length) (pG h pp)).take c)).length ≤ 1000 := by
        have nd : (foldS N ((rowS (stG T (ns.idxOf x) (wbit b t) (nxp L S)) (2 ^ (othr ns x).length) (pG h pp)).take c)).Nodup := nodup_foldS (by rw [hN]; exact nS_nodup i)
        refine Nat.le_trans (nodup_lenS (m := allG T.length (L + S)) nd fun z hz => ?_) (by rw [allG_len]; exact hlen)
        refine okG_mem ?_
        rcases mem_foldS.mp hz with h' | h'
        · exact okN' z h'
        · obtain ⟨d, _, e⟩ := List.mem_map.mp (List.mem_of_mem_take h')
          exact okG_step so.can.tin (fun p => nxp_lt hS1) e
      have lu' := tu.length
      generalize accS N (rowS (stG T (ns.idxOf x) (wbit b t) (nxp L S)) (2 ^ (othr ns x).length) (pG h pp)) c = ac at *
      generalize foldS N ((rowS (stG T (ns.idxOf x) (wbit b t) (nxp L S)) (2 ^ (othr ns x).length) (pG h pp)).take c) = N' at *
      have F4' := f0.trans (hF.trans hF')
      have F3' := f4.trans F4'
      have sbT' := sqT_same F4' sbT
      have sbq' := sqT_same F4' sbq
      have sqT' := F3'.seq sqT
      have ep' := F3' _ _ ep3
      have sr' := F3'.seq sr
      have hins : insB (ns.idxOf x) (wbit b t pp) c < rr.length := by
        rw [lrr, show ns.length = (othr ns x).length + 1 by omega]
        exact insB_lt (by omega) hwb hc
      have hatR : atI (rr.map vO) ((insB (ns.idxOf x) (wbit b t pp) c : Nat) : Int) = some (vO (Bs.fol T h (insB (ns.idxOf x) (wbit b t pp) c))) := at_nat rfl (by
        rw [List.getElem?_map, fol_row hrr, List.getElem?_eq_getElem hins]
        rfl)
      have hhi : CShl ((c : Int) / 2 ^ ((ns.idxOf x : Nat) : Int).toNat) (((ns.idxOf x : Nat) : Int) + 1) := cshl 70 (by omega) (by
        rw [shr_nat, Int.natAbs_natCast]
        exact Nat.lt_of_le_of_lt (Nat.div_le_self _ _) (Nat.lt_of_lt_of_le hc (Nat.le_trans m8 (by decide)))) (by omega)
      walk_at "go"
      refine ⟨bT, bq, L, S, pp, BL, rfl, sqT_same ow.toSame sbT', sqT_same ow.toSame sbq', lBL, by omega, by omega, ?_⟩
      have est : (stG T (ns.idxOf x) (wbit b t) (nxp L S)) (pG h pp) c = (Bs.fol T h (insB (ns.idxOf x) (wbit b t pp) c)).map fun f => pG f (nxp L S pp) := stG_at h pp c
      rw [est]
      cases hfo : Bs.fol T h (insB (ns.idxOf x) (wbit b t pp) c) with
      | none =>
        dsimp only [vO]
        walk_at "go"
        exact ⟨F', us', _, _, _, _, _, rfl, hF', ow.drop, tu⟩
      | some fv =>
        dsimp only [vO]
        walk_at "go"
        rw [show [V.int ((fv : Nat) : Int), V.int ((nxp L S pp : Nat) : Int)] = (pG fv (nxp L S pp)).map V.int from rfl] at ow
        obtain ⟨fy1, fy2⟩ := ow.frz
        have hr0 : (upd F' pT (.tup ((pG fv (nxp L S pp)).map V.int))) pT = some (.tup ((pG fv (nxp L S pp)).map V.int)) := upd_same
        generalize upd F' pT (.tup ((pG fv (nxp L S pp)).map V.int)) = F2 at fy1 fy2 hr0
        clear ow
        have ow := fy1
        have tu2 := tu.same fy2
        have hF2 := hF'.trans fy2
        show cDn _ _ _ _
        rw [show (Option.map (fun f => pG f (nxp L S pp)) (some fv)) = some (pG fv (nxp L S pp)) from rfl]
        generalize pG fv (nxp L S pp) = s' at *
        refine o_dnT (ow.get 3 rfl) (ow.gets hr0) ?_
        by_cases mem : s' ∈ N'
        · rw [decide_eq_true mem]
          walk_at "go"
          refine o_dgT (ow.get 3 rfl) (ow.gets hr0) mem ?_
          walk_at "go"
          have ea : addS N' (some s') = N' := by unfold addS insK; dsimp only; rw [if_pos mem]
          rw [ea]
          exact ⟨F2, us', _, _, _, _, _, rfl, hF2, ow, tu2⟩
        · rw [decide_eq_false mem]
          walk_at "go"
          refine o_dsetT ow (i := 3) rfl (ow.gets hr0) mem (by omega) (by rw [lu']) ?_
          intro H12 ow
          walk_at "ow"
          walk_at "go"
          refine o_dgT (ow.get 3 rfl) (ow.gets hr0) (List.mem_append_right _ (List.mem_singleton.mpr rfl)) ?_
          walk_at "go"
          have ea : addS N' (some s') = N' ++ [s'] := by unfold addS insK; dsimp only; rw [if_neg mem]
          rw [ea]
          exact ⟨F2, us' ++ [V.ref pT], _, _, _, _, _, rfl, hF2, ow, tu2.snoc hr0⟩
    · rintro σ' H9 ⟨F', us', u13, u14, u15, u16, u17, rfl, hF', ow, tu⟩
      have el : (rowS (stG T (ns.idxOf x) (wbit b t) (nxp L S)) (2 ^ (othr ns x).length) (pG h pp)).take (2 ^ (othr ns x).length) = rowS (stG T (ns.idxOf x) (wbit b t) (nxp L S)) (2 ^ (othr ns x).length) (pG h pp) := List.take_of_length_le (by rw [rowS_len]; exact Nat.le_refl _)
      have en : nS (stG T (ns.idxOf x) (wbit b t) (nxp L S)) (2 ^ (othr ns x).length) (pG 0 0) (i + 1) = foldS N (rowS (stG T (ns.idxOf x) (wbit b t) (nxp L S)) (2 ^ (othr ns x).length) (pG h pp)) := by
        show foldS (nS (stG T (ns.idxOf x) (wbit b t) (nxp L S)) (2 ^ (othr ns x).length) (pG 0 0) i) (rowS (stG T (ns.idxOf x) (wbit b t) (nxp L S)) (2 ^ (othr ns x).length) (atS (nS (stG T (ns.idxOf x) (wbit b t) (nxp L S)) (2 ^ (othr ns x).length) (pG 0 0) i) i)) = _
        rw [← hN, hs]
      have er : (roomS (stG T (ns.idxOf x) (wbit b t) (nxp L S)) (2 ^ (othr ns x).length) (pG 0 0) i).map vO = accS N (rowS (stG T (ns.idxOf x) (wbit b t) (nxp L S)) (2 ^ (othr ns x).length) (pG h pp)) (2 ^ (othr ns x).length) := by
        unfold roomS accS
        rw [en, ← hN, hs, el, List.map_map]
        rfl
      rw [el] at ow tu
      walk_at "go"
      obtain ⟨fy1, fy2⟩ := ow.frz
      obtain ⟨z, hz⟩ := foldS_pre (rowS (stG T (ns.idxOf x) (wbit b t) (nxp L S)) (2 ^ (othr ns x).length) (pG h pp)) N
      refine ⟨_, ?_, i + 1, _, vs ++ [.ref rA], us', _, _, _, _, _, _, _, _, rfl, hF.trans (hF'.trans fy2), ?_, ?_, ?_, ?_, ?_, rfl⟩
      · omega
      · rw [en]
        exact fy1
      · rw [List.range_succ, List.map_append]
        exact RoomsAt.snoc ⟨rA, rfl, by rw [er]; exact SqL.of upd_same⟩ (rs.same (hF'.trans fy2))
      · rw [en]
        exact tu.same fy2
      · intro x' hx'
        by_cases z : x' = i
        · rw [z, ← hN]; exact hlt
        · exact hp x' (by omega)
      · rw [en, hz, List.length_append]
        omega
  · have sOc := (f4.trans (f0.trans hF)).seq sO
    walk_at "go"
    have ex : ExN (stG T (ns.idxOf x) (wbit b t) (nxp L S)) (2 ^ (othr ns x).length) (pG 0 0) i := ⟨by omega, hp⟩
    refine cMk_T (isT := false) (T := tabS (stG T (ns.idxOf x) (wbit b t) (nxp L S)) (2 ^ (othr ns x).length) (pG 0 0) i) (ow.toSame.seq sOc) oko ⟨vs, SqL.of (ow.get 0 rfl), rs.same ow.toSame⟩ ex.tin tabS_rows (by rw [tabS_len]; omega) ?_
    intro M2 p2 H6 il ll np1 s5 so2
    rw [tabS_len] at ll
    have sH := f3.trans (f4.trans (f0.trans (hF.trans ow.toSame)))
    refine q M2 p2 H6 il.1 (fun α => ?_) (by omega) (same_none sH np1) (sH.trans s5) fun F2 sN => so2 F2 ((newF_pre sH).trans sN) fun z => by cases z
    rw [← il.2 α, part_acc ex]
    have ew : ∀ k, wbit b t (itn (nxp L S) k) = wbit b t k := fun k => by
      have e1 : ∀ k, itn (nxp L S) k = Bs.pos L S k := fun k => by
        induction k with
        | zero => rfl
        | succ k ih => show nxp L S (itn (nxp L S) k) = nxp L S (Bs.pos L S k); rw [ih]
      rw [e1]
      unfold wbit
      rw [hvs_pos wa.ob wa.pb wa.g wa.hL wa.hS hS1]
    simp only [ew]
end

/-! solutions of no equation -/





/-- one room with all letters -/
def allR (m : Nat) : Tab := [List.replicate m (some 0)]
theorem fol_all {m c : Nat} : fol (allR m) 0 c = if c < m then some 0 else none := by
  unfold fol allR
  show ((List.replicate m (some 0))[c]?).getD none = _
  rw [List.getElem?_replicate]
  split <;> rfl
theorem acc_all {m : Nat} {α : Nat → Nat} : Acc (allR m) 0 α ↔ ∀ k, α k < m := by
  constructor
  · rintro ⟨s, s0, hs⟩
    have z : ∀ k, s k = 0 := fun k => by
      have := fol_lt (hs k)
      unfold allR at this
      simp at this
      exact this
    intro k
    have := hs k
    rw [z k, fol_all] at this
    split at this
    · assumption
    · cases this
  · intro h
    refine ⟨fun _ => 0, rfl, fun k => ?_⟩
    rw [fol_all, if_pos (h k)]
theorem all_tin {m : Nat} : TIn (allR m) := ⟨fun r hr e he n hn => by
  unfold allR at hr
  rw [List.mem_singleton.mp hr] at he
  rw [List.eq_of_mem_replicate he] at hn
  cases hn
  exact Nat.zero_lt_one⟩
theorem all_rows {m : Nat} : ∀ r ∈ allR m, r.length = m := fun r hr => by
  unfold allR at hr
  rw [List.mem_singleton.mp hr, List.length_replicate]
theorem for_zm {K : PySem.W.Frag} {a b : Addr} {xs ys : List V} {g : TG} {tb : TS} {D : Ends} {σ : L2.St} {H : Hp} (ll : xs.length = ys.length) (Pv : Nat → L2.St → Hp → Prop) (h0 : Pv 0 σ H) (hl : ∀ i σ H, i ≤ xs.length → Pv i σ H → SqL K H a xs ∧ SqT K H b ys)
    (hs : ∀ i x y σ H p, xs[i]? = some x → ys[i]? = some y → Pv i σ H → H p = none → g (.ref p) σ (upd H p (.tup [x, y])) fun σ2 H2 => tb { D with nx := Pv (i + 1), ct := Pv (i + 1), bk := D.nx } σ2 H2) (hd : ∀ σ H, Pv xs.length σ H → D.nx σ H) :
    ∃ W : Nat → Nat → L2.St → Hp → Prop, (∃ m, W 0 m σ H) ∧ ∀ i m σ H, W i m σ H →
      ((Itm K a b).stop i H ∧ D.nx σ H) ∨ ((Itm K a b).go i H ∧ ∃ N : L2.St → Hp → Prop, (∀ σ' H', N σ' H' → ∃ m', m' < m ∧ W (i + 1) m' σ' H') ∧ ∀ y H', (Itm K a b).yld i H y H' → g y σ H' fun σ2 H2 => tb { D with nx := N, ct := N, bk := D.nx } σ2 H2) := by
  refine ⟨fun i m σ H => m = xs.length - i ∧ i ≤ xs.length ∧ Pv i σ H, ⟨xs.length, by simp, Nat.zero_le _, h0⟩, ?_⟩
  rintro i m σ H ⟨rfl, hi, p⟩
  obtain ⟨s1, s2⟩ := hl i σ H hi p
  by_cases hlt : i < xs.length
  · refine .inr ⟨⟨xs, ys, xs[i], ys[i]'(by omega), s1, s2, List.getElem?_eq_getElem hlt, List.getElem?_eq_getElem (by omega)⟩, Pv (i + 1), fun σ' H' p' => ⟨xs.length - (i + 1), by omega, rfl, hlt, p'⟩, fun y H' z => ?_⟩
    obtain ⟨T, x, y, rfl, nT, rfl, hx, hy⟩ := z
    exact hs i x y σ H T (hx xs s1) (hy ys s2) p nT
  · have e : i = xs.length := by omega
    subst e
    exact .inl ⟨⟨xs, ys, s1, s2, .inl (Nat.le_refl _)⟩, hd σ H p⟩
theorem r_zipM {K : PySem.W.Frag} {ta : TA} {σ : L2.St} {H : Hp} {R : It → Hp → Prop} (k : ta σ H fun vs H1 => ∃ a b xs ys, vs = [.ref a, .ref b] ∧ SqL K H1 a xs ∧ SqT K H1 b ys ∧ R (Itm K a b) H1) : iZipM K ta σ H R := k
set_option hygiene false in
local macro_rules | `(tactic| walk_at "r1") => `(tactic| with_reducible refine Bs.r_zipM ?_)
def sp_cknown0 (K : PySem.W.Frag) : Sp := fun vs H Q _ => ∃ a b : Addr, vs = [.ref a, .ref b] ∧ SqL K H b [] ∧ Q .non H
def sp_nextst0 (K : PySem.W.Frag) : Sp := fun vs H Q _ => ∃ (a b : Addr) (c : Int), vs = [.ref a, .ref b, .int c] ∧ SqL K H a [] ∧ SqT K H b [] ∧ ∀ r H', H r = none → Same H H' → H' r = some (.tup []) → Q (.ref r) H'
def sp_explored0 (K : PySem.W.Frag) : Sp := fun vs H Q _ => ∃ (a : Addr) (m : Nat), vs = [.ref a, .int (m : Nat)] ∧ SqL K H a [] ∧ m ≤ 8 ∧ ∀ r H', H r = none → Same H H' → TabAt K H' r (allR m) → Q (.ref r) H'
def sp_roomsof0 (K : PySem.W.Frag) : Sp := fun vs H Q _ => ∃ (a b : Addr) (ns : List Str), vs = [.ref a, .ref b] ∧ SqL K H a (ns.map V.str) ∧ ns.length ≤ 3 ∧ SqL K H b [] ∧ ∀ r H', H r = none → Same H H' → TabAt K H' r (allR (2 ^ ns.length)) → Q (.ref r) H'
def sp_solve0 (K : PySem.W.Frag) (CS : Addr) : Sp := fun vs H Q _ => ∃ (a b : Addr) (ns : List Str), vs = [.ref a, .ref b] ∧ SqL K H a (ns.map V.str) ∧ okN ns = true ∧ SqL K H b [] ∧
  ∀ M p' H', IsLeast (2 ^ ns.length) (allR (2 ^ ns.length)) M → M.length ≤ 1 → H p' = none → Same H H' → (∀ F2, Same (newF H H') F2 → SolAt K CS F2 p' ns M) → Q (.ref p') H'
section
variable {P : Program} {w : World} {K : PySem.W.Frag} {mg : Str → Option Value} {base : Heap} {CS aInvalidNames aInvalidTable f : Addr} {fd : FuncData}
theorem ok_check_known_names (F : FnP K "check_known_names" "check_known_names" s_check_known_names f fd) (B : Bi mg)  : FnOk P w K mg base (L2.CX P w) 2 f fd ["names", "equations"] (sp_cknown0 K) := by
  refine F.ok sc_check_known_names (fun vs H Q E h => by walk_at "len") (fun cdv A outer s H vs Q E hr h => ?_)
  have nd := sc_check_known_names.nd
  obtain ⟨a, b, rfl, sb, q⟩ := h
  refine ⟨_, pss_one (ps_for (passes_of rfl) rfl (pi_list (pv 1)) (pg_name (i := 2) nd rfl (.inl rfl))
      (pss_one ps_dead)), ?_⟩
  walk_at "s0"
  have ow := Own.start H
  walk_at "go"
  refine c_ilS sb ?_
  refine for_list (fun i σ' H' => ∃ u2 u3 : Option V, σ' = [some (.ref a), some (.ref b), u2, u3] ∧ H' = H) ⟨_, _, rfl, rfl⟩ (fun i σ' H' _ ⟨_, _, _, e⟩ => by rw [e]; exact sb) ?_ ?_
  · rintro i x σ' H1 hx _
    simp at hx
  · rintro σ' H1 ⟨u2, u3, rfl, rfl⟩
    walk_at "go"
    exact q
theorem ok_next_state (F : FnP K "next_state" "next_state" s_next_state f fd) (B : Bi mg)  : FnOk P w K mg base CX0 1 f fd ["line", "state", "letter"] (sp_nextst0 K) := by
  refine F.ok sc_next_state (fun vs H Q E h => by walk_at "len") (fun cdv A outer s H vs Q E hr h => ?_)
  have nd := sc_next_state.nd
  obtain ⟨a, b, c, rfl, sa, sb, q⟩ := h
  refine ⟨_, PSs.nox (pss_cons (ps_set (i := 3) nd rfl (Or.inl rfl) (pe_lst pa_nil))
      (pss_cons (ps_set (i := 4) nd rfl (Or.inl rfl) (pe_lst pa_nil))
      (pss_cons (ps_for PassesOwn.never rfl (pi_zipM rfl B.zip (pa_cons (pv 0) (pa_cons (pv 1) pa_nil))) (pg_tup rfl (pgs_cons (pg_tup rfl (pgs_cons (pg_name (i := 5) nd rfl (.inl rfl)) (pgs_cons (pg_name (i := 6) nd rfl (.inl rfl)) (pgs_cons (pg_name (i := 7) nd rfl (.inl rfl)) pgs_nil)))) (pgs_cons (pg_name (i := 8) nd rfl (.inl rfl)) pgs_nil)))
      (pss_cons ps_dead
      (pss_cons ps_dead
      (pss_cons ps_dead
      (pss_one ps_dead)))))
      (pss_one (ps_ret (pe_callTy cb_tupof rfl B.tuple (by decide +kernel) (pa_cons (pv 4) pa_nil))))))), ?_⟩
  walk_at "s0"
  have ow := Own.start H
  walk_at "go"
  refine ⟨a, b, [], [], rfl, ow.toSame.seq sa, sqT_same ow.toSame sb, ?_⟩
  rename_i l1 _ n1 ow1
  refine for_zm rfl (fun i σ' H' => ∃ (u5 u6 u7 u8 u9 u10 u11 : Option V), σ' = [some (.ref a), some (.ref b), some (.int c), some (.ref l1), some (.ref pL), u5, u6, u7, u8, u9, u10, u11] ∧ Own H H' [(pL, .lst []), (l1, .lst [])]) ⟨_, _, _, _, _, _, _, rfl, ow⟩ (fun i σ' H' _ ⟨_, _, _, _, _, _, _, _, o⟩ => ⟨o.toSame.seq sa, sqT_same o.toSame sb⟩) ?_ ?_
  · rintro i x y σ' H1 p hx
    simp at hx
  · rintro σ' H1 ⟨u5, u6, u7, u8, u9, u10, u11, rfl, ow⟩
    walk_at "go"
    exact q _ _ (ow.new0 g0) ow.toSame_of (ow.get 0 rfl)
theorem ok_explored (F : FnP K "explored" "explored" s_explored f fd) (B : Bi mg) (c_next_state : Fo P w K mg base CX0 1 "next_state" ["line", "state", "letter"] (sp_nextst0 K)) : FnOk P w K mg base CX0 2 f fd ["line", "letters"] (sp_explored0 K) := by
  refine F.ok sc_explored (fun vs H Q E h => by walk_at "len") (fun cdv A outer s H vs Q E hr h => ?_)
  have nd := sc_explored.nd
  have hu : (A.deeper (envOfC ("explored" : Str) (defScope s_explored) s.heap.objs.size f cdv)).units + 1 < cLine := by have := hr.un; omega
  obtain ⟨a, m, rfl, sa, hm, q⟩ := h
  refine ⟨_, PSs.nox (pss_cons (ps_set (i := 2) nd rfl (Or.inl rfl) (pe_callTy cb_tupof rfl B.tuple (by decide +kernel) (pa_cons (pe_lc (own := [("step", 3)]) (g := gName 3) (tt := tYes) (by rfl) nd (pi_list (pv 0)) (blkOk_by (own := [("step", 3)]) (N := ["line", "letters", "begin", "step", "places", "states", "rooms", "room", "letter", "later"]) (sc := defScope s_explored) (by decide +kernel)) (fun _ _ _ _ _ => pg_name (i := 3) nd rfl (Or.inl rfl)) (fun _ _ _ _ _ => pts_nil) (fun _ _ _ _ _ => pe_int)) pa_nil)))
      (pss_cons (ps_set (i := 4) nd rfl (Or.inl rfl) (pe_dispT hu (pv 2) pe_int))
      (pss_cons (ps_set (i := 5) nd rfl (Or.inl rfl) (pe_lst (pa_cons (pv 2) pa_nil)))
      (pss_cons (ps_set (i := 6) nd rfl (Or.inl rfl) (pe_lst pa_nil))
      (pss_cons (ps_while PassesOwn.never (pt_cmpR op_lt (pe_callB cb_len rfl B.len (by decide +kernel) (pa_cons (pv 6) pa_nil)) (pe_callB cb_len rfl B.len (by decide +kernel) (pa_cons (pv 5) pa_nil)) (nomark _)) (pss_cons (ps_set (i := 7) nd rfl (Or.inl rfl) (pe_lst pa_nil))
      (pss_cons (ps_for PassesOwn.never rfl (pi_range1 rfl B.range (pa_cons (pv 1) pa_nil)) (pg_name (i := 8) nd rfl (.inl rfl))
      (pss_cons (ps_set (i := 9) nd rfl (Or.inl rfl) (pe_fo c_next_state hr (by decide) (pa_cons (pv 0) (pa_cons (pe_ix ix_list (pv 5) (pe_callB cb_len rfl B.len (by decide +kernel) (pa_cons (pv 6) pa_nil)) (fun _ _ => rfl)) (pa_cons (pv 8) pa_nil)))))
      (pss_cons (ps_if (PW.pt (pw_and (pt_cmpR op_notN (pv 9) pe_non (nomark _)) (pw_and1 (pt_cmp (pc_dnotin hu (pv 9) (pv 4)))))) (pss_cons (ps_asg (pe_callB cb_len rfl B.len (by decide +kernel) (pa_cons (pv 5) pa_nil)) (pg_sub (pv 4) (pv 9) (set_dict hu)))
      (pss_one (ps_expr (pe_bm PySem.F.plainAttrs_list PySem.F.slot_list_append PySem.F.type_list_append mt_append (pv 5) (pa_cons (pv 9) pa_nil))))) pss_nil)
      (pss_one (ps_expr (pe_bm PySem.F.plainAttrs_list PySem.F.slot_list_append PySem.F.type_list_append mt_append (pv 7) (pa_cons (pe_ifExp (pt_cmpR op_isN (pv 9) pe_non (nomark _)) pe_non (pe_dget hu (pv 4) (pv 9) (fun _ _ => rfl))) pa_nil)))))))
      (pss_one (ps_expr (pe_bm PySem.F.plainAttrs_list PySem.F.slot_list_append PySem.F.type_list_append mt_append (pv 6) (pa_cons (pv 7) pa_nil)))))))
      (pss_one (ps_ret (pv 6)))))))), ?_⟩
  walk_at "s0"
  have ow := Own.start H
  walk_at "go"
  refine r_lc ?_
  walk_at "go"
  refine c_ilS (ow.toSame.seq sa) ?_
  refine c_lcJ 0 (by decide) (fun _ => rfl) (fun D i acc H' => acc = [] ∧ Own H H' [(D, .lst [])]) (fun D nD => ⟨rfl, ow.new nD⟩) ?_ ?_ ?_ ?_
  · rintro D i acc H1 _ hi
    exact absurd hi (Nat.not_lt_zero _)
  · rintro D acc H1 ⟨rfl, ow2⟩
    exact itl_stop (ow2.toSame.seq sa)
  · rintro D i acc H1 x H2 R hi
    exact absurd hi (Nat.not_lt_zero _)
  rintro D acc H1 nD ⟨rfl, ow2⟩ la
  clear ow
  have ow := ow2
  clear ow2
  walk_at "go"
  obtain ⟨ow3, f3⟩ := ow.frz
  have hb : (upd H pT (.tup [])) pT = some (.tup []) := upd_same
  generalize upd H pT (.tup []) = F0 at ow3 f3 hb
  clear ow
  have ow := ow3.drop
  clear ow3
  intro pP nP
  replace ow := ow.new (o := .dT []) nP
  walk_at "go"
  refine ⟨ow.get 0 rfl, pT, [], rfl, by exact ow.gets hb, ?_⟩
  replace ow := ow.put 0 rfl (o := .dT (kvsF 0 [[]]))
  walk_at "ow"
  walk_at "go"
  rename_i nA _ _ _
  generalize pL = fA at *
  refine r_while (fun w' σ H' => ∃ (i : Nat) (F : Hp) (vs : List V) (u7 u8 u9 : Option V), i ≤ 1 ∧ σ = [some (.ref a), some (.int (m : Nat)), some (.ref pT), none, some (.ref pP), some (.ref nA), some (.ref fA), u7, u8, u9] ∧ Same F0 F ∧ Own F H' [(fA, .lst vs), (nA, .lst [.ref pT]), (pP, .dT (kvsF 0 [[]]))] ∧ RoomsAt K F vs ((allR m).take i) ∧ vs.length = i ∧ w' = 1 - i) _
    ⟨0, F0, [], _, _, _, Nat.zero_le _, rfl, Same.refl F0, ow, .nil, rfl, rfl⟩ ?_
  clear ow
  rintro w' σ H8 ⟨i, F, vs, u7, u8, u9, hi, rfl, hF, ow, rs, lv, rfl⟩
  have len1 : [V.ref pT].length = 1 := rfl
  have len0 : ([] : List V).length = 0 := rfl
  by_cases h0 : i = 0
  · subst h0
    obtain rfl := List.length_eq_zero_iff.mp lv
    have hat : atI [V.ref pT] ((([] : List V).length : Nat) : Int) = some (.ref pT) := rfl
    walk_at "go"
    generalize pL = rA at *
    refine for_range (fun c σ' H' => ∃ u8 u9 : Option V, σ' = [some (.ref a), some (.int (m : Nat)), some (.ref pT), none, some (.ref pP), some (.ref nA), some (.ref fA), some (.ref rA), u8, u9] ∧ Own F H' [(rA, .lst ((List.replicate c (some 0)).map vO)), (fA, .lst []), (nA, .lst [.ref pT]), (pP, .dT (kvsF 0 [[]]))]) ⟨_, _, rfl, ow⟩ ?_ ?_
    · clear ow
      rintro c σ' H9 hc ⟨u8, u9, rfl, ow⟩
      have lr : ((List.replicate c (some 0)).map vO).length = c := by rw [List.length_map, List.length_replicate]
      have er : (List.replicate (c + 1) (some 0)).map vO = (List.replicate c (some 0)).map vO ++ [V.int 0] := by
        rw [List.replicate_succ', List.map_append]
        rfl
      rw [er]
      generalize (List.replicate c (some 0)).map vO = ac at *
      walk_at "go"
      have FH := hF.trans ow.toSame
      refine ⟨a, pT, _, rfl, FH.seq (f3.seq sa), SqT.of (FH _ _ hb), fun r H10 nr s2 er2 => ?_⟩
      replace ow := ow.newS nr s2 er2
      walk_at "go"
      refine o_dnT (k := []) (ow.get 4 rfl) (ow.get 0 rfl) ?_
      rw [decide_eq_true (List.mem_singleton.mpr rfl)]
      walk_at "go"
      refine o_dgT (k := []) (ow.get 4 rfl) (ow.get 0 rfl) (List.mem_singleton.mpr rfl) ?_
      rw [show ((([[]] : List (List Int)).idxOf [] : Nat) : Int) = 0 from rfl]
      walk_at "go"
      exact ow.drop
    · rintro σ' H9 ⟨u8, u9, rfl, ow⟩
      rw [show ((m : Nat) : Int).toNat = m by omega] at ow
      walk_at "go"
      obtain ⟨fy1, fy2⟩ := ow.frz
      exact ⟨_, by decide, 1, _, [.ref rA], _, _, _, Nat.le_refl _, rfl, hF.trans fy2, fy1, .cons ⟨rA, rfl, SqL.of upd_same⟩ .nil, rfl, rfl⟩
  · obtain rfl : i = 1 := by omega
    have lv' : (vs.length : Int) = 1 := by omega
    walk_at "go"
    have e1 : (allR m).take 1 = allR m := rfl
    rw [e1] at rs
    exact q fA _ (same_none f3 (same_none hF (ow.new0 g0))) (f3.trans (hF.trans ow.toSame)) ⟨vs, SqL.of (ow.get 0 rfl), rs.same ow.toSame⟩
theorem ok_rooms_of (F : FnP K "rooms_of" "rooms_of" s_rooms_of f fd) (B : Bi mg) (c_explored : Fo P w K mg base CX0 2 "explored" ["line", "letters"] (sp_explored0 K)) : FnOk P w K mg base CX0 3 f fd ["names", "equations"] (sp_roomsof0 K) := by
  refine F.ok sc_rooms_of (fun vs H Q E h => by walk_at "len") (fun cdv A outer s H vs Q E hr h => ?_)
  have nd := sc_rooms_of.nd
  obtain ⟨a, b, ns, rfl, sa, l3, sb, q⟩ := h
  refine ⟨_, PSs.nox (pss_cons (ps_set (i := 2) nd rfl (Or.inl rfl) (pe_lst pa_nil))
      (pss_cons (ps_for PassesOwn.never rfl (pi_list (pv 1)) (pg_name (i := 3) nd rfl (.inl rfl))
      (pss_one ps_dead))
      (pss_one (ps_ret (pe_fo c_explored hr (by decide) (pa_cons (pv 2) (pa_cons (pe_op op_shlW pe_int (pe_callB cb_len rfl B.len (by decide +kernel) (pa_cons (pv 0) pa_nil))) pa_nil))))))), ?_⟩
  walk_at "s0"
  have ow := Own.start H
  walk_at "go"
  refine c_ilS (ow.toSame.seq sb) ?_
  refine for_list (fun i σ' H' => ∃ u3 : Option V, σ' = [some (.ref a), some (.ref b), some (.ref pL), u3] ∧ Own H H' [(pL, .lst [])]) ⟨_, rfl, ow⟩ (fun i σ' H' _ ⟨_, _, o⟩ => o.toSame.seq sb) ?_ ?_
  · rintro i x σ' H1 hx
    simp at hx
  · rintro σ' H1 ⟨u3, rfl, ow⟩
    have lms : (ns.map V.str).length = ns.length := List.length_map _
    have p8 : 2 ^ ns.length ≤ 8 := Nat.le_trans (Nat.pow_le_pow_right (by decide) l3) (by decide)
    walk_at "go"
    refine ⟨pL, 2 ^ ns.length, by rw [lms, two_pow]; rfl, SqL.of (ow.get 0 rfl), p8, fun r H2 nr s2 tt => ?_⟩
    exact q r H2 (same_none ow.toSame_of nr) (ow.toSame_of.trans s2) tt
theorem ok_solve (F : FnP K "solve" "solve" s_solve f fd) (B : Bi mg) (c_check_names : Fo P w K mg base (L2.CX P w) 3 "check_names" ["names"] (sp_names K aInvalidNames)) (c_check_known_names : Fo P w K mg base (L2.CX P w) 2 "check_known_names" ["names", "equations"] (sp_cknown0 K)) (c_Solutions : ClX P w K mg base "Solutions" CS 6 ["self", "names", "table"] (sp_Sol_init K CS aInvalidNames aInvalidTable)) (c_rooms_of : Fo P w K mg base CX0 3 "rooms_of" ["names", "equations"] (sp_roomsof0 K)) : FnOk P w K mg base (L2.CX P w) 9 f fd ["names", "equations"] (sp_solve0 K CS) := by
  refine F.ok sc_solve (fun vs H Q E h => by walk_at "len") (fun cdv A outer s H vs Q E hr h => ?_)
  have nd := sc_solve.nd
  obtain ⟨a, b, ns, rfl, sa, ok, sb, q⟩ := h
  have l3 := (okN_len ok).2
  have o1 := okN_one ok
  refine ⟨_, pss_cons (ps_expr (pe_fx c_check_names hr (by decide) (fun σ => passAt (takes_of rfl rfl rfl rfl) σ) (pa_cons (pv 0) pa_nil)))
      (pss_cons (ps_expr (pe_fx c_check_known_names hr (by decide) (fun σ => passAt (takes_of rfl rfl rfl rfl) σ) (pa_cons (pv 0) (pa_cons (pv 1) pa_nil))))
      (pss_one (ps_ret (pe_mkCX c_Solutions hr (by decide) (fun σ => passAt (takes_of rfl rfl rfl rfl) σ) (pa_cons (pv 0) (pa_cons (pe_fo c_rooms_of hr (by decide) (pa_cons (pv 0) (pa_cons (pv 1) pa_nil))) pa_nil)))))), ?_⟩
  walk_at "s0"
  have ow := Own.start H
  walk_at "go"
  refine ⟨a, ns, rfl, .inl sa, by omega, fun x hx => by rw [o1 x hx]; decide, fun _ H1 s1 => ?_, fun z => by rw [ok] at z; cases z⟩
  replace ow := ow.same s1
  walk_at "go"
  refine ⟨a, b, rfl, s1.seq sb, ?_⟩
  walk_at "go"
  refine ⟨a, b, ns, rfl, s1.seq sa, l3, s1.seq sb, fun r H2 nr s2 tt => ?_⟩
  replace ow := ow.same s2
  walk_at "go"
  refine cMk_T (isT := false) (s2.seq (s1.seq sa)) ok tt all_tin all_rows (by show 1 ≤ 1000; decide) ?_
  intro M p2 H5 il ll np1 s5 so2
  have sH := s1.trans s2
  exact q M p2 H5 il ll (same_none sH np1) (sH.trans s5) fun F2 sN => so2 F2 ((newF_pre sH).trans sN) fun z => by cases z
end

/-! plain: solutions made by signs, by other names and back, by a name more and a word for it -/
theorem ltS_asym {a b : Str} (h : ltS a b = true) (g : ltS b a = true) : a = b := by
  have := ltS_trans h g
  unfold ltS at this
  exact absurd (of_decide_eq_true this) (List.lt_irrefl _)
theorem names_eq {ns ms : List Str} (h : okN ns = true) (g : okN ms = true) (p : ns.Perm ms) : ns = ms := p.eq_of_pairwise (le := fun a b => ltS a b = true) (fun _ _ _ _ => ltS_asym) (okN_pw h) (okN_pw g)
theorem plc_at {ns ms : List Str} {i p : Nat} (h : (plc ns ms)[i]? = some p) : ∃ x, ns[i]? = some x ∧ p = ms.idxOf x := by
  unfold plc at h
  rw [List.getElem?_map] at h
  obtain ⟨x, hx, e⟩ := Option.map_eq_some_iff.mp h
  exact ⟨x, hx, e.symm⟩
theorem idx_at {ms : List Str} {x : Str} (m : x ∈ ms) : ms[ms.idxOf x]? = some x := by
  rw [List.getElem?_eq_getElem (List.idxOf_lt_length_of_mem m), List.getElem_idxOf]
theorem at_idx {ns : List Str} {i : Nat} {x : Str} (nd : ns.Nodup) (h : ns[i]? = some x) : ns.idxOf x = i := by
  obtain ⟨l, e⟩ := List.getElem?_eq_some_iff.mp h
  rw [← e]
  exact nd.idxOf_getElem i l
/-- a name exchanged for a free one, and back -/
theorem chg_one (o l x : Str) : chg [(o, l)] x = if x = o then l else x := by
  unfold chg
  show (List.lookup x [(o, l)]).getD x = _
  rw [List.lookup_cons]
  by_cases h : x = o
  · subst h
    simp
  · rw [if_neg h, show (x == o) = false by simpa using h]
    rfl
theorem chg_back {n0 f x : Str} (nf : x ≠ f) : chg [(f, n0)] (chg [(n0, f)] x) = x := by
  rw [chg_one n0 f]
  by_cases h : x = n0
  · rw [if_pos h, chg_one, if_pos rfl, h]
  · rw [if_neg h, chg_one, if_neg nf]
theorem chg_inj {n0 f : Str} {ns : List Str} (nd : ns.Nodup) (nf : f ∉ ns) : (ns.map (chg [(n0, f)])).Nodup := by
  rw [List.nodup_iff_pairwise_ne, List.pairwise_map]
  refine (List.Pairwise.and_mem.mp (List.nodup_iff_pairwise_ne.mp nd)).imp fun {a b} z e => z.2.2 ?_
  have ha : a ≠ f := fun e => nf (by rw [← e]; exact z.1)
  have hb : b ≠ f := fun e => nf (by rw [← e]; exact z.2.1)
  rw [← chg_back (n0 := n0) ha, e, chg_back hb]
theorem chg_map {n0 f : Str} {ns : List Str} (nf : f ∉ ns) : (ns.map (chg [(n0, f)])).map (chg [(f, n0)]) = ns := by
  rw [List.map_map]
  conv => rhs; rw [← List.map_id ns]
  refine List.map_congr_left fun x hx => ?_
  exact chg_back fun e => nf (by rw [← e]; exact hx)
/-- the places of the names there and back -/
theorem plc_back {n0 f : Str} {ns ms : List Str} (nd : ns.Nodup) (nf : f ∉ ns) (p : ms.Perm (ns.map (chg [(n0, f)]))) : ∀ (i q : Nat), (plc (ns.map (chg [(n0, f)])) ms)[i]? = some q → (plc (ms.map (chg [(f, n0)])) ns)[q]? = some i := by
  intro i q h
  obtain ⟨y, hy, rfl⟩ := plc_at h
  rw [List.getElem?_map] at hy
  obtain ⟨x, hx, rfl⟩ := Option.map_eq_some_iff.mp hy
  have mx := List.mem_of_getElem? hx
  have my : chg [(n0, f)] x ∈ ms := p.mem_iff.mpr (List.mem_map.mpr ⟨x, mx, rfl⟩)
  unfold plc
  rw [List.getElem?_map, List.getElem?_map, idx_at my]
  show some (ns.idxOf (chg [(f, n0)] (chg [(n0, f)] x))) = some i
  rw [chg_back fun e => nf (by rw [← e]; exact mx), at_idx nd hx]
/-- the places of the names among one more -/
theorem plc_more {f : Str} {ns ms : List Str} (h : okN ns = true) (g : okN ms = true) (mf : f ∈ ms) (e : othr ms f = ns) : ∀ (i q : Nat), (plc ns ms)[i]? = some q → q = if i < ms.idxOf f then i else i + 1 := by
  intro i q hq
  obtain ⟨x, hx, rfl⟩ := plc_at hq
  have nd := okN_nd g
  have e2 : othr ms f = ms.eraseIdx (ms.idxOf f) := by
    rw [← List.erase_eq_eraseIdx_of_idxOf (a := f) rfl, nd.erase_eq_filter]
    unfold othr
    refine List.filter_congr fun y _ => ?_
    by_cases h : y = f <;> simp [h]
  rw [← e, e2, List.getElem?_eraseIdx] at hx
  split at hx
  · rename_i hi
    rw [if_pos hi]
    exact at_idx nd hx
  · rename_i hi
    rw [if_neg hi]
    exact at_idx nd hx
theorem othr_app {f : Str} {ns ms : List Str} (h : okN ns = true) (g : okN ms = true) (nf : f ∉ ns) (p : ms.Perm (ns ++ [f])) (l : 1 ≤ ns.length) : othr ms f = ns := by
  have l2 : 2 ≤ ms.length := by rw [p.length_eq, List.length_append, List.length_singleton]; omega
  refine names_eq (othr_ok g (p.mem_iff.mpr (by simp)) l2) h ?_
  have q := p.filter fun y => decide (y ≠ f)
  unfold othr
  refine q.trans ?_
  have e1 : ns.filter (fun y => decide (y ≠ f)) = ns := List.filter_eq_self.mpr fun y hy => by
    have : y ≠ f := fun e => nf (by rw [← e]; exact hy)
    simp [this]
  rw [List.filter_append, e1]
  simp
/-- a letter that is not taken -/
def kmqz : Str := "kmqz"
def kmqzL : List Str := kmqz.cps.toList.map fun c => ⟨#[c]⟩
theorem kmqzL_is : kmqzL = [⟨#[107]⟩, ⟨#[109]⟩, ⟨#[113]⟩, ⟨#[122]⟩] := by decide +kernel
theorem kmqz_let : ∀ x ∈ kmqzL, isL x = true := by
  rw [kmqzL_is]
  decide +kernel
theorem free_ex {ns : List Str} (l : ns.length ≤ 3) : ∃ f r, kmqzL.filter (fun y => decide (y ∉ ns)) = f :: r ∧ isL f = true ∧ f ∉ ns := by
  cases e : kmqzL.filter (fun y => decide (y ∉ ns)) with
  | nil =>
    have nd : kmqzL.Nodup := by rw [kmqzL_is]; decide +kernel
    have sub : kmqzL ⊆ ns := fun y hy => by
      have := List.filter_eq_nil_iff.mp e y hy
      simpa using this
    have := nd.length_le_of_subset sub
    rw [kmqzL_is] at this
    simp at this
    omega
  | cons f r =>
    have m : f ∈ kmqzL.filter (fun y => decide (y ∉ ns)) := by rw [e]; exact List.mem_cons_self
    obtain ⟨m1, m2⟩ := List.mem_filter.mp m
    exact ⟨f, r, rfl, kmqz_let f m1, of_decide_eq_true m2⟩
theorem lead5 : IsLead 1 5 3 := by
  constructor
  · unfold In
    decide
  · intro k hk
    have : k = 0 ∨ k = 1 ∨ k = 2 := by omega
    unfold In
    rcases this with rfl | rfl | rfl <;> decide
theorem span1 : IsSpan 1 1 := ⟨Nat.le_refl _, ⟨1, by decide⟩, fun q h1 h2 => by omega⟩

/-! the solutions of a table, as made by the laws of counting -/

theorem r_iStr {te : TE} {σ : L2.St} {H : Hp} {R : It → Hp → Prop} (k : te σ H fun v H1 => ∃ x, v = .str x ∧ R (Its x) H1) : iStr te σ H R := k
set_option hygiene false in
local macro_rules | `(tactic| walk_at "r1") => `(tactic| with_reducible refine Bs.r_same ?_)
def sp_made (K : PySem.W.Frag) (CS : Addr) : Sp := fun vs H Q _ => ∃ (r1 t1 : Addr) (ns : List Str) (T : Tab), vs = [.ref r1, .ref t1] ∧ H r1 = some (.lst (ns.map V.str)) ∧ okN ns = true ∧ TabAt K H t1 T ∧ TIn T ∧ (∀ r ∈ T, r.length = 2 ^ ns.length) ∧ T.length ≤ 20 ∧
  ∀ M p H', IsLeast (2 ^ ns.length) T M → M.length ≤ T.length → H p = none → Same H H' → (∀ F2, Same (newF H H') F2 → SolAt K CS F2 p ns M) → Q (.ref p) H'
section
variable {P : Program} {w : World} {K : PySem.W.Frag} {mg : Str → Option Value} {base : Heap} {CS C aInvalidWord aInvalidNames aInvalidTable aUnlikeNames aUnknownName f : Addr} {fd : FuncData}
theorem ok__law_made (F : FnP K "_law_made" "_law_made" s__law_made f fd) (B : Bi mg) (c_Solutions : ClX P w K mg base "Solutions" CS 6 ["self", "names", "table"] (sp_Sol_init K CS aInvalidNames aInvalidTable)) (o_SAnd : OpE P w K mg base (L2.CX P w) CS "and" 8 (sp_sign K CS aUnlikeNames true)) (o_SOr : OpE P w K mg base (L2.CX P w) CS "or" 8 (sp_sign K CS aUnlikeNames false)) (c_renamed : Fo P w K mg base (L2.CX P w) 9 "renamed" ["solutions", "pairs"] (sp_renamed K CS)) (c_part_with : Fo P w K mg base (L2.CX P w) 9 "part_with" ["solutions", "name", "word"] (sp_partwith K CS C)) (c_widened : Fo P w K mg base (L2.CX P w) 9 "widened" ["solutions", "names"] (sp_widened K CS)) (c_Word : WordC P w K mg base C aInvalidWord) (c_solve : Fo P w K mg base (L2.CX P w) 9 "solve" ["names", "equations"] (sp_solve0 K CS)) : FnOk P w K mg base CX0 12 f fd ["_law_names_here", "_law_rooms_here"] (sp_made K CS) := by
  refine F.ok sc__law_made (fun vs H Q E h => by walk_at "len") (fun cdv A outer s H vs Q E hr h => ?_)
  have nd := sc__law_made.nd
  obtain ⟨r1, t1, ns, T, rfl, er1, on1, st1, tin, rw1, lT, q⟩ := h
  have sr1 : SqL K H r1 (ns.map V.str) := SqL.of er1
  obtain ⟨vs, sq, ra⟩ := id st1
  have lv := ra.length
  have l3 := (okN_len on1).2
  have l1 := (okN_len on1).1
  have p8 : 2 ^ ns.length ≤ 8 := Nat.le_trans (Nat.pow_le_pow_right (by decide) l3) (by decide)
  have lns : (ns.map V.str).length = ns.length := List.length_map _
  refine ⟨_, PSs.nox (pss_cons (ps_par (i := 2) (j := 3) rfl nd rfl rfl (by decide) rfl rfl (pa_cons (pe_mkCX c_Solutions hr (by decide) (fun _ => psL0) (pa_cons (pe_callTy cb_listof rfl B.list (by decide +kernel) (pa_cons (pv 0) pa_nil)) (pa_cons (pe_lc (own := [("_law_room", 4)]) (g := gName 4) (tt := tYes) (by rfl) nd (pi_list (pv 1)) (blkOk_by (own := [("_law_room", 4)]) (N := ["_law_names_here", "_law_rooms_here", "_law_made_here", "_law_pick", "_law_room", "_law_free", "_law_letter"]) (sc := defScope s__law_made) (by decide +kernel)) (fun _ _ _ _ _ => pg_name (i := 4) nd rfl (Or.inl rfl)) (fun _ _ _ _ _ => pts_nil) (fun _ _ _ _ _ => (pe_callTy (listof_K (K := K) rfl) (by rfl) (by exact B.list) (by decide +kernel) (pa_cons (pv 4) pa_nil)))) pa_nil))) (pa_cons (pe_op op_mod (pe_callB cb_len rfl B.len (by decide +kernel) (pa_cons (pv 1) pa_nil)) pe_int) pa_nil)) rfl)
      (pss_cons (ps_set (i := 5) nd rfl (Or.inl rfl) (pe_ix ix_list (pe_lc (own := [("_law_letter", 6)]) (g := gName 6) (by rfl) nd (pi_str pe_str) (blkOk_by (own := [("_law_letter", 6)]) (N := ["_law_names_here", "_law_rooms_here", "_law_made_here", "_law_pick", "_law_room", "_law_free", "_law_letter"]) (sc := defScope s__law_made) (by decide +kernel)) (fun _ _ _ _ _ => pg_name (i := 6) nd rfl (Or.inl rfl)) (fun _ _ _ _ _ => (pts_one (pt_cmpR (notIn_K (K := K) rfl) (pv 6) (pv 0) rfl))) (fun _ _ _ _ _ => (pv 6))) pe_int (fun _ _ => rfl)))
      (pss_cons (ps_if (pt_cmpR op_eq (pv 3) pe_int (nomark _)) (pss_one (ps_ret (pe_same o_SAnd hr (by decide) (fun _ => psL0) (pv 2) (pv 2)))) pss_nil)
      (pss_cons (ps_if (pt_cmpR op_eq (pv 3) pe_int (nomark _)) (pss_one (ps_ret (pe_same o_SOr hr (by decide) (fun _ => psL0) (pv 2) (pv 2)))) pss_nil)
      (pss_cons (ps_if (pt_cmpR op_eq (pv 3) pe_int (nomark _)) (pss_one (ps_ret (pe_fx c_renamed hr (by decide) (fun _ => psL0) (pa_cons (pe_fx c_renamed hr (by decide) (fun _ => psL0) (pa_cons (pv 2) (pa_cons (pe_lst (pa_cons (pe_tup (pa_cons (pe_ix ix_list (pv 0) pe_int (fun _ _ => rfl)) (pa_cons (pv 5) pa_nil))) pa_nil)) pa_nil))) (pa_cons (pe_lst (pa_cons (pe_tup (pa_cons (pv 5) (pa_cons (pe_ix ix_list (pv 0) pe_int (fun _ _ => rfl)) pa_nil))) pa_nil)) pa_nil))))) pss_nil)
      (pss_cons (ps_if (PW.pt (pw_and (pt_cmpR op_eq (pv 3) pe_int (nomark _)) (pw_and1 (pt_cmpR op_lt (pe_callB cb_len rfl B.len (by decide +kernel) (pa_cons (pv 0) pa_nil)) pe_int (nomark _))))) (pss_one (ps_ret (pe_fx c_part_with hr (by decide) (fun _ => psL0) (pa_cons (pe_fx c_widened hr (by decide) (fun _ => psL0) (pa_cons (pv 2) (pa_cons (pe_callB cr_sortedS rfl B.sorted (by decide +kernel) (pa_cons (pe_op op_cat (pv 0) (pe_lst (pa_cons (pv 5) pa_nil))) pa_nil)) pa_nil))) (pa_cons (pv 5) (pa_cons (pe_W1 c_Word hr (by decide) (fun _ => psL0) (pa_cons pe_int pa_nil)) pa_nil)))))) pss_nil)
      (pss_one (ps_ret (pe_ifExp (pt_cmpR op_eq (pv 3) pe_int (nomark _)) (pe_same o_SAnd hr (by decide) (fun _ => psL0) (pv 2) (pe_fx c_solve hr (by decide) (fun _ => psL0) (pa_cons (pv 0) (pa_cons (pe_lst pa_nil) pa_nil)))) (pv 2)))))))))), ?_⟩
  walk_at "s0"
  have ow := Own.start H
  walk_at "go"
  generalize pL = hn at *
  refine r_lc ?_
  walk_at "go"
  refine c_ilS (ow.toSame.seq sq) ?_
  refine c_lcJ vs.length (by omega) (fun _ => rfl) (fun D i acc H' => ∃ F, Same H F ∧ Own F H' [(D, .lst acc), (hn, .lst (ns.map V.str))] ∧ RoomsX (newF H F) acc (T.take i)) (fun D nD => ⟨H, Same.refl H, ow.new nD, rfl, fun i r e => (by simp at e)⟩) ?_ ?_ ?_ ?_
  · rintro D i acc H1 ⟨F, sF, ow, rs⟩ hi
    exact itl_go ((sF.trans ow.toSame).seq sq) hi
  · rintro D acc H1 ⟨F, sF, ow, rs⟩
    exact itl_stop ((sF.trans ow.toSame).seq sq)
  · rintro D i acc H1 x H2 R hi la ⟨F, sF, ow2, rs⟩ ⟨rfl, hy⟩ hR
    clear ow
    have ow := ow2
    have hx := hy _ ((sF.trans ow.toSame).seq sq)
    obtain ⟨rr, hr⟩ : ∃ r, T[i]? = some r := ⟨_, List.getElem?_eq_getElem (by omega)⟩
    obtain ⟨v, hv, ar, rfl, sr⟩ := ra.at hr
    rw [hx] at hv
    cases hv
    have sE : SqE K H2 ar (rr.map vO) := .inl ((sF.trans ow.toSame).seq sr)
    have et : T.take (i + 1) = T.take i ++ [rr] := by rw [List.take_succ, hr]; rfl
    walk_at "go"
    obtain ⟨f1, f2⟩ := ow.frz
    refine hR _ _ (f1.get 0 rfl) ⟨_, sF.trans f2, f1.put 0 rfl, ?_⟩
    rw [et]
    refine RoomsX.snoc (rs.same (newF_mono f2)) ?_
    unfold newF
    rw [same_none (sF.trans ow2.toSame) np]
    exact upd_same
  rintro hr1 us H1 nhr ⟨F, sF, ow2, rs⟩ la
  clear ow
  have ow := ow2
  clear ow2
  rw [lv, List.take_length] at rs
  have rF : RoomsX F us T := rs.same newF_sub
  walk_at "go"
  refine cMk_T (isT := false) (SqL.of (ow.get 1 rfl)) on1 ⟨us, SqL.of (ow.get 0 rfl), (rF.same ow.toSame).to⟩ tin rw1 (by omega) ?_
  intro M p2 H5 il ll np1 s5 so2
  have sH : Same H H5 := (sF.trans ow.toSame).trans s5
  have soN : SolAt K CS (newF H H5) p2 ns M := so2 _ (newF_pre (sF.trans ow.toSame)) fun z => by cases z
  have np := same_none (sF.trans ow.toSame) np1
  have can := il.1
  clear ow rs rF so2 np1 s5 la
  have ow := Own.start H5
  have so5 : SolAt K CS H5 p2 ns M := soN.same newF_sub
  have sr5 := sH.seq sr1
  have sq5 := sH.seq sq
  walk_at "go"
  refine r_lc ?_
  refine r_iStr ?_
  walk_at "go"
  have lk : kmqz.cps.size = 4 := by decide +kernel
  refine c_lcF 4 (by decide) (fun _ => rfl) (fun D i acc H' => acc = ((kmqzL.take i).filter fun y => decide (y ∉ ns)).map V.str ∧ Own H5 H' [(D, .lst acc)]) (fun D nD => ⟨rfl, ow.new nD⟩) ?_ ?_ ?_ ?_
  · rintro D i acc H6 _ hi
    exact (show i < kmqz.cps.size by rw [lk]; exact hi)
  · rintro D acc H6 _
    exact (show kmqz.cps.size ≤ 4 by rw [lk]; exact Nat.le_refl _)
  · rintro D i acc H6 x H7 R Z hi la ⟨rfl, ow2⟩ ⟨rfl, c, hc, rfl⟩ hR hZ
    clear ow
    have ow := ow2
    have hk : kmqzL[i]? = some ⟨#[c]⟩ := by
      have hc2 : kmqz.cps.toList[i]? = some c := by
        rw [Array.getElem?_toList]
        exact hc
      unfold kmqzL
      rw [List.getElem?_map, hc2]
      rfl
    have et : kmqzL.take (i + 1) = kmqzL.take i ++ [⟨#[c]⟩] := by rw [List.take_succ, hk]; rfl
    walk_at "go"
    refine r_niS (.inl (ow.toSame.seq sr5)) ?_
    by_cases hm : (⟨#[c]⟩ : Str) ∈ ns
    · rw [decide_eq_true hm]
      walk_at "go"
      exact hZ _ ⟨by rw [et, List.filter_append]; simp [hm], ow⟩
    · rw [decide_eq_false hm]
      walk_at "go"
      exact hR _ _ (ow.get 0 rfl) ⟨by rw [et, List.filter_append]; simp [hm], ow.put 0 rfl⟩
  rintro D acc H6 nD ⟨rfl, ow2⟩ la
  obtain ⟨f', rest, ef, lf, nf⟩ := free_ex (ns := ns) l3
  rw [show kmqzL.take 4 = kmqzL from List.take_of_length_le (by rw [kmqzL_is]; decide), ef] at ow2
  clear ow la lk
  obtain ⟨n0, hn0⟩ : ∃ n0, ns[0]? = some n0 := ⟨_, List.getElem?_eq_getElem (by omega)⟩
  have mn0 := List.mem_of_getElem? hn0
  have h0 : atI (ns.map V.str) 0 = some (.str n0) := at_nat (k := 0) rfl (by rw [List.getElem?_map, hn0]; rfl)
  have hf0 : atI ((f' :: rest).map V.str) 0 = some (.str f') := at_nat (k := 0) rfl rfl
  have nd := okN_nd on1
  have signed : ∀ {both : Bool} {pA pB : Addr} {Hc : Hp} {Q' : VK} {E' : XK} {MB : Tab}, Same H Hc → SolAt K CS (newF H Hc) pA ns M → SolAt K CS Hc pB ns MB → MB.length ≤ 20 → (∀ α, (if both then Acc M 0 α ∧ Acc MB 0 α else Acc M 0 α ∨ Acc MB 0 α) ↔ Acc M 0 α) →
      (∀ r H', H r = none → Same Hc H' → (∀ F2, Same (newF H H') F2 → SolAt K CS F2 r ns M) → Q' (.ref r) H') → sp_sign K CS aUnlikeNames both [.ref pA, .ref pB] Hc Q' E' := by
    intro both pA pB Hc Q' E' MB sc sA sB lB hac q'
    have lM : M.length ≤ 20 := by omega
    have lP : (M.length + 1) * (MB.length + 1) ≤ 1000 := Nat.le_trans (Nat.mul_le_mul (show M.length + 1 ≤ 21 by omega) (show MB.length + 1 ≤ 21 by omega)) (by decide)
    refine ⟨pA, pB, ns, ns, M, MB, rfl, sA.same newF_sub, sB, lP, fun _ Tr r H' acc _ nr s k => ?_, fun ne => absurd rfl ne⟩
    have kk : ∀ F2, Same (newF H H') F2 → SolAt K CS F2 r ns Tr := fun F2 sF2 => k (newF H Hc) F2 sA newF_sub ((newF_mono s).trans sF2) ((newF_pre sc).trans sF2)
    have eT : Tr = M := canon_eq (kk _ (Same.refl _)).can can fun α => (acc α).trans (hac α)
    subst eT
    exact q' r H' (same_none sc nr) s kk
  have ow := ow2
  clear ow2
  walk_at "go"
  · refine c_same (so5.same ow.toSame) (so5.same ow.toSame) ?_
    exact signed (sH.trans ow.toSame) (soN.same (newF_mono ow.toSame)) (so5.same ow.toSame) (by omega) (fun α => by simp) fun r H' nr s k => q M r H' il ll nr (sH.trans (ow.toSame.trans s)) k
  · refine c_same (so5.same ow.toSame) (so5.same ow.toSame) ?_
    exact signed (sH.trans ow.toSame) (soN.same (newF_mono ow.toSame)) (so5.same ow.toSame) (by omega) (fun α => by simp) fun r H' nr s k => q M r H' il ll nr (sH.trans (ow.toSame.trans s)) k
  · have mf1 : ∀ x, chg [(n0, f')] x = if x = n0 then f' else x := fun x => chg_one n0 f' x
    refine ⟨p2, pL, ns, M, [.ref pT], [(n0, f')], rfl, so5.same ow.toSame, SqL.of (ow.get 0 rfl), ⟨rfl, fun i pr e => ?_⟩, by show 1 ≤ 60; decide, fun pr hpr => ?_, fun x hx => ?_, chg_inj nd nf, fun ms M1 p3 H8 perm srt okms il1 ll1 np3 s8 so3 => ?_⟩
    · cases i with
      | zero =>
        cases e
        exact ⟨pT, rfl, SqT.of (ow.get 1 rfl)⟩
      | succ i => simp at e
    · rw [List.mem_singleton.mp hpr]
      exact mn0
    · rw [mf1]
      split
      · exact lf
      · exact okN_L on1 x hx
    have lms : ms.length = ns.length := by rw [perm.length_eq, List.length_map]
    have pback : (ms.map (chg [(f', n0)])).Perm ns := by
      have := perm.map (chg [(f', n0)])
      rw [chg_map nf] at this
      exact this
    have so3' := so3 H8 newF_sub
    have s58 := ow.toSame.trans s8
    have sr8 := s58.seq sr5
    clear ow
    have ow := Own.start H8
    walk_at "go"
    refine ⟨p3, pL, ms, M1, [.ref pT], [(f', n0)], rfl, so3'.same ow.toSame_of, SqL.of (ow.get 0 rfl), ⟨rfl, fun i pr e => ?_⟩, by show 1 ≤ 60; decide, fun pr hpr => ?_, fun x hx => ?_, pback.nodup_iff.mpr nd, fun ms2 M2 p4 H9 perm2 srt2 okms2 il2 ll2 np4 s9 so4 => ?_⟩
    · cases i with
      | zero =>
        cases e
        exact ⟨pT, rfl, SqT.of (ow.get 1 rfl)⟩
      | succ i => simp at e
    · rw [List.mem_singleton.mp hpr]
      exact perm.mem_iff.mpr (List.mem_map.mpr ⟨n0, mn0, by rw [mf1, if_pos rfl]⟩)
    · have : chg [(f', n0)] x ∈ ms.map (chg [(f', n0)]) := List.mem_map.mpr ⟨x, hx, rfl⟩
      exact okN_L on1 _ (pback.mem_iff.mp this)
    · obtain rfl : ms2 = ns := names_eq okms2 on1 (perm2.trans pback)
      have e2 : M2 = M := pick_back can (n := ms2.length) (by unfold plc; rw [List.length_map, List.length_map]) rfl (by rw [← lms]; exact il1) il2 (by unfold plc; rw [List.length_map, List.length_map, lms]) (plc_back nd nf perm)
      subst e2
      have sA := (sH.trans s58).trans ow.toSame
      exact q _ p4 H9 il ll (same_none sA np4) (sA.trans s9) fun F2 s => so4 F2 ((newF_pre sA).trans s)
  · refine ⟨r1, pL, _, _, rfl, rfl, ow.toSame _ _ (sH _ _ er1), ow.get 0 rfl, ?_, fun pC nC => ?_⟩
    · rw [lns]
      show ns.length + 1 ≤ sizeLine
      exact Nat.le_trans (show ns.length + 1 ≤ 4 by omega) (by decide)
    replace ow := ow.new (o := .lst (ns.map V.str ++ [.str f'])) nC
    have eap : ns.map V.str ++ [.str f'] = (ns ++ [f']).map V.str := by
      rw [List.map_append]
      rfl
    rw [eap] at ow ⊢
    walk_at "go"
    refine r_sortS ow (SqL.of (ow.get 0 rfl)) (by rw [List.length_append]; show ns.length + 1 < 64; omega) ?_
    intro ms pY H7 perm srt nY ow
    have ndA : (ns ++ [f']).Nodup := by
      rw [List.nodup_append]
      refine ⟨nd, by simp, fun a ha b hb e => nf ?_⟩
      rw [← List.mem_singleton.mp hb, ← e]
      exact ha
    have lms : ms.length = ns.length + 1 := by rw [perm.length_eq, List.length_append]; rfl
    have okms : okN ms = true := okN_sorted srt (perm.nodup_iff.mpr ndA) (fun x hx => by
      rcases List.mem_append.mp (perm.mem_iff.mp hx) with h | h
      · exact okN_L on1 x h
      · rw [List.mem_singleton.mp h]; exact lf) (by omega) (by omega)
    have mf : f' ∈ ms := perm.mem_iff.mpr (by simp)
    walk_at "go"
    refine ⟨p2, pY, ns, ms, M, rfl, so5.same ow.toSame, SqL.of (ow.get 0 rfl), okms, fun x hx => perm.mem_iff.mpr (by simp [hx]), fun M1 p3 H8 il1 ll1 np3 s8 so3 => ?_⟩
    have so3' := so3 H8 newF_sub
    have s58 := ow.toSame.trans s8
    clear ow
    have ow := Own.start H8
    walk_at "go"
    have eo := othr_app on1 okms nf perm l1
    refine ⟨p3, pW, f', ms, M1, 5, 1, 3, 1, rfl, so3'.same ow.toSame_of, mf, by omega, ⟨⟨dW, ow.get 0 rfl⟩, by decide, by decide, by decide, wd_pw (by decide) (by decide), lead5, span1⟩, by decide, by omega, fun M2 p4 H9 can2 ins ll2 np4 s9 so4 => ?_⟩
    rw [eo] at can2 ins so4
    have hi := List.idxOf_lt_length_of_mem mf
    have e2 : M2 = M := pick_ins can (n := ns.length) (by unfold plc; rw [List.length_map]) rfl (by omega) (by rw [← lms]; exact il1) can2 ins (fun k => wbit_lt) (plc_more on1 okms mf eo)
    subst e2
    have sA := (sH.trans s58).trans ow.toSame
    exact q _ p4 H9 il ll (same_none sA np4) (sA.trans s9) fun F2 s => so4 F2 ((newF_pre sA).trans s)
  · exact q M p2 H6 il ll (np) (sH.trans ow.toSame) fun F2 s => soN.same ((newF_mono ow.toSame).trans s)
  · refine ⟨r1, pL, ns, rfl, ow.toSame.seq sr5, on1, SqL.of (ow.get 0 rfl), fun Ms ps Hs ils lls nps ss sos => ?_⟩
    replace ow := ow.same ss
    refine c_same (so5.same ow.toSame) (sos Hs newF_sub) ?_
    refine signed (sH.trans ow.toSame) (soN.same (newF_mono ow.toSame)) (sos Hs newF_sub) (by omega) (fun α => ?_) fun r H' nr s k => q M r H' il ll nr (sH.trans (ow.toSame.trans s)) k
    show (Acc M 0 α ∧ Acc Ms 0 α) ↔ _
    rw [← ils.2 α, acc_all]
    exact ⟨fun z => z.1, fun z => ⟨z, acc_rows can.rows z⟩⟩
  · exact q M p2 H6 il ll (np) (sH.trans ow.toSame) fun F2 s => soN.same ((newF_mono ow.toSame).trans s)
end

/-! drawn names and rooms of the laws of counting, as callers take them -/
theorem c_lnamesL {F H : Hp} {L : List (Addr × HO)} {i c : Nat} {a : Addr} {x y z v : Int} {Q : VK} {E : XK} (h : Own F H L) (e : L[i]? = some (a, wl x y z)) (wk : WOk y z) (hz : z + 10 ≤ 1000000) (hv : v = (c : Nat)) (hc : c ≤ 3)
    (k : ∀ (ks : List Nat) x' z' r F' H', ks.length = c → ks.Pairwise (· < ·) → (∀ k ∈ ks, k < 26) → z ≤ z' → z' ≤ z + 4 → WOk y z' → Own F' H' (L.set i (a, wl x' y z')) → Same F F' → F' r = some (.lst ((ks.map letS).map V.str)) → Q (.ref r) H') : sp_lnames ([.ref a, .int v] ++ []) H Q E := by
  refine ⟨a, x, y, z, c, by rw [hv]; rfl, h.get i e, wk, hz, hc, fun ks x' z' r H' l p b z1 z2 n m er => ?_⟩
  obtain ⟨o, s⟩ := (h.mutnew e m n er).frz
  refine k ks x' z' r _ H' l p b z1 z2 ⟨wk.y0, wk.y1, by have := wk.z0; omega, by omega⟩ o s ?_
  rw [List.map_map]
  exact upd_same
theorem c_lrooms {K : PySem.W.Frag} {F H : Hp} {L : List (Addr × HO)} {i m n : Nat} {a : Addr} {x y z v u : Int} {Q : VK} {E : XK} (h : Own F H L) (e : L[i]? = some (a, wl x y z)) (wk : WOk y z) (hz : z + 400 ≤ 1000000) (hv : v = (m : Nat)) (hu : u = (n : Nat)) (hm1 : 1 ≤ m) (hm : m ≤ 8) (hn : n ≤ 20)
    (k : ∀ (T : Tab) x' z' r F' H', T.length ≤ n → TIn T → (∀ q ∈ T, q.length = m) → z ≤ z' → z' ≤ z + 400 → WOk y z' → Own F' H' (L.set i (a, wl x' y z')) → Same F F' → TabAt K F' r T → Q (.ref r) H') : sp_lrooms K ([.ref a, .int v, .int u] ++ []) H Q E := by
  refine ⟨a, x, y, z, m, n, by rw [hv, hu]; rfl, h.get i e, wk, hz, hm1, hm, hn, fun T x' z' r us H' l tin hr z1 z2 nr mu er ra => ?_⟩
  obtain ⟨F2, o2, s1, s2⟩ := h.rebase e mu nr er
  obtain ⟨o3, s3⟩ := o2.frz
  exact k T x' z' r _ H' l tin hr z1 z2 ⟨wk.y0, wk.y1, by have := wk.z0; omega, by omega⟩ o3 (s1.trans s3) ⟨us, SqL.of upd_same, ra.same (s2.trans s3)⟩
theorem o_ixB {K : PySem.W.Frag} {F H : Hp} {L : List (Addr × HO)} {a : Addr} {i : Nat} {x y v l m : Int} {Q : VK} (h : Own F H L) (e : L[i]? = some (a, .lst [.int x, .int y])) (h0 : 0 ≤ v) (h1 : v < 2) (x0 : l ≤ x ∧ x ≤ m) (y0 : l ≤ y ∧ y ≤ m) (k : ∀ N : Int, l ≤ N → N ≤ m → Q (.int N) H) : rIxL K (.ref a) (.int v) H Q := by
  have : v = 0 ∨ v = 1 := by omega
  rcases this with rfl | rfl
  · exact o_ixL h e (at_nat (k := 0) rfl rfl) (k x x0.1 x0.2)
  · exact o_ixL h e (at_nat (k := 1) rfl rfl) (k y y0.1 y0.2)

/-! plain: how large the numbers of ways are -/
theorem sum_le : ∀ {l : List Nat} {b : Nat}, (∀ x ∈ l, x ≤ b) → l.sum ≤ l.length * b
  | [], _, _ => by simp
  | x :: l, b, h => by
    have := sum_le (l := l) fun y hy => h y (List.mem_cons_of_mem _ hy)
    have := h x List.mem_cons_self
    rw [List.sum_cons, List.length_cons, Nat.succ_mul]
    omega
theorem wv_le {T : Tab} {m : Nat} (h : ∀ r ∈ T, r.length = m) : ∀ k, ∀ x ∈ wv T k, x ≤ m ^ k
  | 0, x, hx => by
    rw [List.eq_of_mem_replicate hx]
    exact Nat.le_refl _
  | k + 1, x, hx => by
    obtain ⟨r, hr, rfl⟩ := List.mem_map.mp hx
    unfold rowW
    have := sum_le (l := r.map (oN (wv T k))) (b := m ^ k) fun y hy => by
      obtain ⟨e, _, rfl⟩ := List.mem_map.mp hy
      cases e with
      | none => exact Nat.zero_le _
      | some n =>
        show (wv T k)[n]?.getD 0 ≤ _
        cases z : (wv T k)[n]? with
        | none => exact Nat.zero_le _
        | some v => exact wv_le h k v (List.mem_of_getElem? z)
    rw [List.length_map, h r hr] at this
    rw [Nat.pow_succ, Nat.mul_comm]
    exact this
theorem cntM_le {T : Tab} {m k : Nat} (h : ∀ r ∈ T, r.length = m) (hm : m ≤ 8) (hk : k ≤ 501) : cntM T k < 2 ^ 1510 := by
  have a : cntM T k ≤ m ^ k := by
    unfold cntM
    cases z : (wv T k)[0]? with
    | none => exact Nat.zero_le _
    | some v => exact wv_le h k v (List.mem_of_getElem? z)
  have b : m ^ k ≤ 8 ^ k := Nat.pow_le_pow_left hm k
  have c : (8 : Nat) ^ k = 2 ^ (3 * k) := by rw [Nat.pow_mul]
  have d : (2 : Nat) ^ (3 * k) < 2 ^ 1510 := Nat.pow_lt_pow_right (by decide) (by omega)
  omega
theorem rq_intB {k m : Nat} {c : Nat} (h : c < 2 ^ 1510) (hm : Nat.ble 1512 m = true) : Rp k m (.int (c : Int)) := (rp_intS 1510 (by rw [Int.natAbs_natCast]; exact h) (by decide) (by decide)).mono (Nat.zero_le _) (Nat.le_of_ble_eq_true hm)

/-! plain: paths by their index; all paths of a width -/
/-- the letter, the follow and what is left of an index -/
def stepN (ws : List Nat) : List (Option Nat) → Nat → Nat → Option (Nat × Nat × Nat)
  | [], _, _ => none
  | none :: r, c, l => stepN ws r (c + 1) l
  | some f :: r, c, l => if l < ws[f]?.getD 0 then some (c, f, l) else stepN ws r (c + 1) (l - ws[f]?.getD 0)
def rowAt (T : Tab) (i : Nat) : List (Option Nat) := T[i]?.getD []
/-- the letters of the path with an index -/
def nthP (T : Tab) : Nat → Nat → Nat → List Nat
  | 0, _, _ => []
  | w + 1, i, l => match stepN (wv T w) (rowAt T i) 0 l with
    | some (c, f, l') => c :: nthP T w f l'
    | none => []
/-- all paths of a width, with their ends, by their letters -/
def extR (p : List Nat) (r : List (Option Nat)) : List (List Nat × Nat) := (r.zipIdx 0).filterMap fun x => x.1.map fun f => (p ++ [x.2], f)
def allN (T : Tab) : Nat → List (List Nat × Nat)
  | 0 => [([], 0)]
  | w + 1 => (allN T w).flatMap fun x => extR x.1 (rowAt T x.2)
def frR (g : Nat → List (List Nat × Nat)) (r : List (Option Nat)) (o : Nat) : List (List Nat × Nat) := (r.zipIdx o).flatMap fun x => match x.1 with
  | some f => (g f).map fun y => (x.2 :: y.1, y.2)
  | none => []
def frontN (T : Tab) : Nat → Nat → List (List Nat × Nat)
  | 0, i => [([], i)]
  | w + 1, i => frR (frontN T w) (rowAt T i) 0
section
variable {T M : Tab} {m : Nat}
theorem frR_cons_none (g : Nat → List (List Nat × Nat)) (r : List (Option Nat)) (o : Nat) : frR g (none :: r) o = frR g r (o + 1) := by
  unfold frR
  rw [List.zipIdx_cons, List.flatMap_cons]
  rfl
theorem frR_cons_some (g : Nat → List (List Nat × Nat)) (f : Nat) (r : List (Option Nat)) (o : Nat) : frR g (some f :: r) o = ((g f).map fun y => (o :: y.1, y.2)) ++ frR g r (o + 1) := by
  unfold frR
  rw [List.zipIdx_cons, List.flatMap_cons]
theorem frR_flat (g : Nat → List (List Nat × Nat)) (h : List Nat × Nat → List (List Nat × Nat)) (hh : ∀ o (y : List Nat × Nat), h (o :: y.1, y.2) = (h y).map fun z => (o :: z.1, z.2)) : ∀ (r : List (Option Nat)) (o : Nat), (frR g r o).flatMap h = frR (fun f => (g f).flatMap h) r o
  | [], o => rfl
  | none :: r, o => by rw [frR_cons_none, frR_cons_none, frR_flat g h hh r]
  | some f :: r, o => by
    rw [frR_cons_some, frR_cons_some, List.flatMap_append, frR_flat g h hh r, List.flatMap_map, List.map_flatMap]
    congr 1
    simp only [hh]
theorem extR_cons (o : Nat) (p : List Nat) (r : List (Option Nat)) : extR (o :: p) r = (extR p r).map fun z => (o :: z.1, z.2) := by
  unfold extR
  rw [List.map_filterMap]
  congr 1
  funext x
  cases x.1 <;> rfl
theorem fm_flat {α β : Type} {f : α → Option β} {g : α → List β} (h : ∀ x, g x = (f x).toList) : ∀ l : List α, l.filterMap f = l.flatMap g
  | [] => rfl
  | x :: l => by
    rw [List.flatMap_cons, h x, ← fm_flat h l]
    cases e : f x with
    | none => rw [List.filterMap_cons_none e]; rfl
    | some y => rw [List.filterMap_cons_some e]; rfl
theorem extR_one (r : List (Option Nat)) : extR [] r = frR (fun f => [([], f)]) r 0 := by
  unfold extR frR
  refine fm_flat (fun x => ?_) _
  cases x.1 <;> rfl
theorem front_ext : ∀ w i, frontN T (w + 1) i = (frontN T w i).flatMap fun x => extR x.1 (rowAt T x.2)
  | 0, i => by
    show frR (frontN T 0) (rowAt T i) 0 = [([], i)].flatMap _
    rw [List.flatMap_cons, List.flatMap_nil, List.append_nil, extR_one]
    rfl
  | w + 1, i => by
    show frR (frontN T (w + 1)) (rowAt T i) 0 = (frR (frontN T w) (rowAt T i) 0).flatMap _
    rw [frR_flat _ _ fun o y => extR_cons o y.1 _]
    congr 1
    funext f
    exact front_ext w f
theorem all_front : ∀ w, allN T w = frontN T w 0
  | 0 => rfl
  | w + 1 => by
    show (allN T w).flatMap _ = _
    rw [all_front w, front_ext]
theorem frR_len (g : Nat → List (List Nat × Nat)) (ws : List Nat) : ∀ (r : List (Option Nat)) (o : Nat), (∀ f, some f ∈ r → (g f).length = ws[f]?.getD 0) → (frR g r o).length = rowW ws r
  | [], o, _ => rfl
  | none :: r, o, h => by
    rw [frR_cons_none, frR_len g ws r _ fun f hf => h f (List.mem_cons_of_mem _ hf)]
    unfold rowW
    rw [List.map_cons, List.sum_cons]
    show _ = 0 + _
    omega
  | some f :: r, o, h => by
    rw [frR_cons_some, List.length_append, List.length_map, frR_len g ws r _ fun f hf => h f (List.mem_cons_of_mem _ hf), h f List.mem_cons_self]
    unfold rowW
    rw [List.map_cons, List.sum_cons]
    rfl
theorem wv_at {k i : Nat} {r : List (Option Nat)} (h : T[i]? = some r) : (wv T (k + 1))[i]?.getD 0 = rowW (wv T k) r := by
  show ((T.map (rowW (wv T k)))[i]?).getD 0 = _
  rw [List.getElem?_map, h]
  rfl
theorem rowAt_is {i : Nat} {r : List (Option Nat)} (h : T[i]? = some r) : rowAt T i = r := by unfold rowAt; rw [h]; rfl
theorem front_len (tin : TIn T) : ∀ w i, i < T.length → (frontN T w i).length = (wv T w)[i]?.getD 0
  | 0, i, hi => by
    show 1 = ((List.replicate T.length 1)[i]?).getD 0
    rw [List.getElem?_replicate, if_pos hi]
    rfl
  | w + 1, i, hi => by
    obtain ⟨r, hr⟩ : ∃ r, T[i]? = some r := ⟨_, List.getElem?_eq_getElem hi⟩
    show (frR (frontN T w) (rowAt T i) 0).length = _
    rw [rowAt_is hr, wv_at hr]
    exact frR_len _ _ _ _ fun f hf => front_len tin w f (tin.lt r (List.mem_of_getElem? hr) _ hf f rfl)
theorem step_fr (g : Nat → List (List Nat × Nat)) (ws : List Nat) : ∀ (r : List (Option Nat)) (o l : Nat), (∀ f, some f ∈ r → (g f).length = ws[f]?.getD 0) → l < rowW ws r →
    ∃ c f l', stepN ws r o l = some (c, f, l') ∧ some f ∈ r ∧ l' < ws[f]?.getD 0 ∧ (frR g r o)[l]? = ((g f)[l']?).map fun y => (c :: y.1, y.2)
  | [], o, l, _, hl => absurd hl (Nat.not_lt_zero _)
  | none :: r, o, l, h, hl => by
    have hl' : l < rowW ws r := by
      unfold rowW at hl ⊢
      rw [List.map_cons, List.sum_cons] at hl
      have : oN ws none = 0 := rfl
      omega
    obtain ⟨c, f, l', e1, e2, e3, e4⟩ := step_fr g ws r (o + 1) l (fun f hf => h f (List.mem_cons_of_mem _ hf)) hl'
    refine ⟨c, f, l', e1, List.mem_cons_of_mem _ e2, e3, ?_⟩
    rw [frR_cons_none]
    exact e4
  | some f :: r, o, l, h, hl => by
    have hg := h f List.mem_cons_self
    by_cases z : l < ws[f]?.getD 0
    · refine ⟨o, f, l, ?_, List.mem_cons_self, z, ?_⟩
      · unfold stepN
        rw [if_pos z]
      · rw [frR_cons_some, List.getElem?_append_left (by rw [List.length_map, hg]; exact z), List.getElem?_map]
    · have hl' : l - ws[f]?.getD 0 < rowW ws r := by
        unfold rowW at hl ⊢
        rw [List.map_cons, List.sum_cons] at hl
        have : oN ws (some f) = ws[f]?.getD 0 := rfl
        omega
      obtain ⟨c, f', l', e1, e2, e3, e4⟩ := step_fr g ws r (o + 1) _ (fun f hf => h f (List.mem_cons_of_mem _ hf)) hl'
      refine ⟨c, f', l', ?_, List.mem_cons_of_mem _ e2, e3, ?_⟩
      · unfold stepN
        rw [if_neg z]
        exact e1
      · rw [frR_cons_some, List.getElem?_append_right (by rw [List.length_map, hg]; omega), List.length_map, hg]
        exact e4
theorem front_nth (tin : TIn T) : ∀ w i l, i < T.length → l < (wv T w)[i]?.getD 0 → ∃ e, (frontN T w i)[l]? = some (nthP T w i l, e)
  | 0, i, l, hi, hl => by
    have : (wv T 0)[i]?.getD 0 = 1 := by
      show ((List.replicate T.length 1)[i]?).getD 0 = 1
      rw [List.getElem?_replicate, if_pos hi]
      rfl
    obtain rfl : l = 0 := by omega
    exact ⟨i, rfl⟩
  | w + 1, i, l, hi, hl => by
    obtain ⟨r, hr⟩ : ∃ r, T[i]? = some r := ⟨_, List.getElem?_eq_getElem hi⟩
    rw [wv_at hr] at hl
    obtain ⟨c, f, l', e1, e2, e3, e4⟩ := step_fr (frontN T w) (wv T w) r 0 l (fun f hf => front_len tin w f (tin.lt r (List.mem_of_getElem? hr) _ hf f rfl)) hl
    have hf := tin.lt r (List.mem_of_getElem? hr) _ e2 f rfl
    obtain ⟨e, he⟩ := front_nth tin w f l' hf e3
    refine ⟨e, ?_⟩
    show (frR (frontN T w) (rowAt T i) 0)[l]? = some ((match stepN (wv T w) (rowAt T i) 0 l with
      | some (c, f, l') => c :: nthP T w f l'
      | none => []), e)
    rw [rowAt_is hr, e4, he, e1]
    rfl
/-- all paths by their indexes -/
theorem all_nth (tin : TIn T) (h0 : 0 < T.length) (w : Nat) : (allN T w).map Prod.fst = (List.range ((wv T w)[0]?.getD 0)).map (nthP T w 0) := by
  apply List.ext_getElem?
  intro l
  rw [all_front, List.getElem?_map, List.getElem?_map]
  have len := front_len tin w 0 h0
  by_cases hl : l < (wv T w)[0]?.getD 0
  · obtain ⟨e, he⟩ := front_nth tin w 0 l h0 hl
    rw [he, List.getElem?_range hl]
    rfl
  · rw [List.getElem?_eq_none (by rw [len]; omega), List.getElem?_eq_none (by rw [List.length_range]; omega)]
    rfl
/-- where the index stands in the row -/
theorem nth_step (tin : TIn T) {w i l : Nat} {r : List (Option Nat)} (hr : T[i]? = some r) (hl : l < (wv T (w + 1))[i]?.getD 0) : ∃ c f l', stepN (wv T w) r 0 l = some (c, f, l') ∧ some f ∈ r ∧ l' < (wv T w)[f]?.getD 0 ∧ f < T.length ∧ nthP T (w + 1) i l = c :: nthP T w f l' := by
  rw [wv_at hr] at hl
  obtain ⟨c, f, l', e1, e2, e3, _⟩ := step_fr (frontN T w) (wv T w) r 0 l (fun f hf => front_len tin w f (tin.lt r (List.mem_of_getElem? hr) _ hf f rfl)) hl
  refine ⟨c, f, l', e1, e2, e3, tin.lt r (List.mem_of_getElem? hr) _ e2 f rfl, ?_⟩
  show (match stepN (wv T w) (rowAt T i) 0 l with
      | some (c, f, l') => c :: nthP T w f l'
      | none => []) = _
  rw [rowAt_is hr, e1]
/-- rows that are alike step alike -/
theorem step_eq {ws vs : List Nat} : ∀ {r s : List (Option Nat)} {o l : Nat}, r.length = s.length → (∀ (c : Nat) (e d : Option Nat), r[c]? = some e → s[c]? = some d → (e = none ↔ d = none) ∧ ∀ x y, e = some x → d = some y → ws[x]?.getD 0 = vs[y]?.getD 0) →
    (stepN ws r o l = none ∧ stepN vs s o l = none) ∨ ∃ c x y l', stepN ws r o l = some (o + c, x, l') ∧ stepN vs s o l = some (o + c, y, l') ∧ r[c]? = some (some x) ∧ s[c]? = some (some y)
  | [], [], o, l, _, _ => .inl ⟨rfl, rfl⟩
  | [], _ :: _, _, _, h, _ => by cases h
  | _ :: _, [], _, _, h, _ => by cases h
  | e :: r, d :: s, o, l, hl, hp => by
    have hp' : ∀ (c : Nat) (e d : Option Nat), r[c]? = some e → s[c]? = some d → (e = none ↔ d = none) ∧ ∀ x y, e = some x → d = some y → ws[x]?.getD 0 = vs[y]?.getD 0 := fun c e d h1 h2 => hp (c + 1) e d (by simpa using h1) (by simpa using h2)
    have go : ∀ {l : Nat}, (stepN ws r (o + 1) l = none ∧ stepN vs s (o + 1) l = none) ∨ ∃ c x y l', stepN ws r (o + 1) l = some (o + c, x, l') ∧ stepN vs s (o + 1) l = some (o + c, y, l') ∧ (e :: r)[c]? = some (some x) ∧ (d :: s)[c]? = some (some y) := fun {l} => by
      rcases step_eq (o := o + 1) (l := l) (Nat.succ.inj hl) hp' with ⟨a, b⟩ | ⟨c, x, y, l', a, b, p, q⟩
      · exact .inl ⟨a, b⟩
      · exact .inr ⟨c + 1, x, y, l', by rw [a]; congr 2; omega, by rw [b]; congr 2; omega, by simpa using p, by simpa using q⟩
    obtain ⟨h1, h2⟩ := hp 0 e d rfl rfl
    cases e with
    | none =>
      cases h1.mp rfl
      exact go
    | some x =>
      cases d with
      | none => cases h1.mpr rfl
      | some y =>
        have hw := h2 x y rfl rfl
        unfold stepN
        rw [hw]
        by_cases z : l < vs[y]?.getD 0
        · rw [if_pos z, if_pos z]
          exact .inr ⟨0, x, y, l, rfl, rfl, rfl, rfl⟩
        · rw [if_neg z, if_neg z]
          exact go
/-- the path of the law's own rooms is the one of the least table -/
theorem nth_eqv {L : List Bool} (hL : LiveL T L) (l0 : L[0]?.getD false = true) (tin : TIn T) (hT : ∀ r ∈ T, r.length = m) (can : Canon m M) : ∀ (k : Nat) {i j l : Nat}, i < T.length → j < M.length → Eqv T i M j → nthP (trimT T L) k i l = nthP M k j l
  | 0, i, j, l, hi, hj, q => rfl
  | k + 1, i, j, l, hi, hj, q => by
    obtain ⟨r, hr⟩ : ∃ r, T[i]? = some r := ⟨_, List.getElem?_eq_getElem hi⟩
    obtain ⟨s, hs⟩ : ∃ s, M[j]? = some s := ⟨_, List.getElem?_eq_getElem hj⟩
    have lr := hT r (List.mem_of_getElem? hr)
    have ls := can.rows s (List.mem_of_getElem? hs)
    have row : ∀ (c : Nat) (e d : Option Nat), (r.map (trimE L))[c]? = some e → s[c]? = some d → (e = none ↔ d = none) ∧ ∀ x y, e = some x → d = some y → Eqv T x M y ∧ x < T.length ∧ y < M.length := by
      intro c e d he hd
      rw [List.getElem?_map] at he
      obtain ⟨e0, h0, rfl⟩ := Option.map_eq_some_iff.mp he
      have fe : fol T i c = e0 := by rw [fol_row hr, h0]; rfl
      have fd : fol M j c = d := by rw [fol_row hs, hd]; rfl
      cases d with
      | some y =>
        obtain ⟨x, fx, qx⟩ := eqv_fol q.symm fd (can.live y (fol_in can.tin fd))
        rw [fe] at fx
        subst fx
        have lx : Live T x := (eqv_live qx).mp (can.live y (fol_in can.tin fd))
        have bx : lvB L (some x) = true := (hL.get x).mpr lx
        have ex : trimE L (some x) = some x := by unfold trimE; rw [if_pos bx]
        rw [ex]
        refine ⟨⟨(fun z => nomatch z), (fun z => nomatch z)⟩, fun x' y' h1 h2 => ?_⟩
        cases h1
        cases h2
        exact ⟨qx.symm, fol_in tin fe, fol_in can.tin fd⟩
      | none =>
        have : trimE L e0 = none := by
          cases e0 with
          | none => unfold trimE; split <;> rfl
          | some x =>
            unfold trimE
            rw [if_neg]
            intro bx
            have lx : Live T x := (hL.get x).mp bx
            obtain ⟨y, fy, _⟩ := eqv_fol q fe lx
            rw [fd] at fy
            cases fy
        rw [this]
        exact ⟨⟨fun _ => rfl, fun _ => rfl⟩, fun x' y' h1 => by cases h1⟩
    have et : rowAt (trimT T L) i = r.map (trimE L) := rowAt_is (trim_row l0 hr)
    have hw : ∀ {x y : Nat}, Eqv T x M y → x < T.length → y < M.length → (wv (trimT T L) k)[x]?.getD 0 = (wv M k)[y]?.getD 0 := fun q hx hy => wv_eqv hL l0 tin hT can k hx hy q
    show (match stepN (wv (trimT T L) k) (rowAt (trimT T L) i) 0 l with
      | some (c, f, l') => c :: nthP (trimT T L) k f l'
      | none => []) = (match stepN (wv M k) (rowAt M j) 0 l with
      | some (c, f, l') => c :: nthP M k f l'
      | none => [])
    rw [et, rowAt_is hs]
    rcases step_eq (ws := wv (trimT T L) k) (vs := wv M k) (r := r.map (trimE L)) (s := s) (o := 0) (l := l) (by rw [List.length_map, lr, ls]) (fun c e d he hd => ⟨(row c e d he hd).1, fun x y hx hy => by
      obtain ⟨a, b, c'⟩ := (row c e d he hd).2 x y hx hy
      exact hw a b c'⟩) with ⟨a, b⟩ | ⟨c, x, y, l', a, b, p, p'⟩
    · rw [a, b]
    · rw [a, b]
      obtain ⟨qx, hx, hy⟩ := (row c _ _ p p').2 x y rfl rfl
      show (0 + c) :: _ = (0 + c) :: _
      rw [nth_eqv hL l0 tin hT can k hx hy qx]
end

/-! lists of objects, one by one -/
inductive Each {α : Type} (R : Hp → V → α → Prop) (H : Hp) : List V → List α → Prop
  | nil : Each R H [] []
  | cons {v : V} {x : α} {vs : List V} {xs : List α} (h : R H v x) (t : Each R H vs xs) : Each R H (v :: vs) (x :: xs)
section
variable {α : Type} {R : Hp → V → α → Prop} {H H' : Hp}
theorem Each.same (m : ∀ v x, R H v x → R H' v x) : ∀ {vs : List V} {xs : List α}, Each R H vs xs → Each R H' vs xs
  | _, _, .nil => .nil
  | _, _, .cons h t => .cons (m _ _ h) (t.same m)
theorem Each.length : ∀ {vs : List V} {xs : List α}, Each R H vs xs → vs.length = xs.length
  | _, _, .nil => rfl
  | _, _, .cons h t => by rw [List.length_cons, List.length_cons, t.length]
theorem Each.at : ∀ {vs : List V} {xs : List α} {i : Nat} {x : α}, Each R H vs xs → xs[i]? = some x → ∃ v, vs[i]? = some v ∧ R H v x
  | _, _, i, x, .nil, e => by cases e
  | _, _, 0, x, .cons h t, e => by cases e; exact ⟨_, rfl, h⟩
  | _, _, i + 1, x, .cons h t, e => by
    obtain ⟨v, a, b⟩ := t.at (i := i) (x := x) (by simpa using e)
    exact ⟨v, by simpa using a, b⟩
theorem Each.snoc {v : V} {x : α} (h : R H v x) : ∀ {vs : List V} {xs : List α}, Each R H vs xs → Each R H (vs ++ [v]) (xs ++ [x])
  | _, _, .nil => .cons h .nil
  | _, _, .cons g t => .cons g (t.snoc h)
end
/-- a tuple of small numbers -/
def RT (H : Hp) (v : V) (row : List Nat) : Prop := ∃ a, v = .ref a ∧ H a = some (.tup (nI row))
/-- a path with its end -/
def RP (H : Hp) (v : V) (x : List Nat × Nat) : Prop := ∃ t l, v = .ref t ∧ H t = some (.tup [.ref l, .int (x.2 : Nat)]) ∧ H l = some (.lst (nI x.1))
theorem RT.same {H H' : Hp} (s : Same H H') (v : V) (x : List Nat) : RT H v x → RT H' v x := fun ⟨a, e, h⟩ => ⟨a, e, s _ _ h⟩
theorem RP.same {H H' : Hp} (s : Same H H') (v : V) (x : List Nat × Nat) : RP H v x → RP H' v x := fun ⟨t, l, e, h, g⟩ => ⟨t, l, e, s _ _ h, s _ _ g⟩
def tupP (row : List Nat) : PyData := .tuple (row.map fun (n : Nat) => .int (n : Nat))
theorem dpa_nI {K : PySem.W.Frag} {H : Hp} : ∀ row : List Nat, DpAll K H (nI row) (row.map fun (n : Nat) => PyData.int (n : Nat))
  | [] => .nil
  | n :: r => .cons (.int _) (dpa_nI r)
theorem Each.dp {K : PySem.W.Frag} {H : Hp} : ∀ {vs : List V} {xs : List (List Nat)}, Each RT H vs xs → DpAll K H vs (xs.map tupP)
  | _, _, .nil => .nil
  | _, _, .cons ⟨a, e, h⟩ t => by subst e; exact .cons (.tup (SqT.of h) (dpa_nI _)) t.dp
theorem rq_row {k m b c : Nat} {row : List Nat} (hk : Nat.ble 1 k = true) (hl : row.length ≤ c) (hb : ∀ n ∈ row, n < 2 ^ b) (h0 : 0 < b) (h1 : b ≤ 1800) (hm : c * (b + 3) + 1 ≤ m) : Rp k m (tupP row) := by
  have := Nat.le_of_ble_eq_true hk
  have a : RpL 0 (b + 2) (row.map fun (n : Nat) => PyData.int (n : Nat)) := fun d hd => by
    obtain ⟨n, hn, rfl⟩ := List.mem_map.mp hd
    exact rp_intS b (by rw [Int.natAbs_natCast]; exact hb n hn) h0 h1
  refine (rp_tup (rpl_all a)).mono (by omega) ?_
  rw [List.length_map]
  have : row.length * (b + 2 + 1) ≤ c * (b + 3) := Nat.mul_le_mul hl (by omega)
  omega
theorem rq_rows {k m b c n : Nat} {rows : List (List Nat)} (hk : Nat.ble 2 k = true) (hn : rows.length ≤ n) (hl : ∀ r ∈ rows, r.length ≤ c) (hb : ∀ r ∈ rows, ∀ n ∈ r, n < 2 ^ b) (h0 : 0 < b) (h1 : b ≤ 1800) (hm : n * (c * (b + 3) + 2) + 1 ≤ m) : Rp k m (.list (rows.map tupP)) := by
  have := Nat.le_of_ble_eq_true hk
  have a : RpL 1 (c * (b + 3) + 1) (rows.map tupP) := fun d hd => by
    obtain ⟨r, hr, rfl⟩ := List.mem_map.mp hd
    exact rq_row rfl (hl r hr) (hb r hr) h0 h1 (Nat.le_refl _)
  refine (rp_list (rpl_all a)).mono (by omega) ?_
  rw [List.length_map]
  have : rows.length * (c * (b + 3) + 1 + 1) ≤ n * (c * (b + 3) + 2) := Nat.mul_le_mul hn (by omega)
  omega

/-! rows of low bits -/


theorem piE_K {X : Cx} {K : PySem.W.Frag} {e : Expr} {ta : TA} {p pos tpos : Pos} {elts : List Expr} {kk : Nat} (h : X.K = K) (hg : Gl X "enumerate") (hm : X.mg "enumerate" = none) (ha : PA X [e] ta) (hs : starEach [e] X.env = [(false, eval e X.env)] := by rfl) :
    PI X (.Tuple elts kk tpos) (.Call (.Name "enumerate" p) [e] [] pos) (iEnum K ta) := h ▸ pi_enum hg hm ha hs
def lowN (ps : List Nat) (i : Nat) : List Nat := (ps.zipIdx 0).map fun x => x.1 / 2 ^ i % 2 * 2 ^ x.2
/-- the low bits of a name, of some letters -/
def lowV (ps : List Nat) (i : Nat) : Nat := (lowN ps i).sum
def lowL (ps : List Nat) (c : Nat) : List Nat := (List.range c).map (lowV ps)
def lowI (ps : List Nat) (i : Nat) : List Int := (lowN ps i).map fun n => ((n : Nat) : Int)
theorem sum_cast : ∀ l : List Nat, (l.map fun n => ((n : Nat) : Int)).sum = ((l.sum : Nat) : Int)
  | [] => rfl
  | x :: l => by rw [List.map_cons, List.sum_cons, List.sum_cons, sum_cast l, Int.natCast_add]
theorem lowI_sum {ps : List Nat} {i : Nat} : (lowI ps i).sum = (lowV ps i : Nat) := sum_cast _
theorem lowI_len {ps : List Nat} {i : Nat} : (lowI ps i).length = ps.length := by unfold lowI lowN; rw [List.length_map, List.length_map, List.length_zipIdx]
theorem lowI_snoc {ps : List Nat} {i j p : Nat} (h : ps[j]? = some p) : (lowI ps i).take (j + 1) = (lowI ps i).take j ++ [((p / 2 ^ i % 2 * 2 ^ j : Nat) : Int)] := by
  rw [List.take_succ]
  unfold lowI lowN
  rw [List.getElem?_map, List.getElem?_map, List.getElem?_zipIdx, h]
  simp
/-- low bits are less than two to the width -/
theorem lowN_lt : ∀ {ps : List Nat} {i o : Nat}, ((ps.zipIdx o).map fun x => x.1 / 2 ^ i % 2 * 2 ^ x.2).sum + 2 ^ o ≤ 2 ^ (o + ps.length)
  | [], i, o => by simp
  | p :: ps, i, o => by
    have := lowN_lt (ps := ps) (i := i) (o := o + 1)
    rw [List.zipIdx_cons, List.map_cons, List.sum_cons, List.length_cons]
    show p / 2 ^ i % 2 * 2 ^ o + _ + _ ≤ _
    rw [show o + 1 + ps.length = o + (ps.length + 1) by omega, Nat.pow_succ 2 o] at this
    have h2 : p / 2 ^ i % 2 * 2 ^ o ≤ 2 ^ o := by
      have : p / 2 ^ i % 2 ≤ 1 := by omega
      exact Nat.le_trans (Nat.mul_le_mul_right _ this) (by omega)
    omega
theorem lowV_lt {ps : List Nat} {i : Nat} : lowV ps i < 2 ^ ps.length := by
  have := lowN_lt (ps := ps) (i := i) (o := 0)
  unfold lowV lowN
  rw [Nat.zero_add] at this
  omega
def sp_lowrow (K : PySem.W.Frag) : Sp := fun vs H Q _ => ∃ (a : Addr) (ps : List Nat) (c : Nat), vs = [.ref a, .int (c : Nat)] ∧ SqL K H a (nI ps) ∧ ps.length ≤ 1000 ∧ c ≤ 10 ∧ ∀ r H', H r = none → Same H H' → H' r = some (.tup (nI (lowL ps c))) → Q (.ref r) H'
section
variable {P : Program} {w : World} {K : PySem.W.Frag} {mg : Str → Option Value} {base : Heap} {f : Addr} {fd : FuncData}
theorem ok_low_row (F : FnP K "low_row" "low_row" s_low_row f fd) (B : Bi mg)  : FnOk P w K mg base CX0 1 f fd ["path", "count"] (sp_lowrow K) := by
  refine F.ok sc_low_row (fun vs H Q E h => by walk_at "len") (fun cdv A outer s H vs Q E hr h => ?_)
  have nd := sc_low_row.nd
  obtain ⟨a, ps, c, rfl, sq, hl, hc, q⟩ := h
  refine ⟨_, PSs.nox (pss_one (ps_ret (pe_callTy cb_tupof rfl B.tuple (by decide +kernel) (pa_cons (pe_lc (own := [("at", 4)]) (g := gName 4) (tt := tYes) (by rfl) nd (pi_range1 rfl B.range (pa_cons (pv 1) pa_nil)) (blkOk_by (own := [("at", 4)]) (N := ["path", "count", "place", "letter", "at"]) (sc := defScope s_low_row) (by decide +kernel)) (fun _ _ _ _ _ => pg_name (i := 4) nd rfl (Or.inr rfl)) (fun _ _ _ _ _ => pts_nil) (fun _ _ _ _ _ => (pe_callB (sum_K (K := K) rfl rfl) (by rfl) (by exact B.sum) (by decide +kernel) (pa_cons (pe_lc (own := [("place", 2), ("letter", 3)]) (g := gTup K 2 (gCons (gName 2) (gCons (gName 3) gNil))) (tt := tYes) (by rfl) nd (piE_K (K := K) rfl (by rfl) (by exact B.enumerate) (pa_cons (pv 0) pa_nil)) (blkOk_by (own := [("place", 2), ("letter", 3)]) (by kernel_rfl)) (fun _ _ _ _ _ => pg_tup rfl (pgs_cons (pg_name (i := 2) nd rfl (Or.inl rfl)) (pgs_cons (pg_name (i := 3) nd rfl (Or.inl rfl)) pgs_nil))) (fun _ _ _ _ _ => pts_nil) (fun _ _ _ _ _ => (pe_op op_shlW (pe_op op_and (pe_op op_shr (pv 3) (pv 4)) pe_int) (pv 2)))) pa_nil)))) pa_nil)))), ?_⟩
  walk_at "s0"
  have ow := Own.start H
  have ll : (nI ps).length = ps.length := by unfold nI; rw [List.length_map]
  walk_at "go"
  refine r_lc ?_
  walk_at "go"
  rw [Int.toNat_natCast]
  refine c_lcR (fun i => .int (lowV ps i : Nat)) ow (by omega) (fun _ => rfl) ?_ ?_
  · intro i D H1 R hi ow1 hR
    clear ow
    have ow := ow1
    rw [Int.zero_add]
    walk_at "go"
    refine r_lc ?_
    walk_at "go"
    refine ⟨a, _, rfl, ow.toSame.seq sq, ?_⟩
    refine c_lcG ps.length (by omega) (fun E j acc H' => acc = ((lowI ps i).take j).map V.int ∧ Own H H' [(E, .lst acc), (D, .lst ((List.range i).map fun i => .int (lowV ps i : Nat)))]) (fun E nE => ⟨rfl, ow.new nE⟩) ?_ ?_ ?_ ?_
    · rintro E j acc H2 ⟨rfl, ow2⟩ hj
      exact ite_go (ow2.toSame.seq sq) (by rw [ll]; exact hj)
    · rintro E acc H2 ⟨rfl, ow2⟩
      rw [← ll]
      exact ite_stop (ow2.toSame.seq sq)
    · rintro E j acc H2 x H3 R2 Z hj la ⟨rfl, ow2⟩ ⟨T, y, rfl, nT, rfl, hy⟩ hR2 hZ
      have hx := hy _ (ow2.toSame.seq sq)
      obtain ⟨p, hp⟩ : ∃ p, ps[j]? = some p := ⟨_, List.getElem?_eq_getElem hj⟩
      rw [show (nI ps)[j]? = some (.int (p : Nat)) by unfold nI; rw [List.getElem?_map, hp]; rfl] at hx
      cases hx
      clear ow
      have ow := ow2.new (o := .tup [.int ((j : Nat) : Int), .int ((p : Nat) : Int)]) nT
      refine g_two (SqT.of (ow.get 0 rfl)) ⟨rfl, tt_yes ?_⟩
      replace ow := ow.drop
      rw [if_pos rfl]
      have b0 : 0 ≤ Builtin.bitAnd ((p : Int) / 2 ^ ((i : Nat) : Int).toNat) 1 := by rw [bitAnd_m1]; omega
      have b1 : Builtin.bitAnd ((p : Int) / 2 ^ ((i : Nat) : Int).toNat) 1 < 2 := by rw [bitAnd_m1]; omega
      walk_at "go"
      rw [kl_val]
      refine hR2 _ _ (ow.get 0 rfl) ⟨?_, ow.put 0 rfl⟩
      rw [lowI_snoc hp, List.map_append]
      rfl
    · rintro E acc H2 nE ⟨rfl, ow2⟩ la
      clear ow
      rw [← lowI_len (i := i), List.take_length] at ow2
      refine r_sum (SqL.of (ow2.get 0 rfl)) ?_
      rw [lowI_sum]
      exact hR _ ow2.drop
  intro D H1 nD ow1
  clear ow
  have ow := ow1
  walk_at "go"
  have eb : ((List.range c).map fun i => V.int (lowV ps i : Nat)) = nI (lowL ps c) := by
    unfold nI lowL
    rw [List.map_map]
    rfl
  rw [eb] at ow
  exact q pT _ (ow.new0 g0) ow.toSame_of (ow.get 0 rfl)
theorem ok__law_low (F : FnP K "_law_low" "_law_low" s__law_low f fd) (B : Bi mg)  : FnOk P w K mg base CX0 1 f fd ["_law_path", "_law_count"] (sp_lowrow K) := by
  refine F.ok sc__law_low (fun vs H Q E h => by walk_at "len") (fun cdv A outer s H vs Q E hr h => ?_)
  have nd := sc__law_low.nd
  obtain ⟨a, ps, c, rfl, sq, hl, hc, q⟩ := h
  refine ⟨_, PSs.nox (pss_one (ps_ret (pe_callTy cb_tupof rfl B.tuple (by decide +kernel) (pa_cons (pe_lc (own := [("_law_at", 4)]) (g := gName 4) (tt := tYes) (by rfl) nd (pi_range1 rfl B.range (pa_cons (pv 1) pa_nil)) (blkOk_by (own := [("_law_at", 4)]) (N := ["_law_path", "_law_count", "_law_place", "_law_letter", "_law_at"]) (sc := defScope s__law_low) (by decide +kernel)) (fun _ _ _ _ _ => pg_name (i := 4) nd rfl (Or.inr rfl)) (fun _ _ _ _ _ => pts_nil) (fun _ _ _ _ _ => (pe_callB (sum_K (K := K) rfl rfl) (by rfl) (by exact B.sum) (by decide +kernel) (pa_cons (pe_lc (own := [("_law_place", 2), ("_law_letter", 3)]) (g := gTup K 2 (gCons (gName 2) (gCons (gName 3) gNil))) (tt := tYes) (by rfl) nd (piE_K (K := K) rfl (by rfl) (by exact B.enumerate) (pa_cons (pv 0) pa_nil)) (blkOk_by (own := [("_law_place", 2), ("_law_letter", 3)]) (by kernel_rfl)) (fun _ _ _ _ _ => pg_tup rfl (pgs_cons (pg_name (i := 2) nd rfl (Or.inl rfl)) (pgs_cons (pg_name (i := 3) nd rfl (Or.inl rfl)) pgs_nil))) (fun _ _ _ _ _ => pts_nil) (fun _ _ _ _ _ => (pe_op op_shlW (pe_op op_and (pe_op op_shr (pv 3) (pv 4)) pe_int) (pv 2)))) pa_nil)))) pa_nil)))), ?_⟩
  walk_at "s0"
  have ow := Own.start H
  have ll : (nI ps).length = ps.length := by unfold nI; rw [List.length_map]
  walk_at "go"
  refine r_lc ?_
  walk_at "go"
  rw [Int.toNat_natCast]
  refine c_lcR (fun i => .int (lowV ps i : Nat)) ow (by omega) (fun _ => rfl) ?_ ?_
  · intro i D H1 R hi ow1 hR
    clear ow
    have ow := ow1
    rw [Int.zero_add]
    walk_at "go"
    refine r_lc ?_
    walk_at "go"
    refine ⟨a, _, rfl, ow.toSame.seq sq, ?_⟩
    refine c_lcG ps.length (by omega) (fun E j acc H' => acc = ((lowI ps i).take j).map V.int ∧ Own H H' [(E, .lst acc), (D, .lst ((List.range i).map fun i => .int (lowV ps i : Nat)))]) (fun E nE => ⟨rfl, ow.new nE⟩) ?_ ?_ ?_ ?_
    · rintro E j acc H2 ⟨rfl, ow2⟩ hj
      exact ite_go (ow2.toSame.seq sq) (by rw [ll]; exact hj)
    · rintro E acc H2 ⟨rfl, ow2⟩
      rw [← ll]
      exact ite_stop (ow2.toSame.seq sq)
    · rintro E j acc H2 x H3 R2 Z hj la ⟨rfl, ow2⟩ ⟨T, y, rfl, nT, rfl, hy⟩ hR2 hZ
      have hx := hy _ (ow2.toSame.seq sq)
      obtain ⟨p, hp⟩ : ∃ p, ps[j]? = some p := ⟨_, List.getElem?_eq_getElem hj⟩
      rw [show (nI ps)[j]? = some (.int (p : Nat)) by unfold nI; rw [List.getElem?_map, hp]; rfl] at hx
      cases hx
      clear ow
      have ow := ow2.new (o := .tup [.int ((j : Nat) : Int), .int ((p : Nat) : Int)]) nT
      refine g_two (SqT.of (ow.get 0 rfl)) ⟨rfl, tt_yes ?_⟩
      replace ow := ow.drop
      rw [if_pos rfl]
      have b0 : 0 ≤ Builtin.bitAnd ((p : Int) / 2 ^ ((i : Nat) : Int).toNat) 1 := by rw [bitAnd_m1]; omega
      have b1 : Builtin.bitAnd ((p : Int) / 2 ^ ((i : Nat) : Int).toNat) 1 < 2 := by rw [bitAnd_m1]; omega
      walk_at "go"
      rw [kl_val]
      refine hR2 _ _ (ow.get 0 rfl) ⟨?_, ow.put 0 rfl⟩
      rw [lowI_snoc hp, List.map_append]
      rfl
    · rintro E acc H2 nE ⟨rfl, ow2⟩ la
      clear ow
      rw [← lowI_len (i := i), List.take_length] at ow2
      refine r_sum (SqL.of (ow2.get 0 rfl)) ?_
      rw [lowI_sum]
      exact hR _ ow2.drop
  intro D H1 nD ow1
  clear ow
  have ow := ow1
  walk_at "go"
  have eb : ((List.range c).map fun i => V.int (lowV ps i : Nat)) = nI (lowL ps c) := by
    unfold nI lowL
    rw [List.map_map]
    rfl
  rw [eb] at ow
  exact q pT _ (ow.new0 g0) ow.toSame_of (ow.get 0 rfl)
end

/-! the row of an index -/

def sp_nthlow (K : PySem.W.Frag) (CS I J : Addr) : Sp := fun vs H Q E => ∃ (p : Addr) (ns : List Str) (T : Tab) (n ix : Int), vs = [.ref p, .int n, .int ix] ∧ SolAt K CS H p ns T ∧ n ≤ 1000 ∧ ns.length ≤ 10 ∧
  (0 ≤ n → 0 ≤ ix → ix < (cntM T n.toNat : Nat) → ∀ r H', H r = none → Same H H' → H' r = some (.tup (nI (lowL (nthP T n.toNat 0 ix.toNat) ns.length))) → Q (.ref r) H') ∧
  (n < 0 → ∀ d H', H d = none → Same H H' → H' d = some (.xd [("value", .int n)]) → E (.ref I) (some d) H') ∧
  (0 ≤ n → ¬ (0 ≤ ix ∧ ix < (cntM T n.toNat : Nat)) → ∀ d H', H d = none → Same H H' → H' d = some (.xd [("value", .int ix)]) → E (.ref J) (some d) H')
theorem nthP_len {T : Tab} : ∀ (k i l : Nat), (nthP T k i l).length ≤ k
  | 0, i, l => Nat.le_refl _
  | k + 1, i, l => by
    show (match stepN (wv T k) (rowAt T i) 0 l with
      | some (c, f, l') => c :: nthP T k f l'
      | none => []).length ≤ k + 1
    split
    · rename_i c f l' _
      rw [List.length_cons]
      exact Nat.succ_le_succ (nthP_len k f l')
    · exact Nat.zero_le _
theorem step_none {ws : List Nat} {r : List (Option Nat)} {c l : Nat} {a : Nat × Nat × Nat} {j : Nat} (h : stepN ws (r.drop j) c l = some a) (e : r[j]? = some none) : stepN ws (r.drop (j + 1)) (c + 1) l = some a := by
  obtain ⟨hj, ej⟩ := List.getElem?_eq_some_iff.mp e
  rw [List.drop_eq_getElem_cons hj, ej] at h
  exact h
theorem step_some {ws : List Nat} {r : List (Option Nat)} {c l : Nat} {a : Nat × Nat × Nat} {j f : Nat} (h : stepN ws (r.drop j) c l = some a) (e : r[j]? = some (some f)) :
    (l < ws[f]?.getD 0 → a = (c, f, l)) ∧ (¬ l < ws[f]?.getD 0 → stepN ws (r.drop (j + 1)) (c + 1) (l - ws[f]?.getD 0) = some a) := by
  obtain ⟨hj, ej⟩ := List.getElem?_eq_some_iff.mp e
  rw [List.drop_eq_getElem_cons hj, ej] at h
  unfold stepN at h
  constructor
  · intro z
    rw [if_pos z] at h
    exact (Option.some.inj h).symm
  · intro z
    rw [if_neg z] at h
    exact h
section
variable {P : Program} {w : World} {K : PySem.W.Frag} {mg : Str → Option Value} {base : Heap} {CS aInvalidWidth aInvalidIndex f : Addr} {fd : FuncData}
theorem ok_nth_low (F : FnP K "nth_low" "nth_low" s_nth_low f fd) (B : Bi mg) (c_count_low : Fo P w K mg base (L2.CX P w) 4 "count_low" ["solutions", "width"] (sp_countlow K CS aInvalidWidth)) (x_InvalidIndex : Xc P w K mg base "InvalidIndex" aInvalidIndex) (c_ways_on : Fo P w K mg base CX0 1 "ways_on" ["rooms", "width"] (sp_wayson K)) (c_low_row : Fo P w K mg base CX0 1 "low_row" ["path", "count"] (sp_lowrow K)) (clS : Cls K CS) (nSr : NoAttr K CS "rooms") (nSn : NoAttr K CS "kept_names") : FnOk P w K mg base (L2.CX P w) 6 f fd ["solutions", "width", "index"] (sp_nthlow K CS aInvalidWidth aInvalidIndex) := by
  refine F.ok sc_nth_low (fun vs H Q E h => by walk_at "len") (fun cdv A outer s H vs Q E hr h => ?_)
  have nd := sc_nth_low.nd
  obtain ⟨p, ns, T, n, ix, rfl, so, hn, hc, q1, q2, q3⟩ := h
  obtain ⟨dx, t, r, ep, st, tt⟩ := so.at_
  refine ⟨_, pss_cons (ps_set (i := 3) nd rfl (Or.inl rfl) (pe_fx c_count_low hr (by decide) (fun σ => passAt (takes_of rfl rfl rfl rfl) σ) (pa_cons (pv 0) (pa_cons (pv 1) pa_nil))))
      (pss_cons (ps_if (pt_not (pt_chain op_le op_lt pe_int (pv 2) (pv 3))) (pss_one (ps_rx rfl (takes_of rfl rfl rfl rfl) x_InvalidIndex hr (by decide) (pa_cons (pv 2) pa_nil) (mo_cons mo_var mo_nil))) pss_nil)
      (pss_cons (ps_set (i := 4) nd rfl (Or.inl rfl) (pe_fo c_ways_on hr (by decide) (pa_cons (pe_fld (pv 0) rfl) (pa_cons (pv 1) pa_nil))))
      (pss_cons (ps_par3 (i := 5) (j := 6) (l := 7) rfl nd rfl rfl rfl (by decide) (by decide) (by decide) rfl rfl rfl (pa_cons (pe_lst pa_nil) (pa_cons pe_int (pa_cons (pv 2) pa_nil))) rfl)
      (pss_cons (ps_for (passes_of rfl) rfl (pi_range1 rfl B.range (pa_cons (pv 1) pa_nil)) (pg_name (i := 8) nd rfl (.inl rfl))
      (pss_one (ps_for (passes_of rfl) rfl (pi_enum rfl B.enumerate (pa_cons (pe_ix ix_list (pe_fld (pv 0) rfl) (pv 6) (fun _ _ => rfl)) pa_nil)) (pg_tup rfl (pgs_cons (pg_name (i := 9) nd rfl (.inl rfl)) (pgs_cons (pg_name (i := 10) nd rfl (.inl rfl)) pgs_nil)))
      (pss_cons (ps_set (i := 11) nd rfl (Or.inl rfl) (pe_ifExp (pt_cmpR op_notN (pv 10) pe_non (nomark _)) (pe_ix ix_list (pe_ix ix_list (pv 4) (pe_op op_sub (pe_op op_sub (pv 1) pe_int) (pv 8)) (fun _ _ => rfl)) (pv 10) (fun _ _ => rfl)) pe_int))
      (pss_cons (ps_if (pt_cmpR op_lt (pv 7) (pv 11) (nomark _)) (pss_cons (ps_expr (pe_bm PySem.F.plainAttrs_list PySem.F.slot_list_append PySem.F.type_list_append mt_append (pv 5) (pa_cons (pv 9) pa_nil)))
      (pss_cons (ps_set (i := 6) nd rfl (Or.inl rfl) (pv 10))
      (pss_one ps_break))) pss_nil)
      (pss_one (ps_set (i := 7) nd rfl (Or.inl rfl) (pe_op op_sub (pv 7) (pv 11)))))))))
      (pss_one (ps_ret (pe_fo c_low_row hr (by decide) (pa_cons (pv 5) (pa_cons (pe_callB cb_len rfl B.len (by decide +kernel) (pa_cons (pe_fld (pv 0) rfl) pa_nil)) pa_nil))))))))), ?_⟩
  walk_at "s0"
  have ow := Own.start H
  walk_at "go"
  refine ⟨p, ns, T, n, rfl, so, by omega, fun h0 H1 s1 => ?_, fun h1 d H1 nd s1 e => q2 h1 d H1 nd s1 e⟩
  replace ow := ow.same s1
  obtain ⟨k, rfl⟩ := Int.eq_ofNat_of_zero_le h0
  rw [Int.toNat_natCast] at q1 q3 ⊢
  by_cases g1 : 0 ≤ ix
  · by_cases g2 : ix < (cntM T k : Nat)
    · obtain ⟨l0, rfl⟩ := Int.eq_ofNat_of_zero_le g1
      rw [Int.toNat_natCast] at q1
      have c0 : T ≠ [] := fun z => by
        subst z
        have : cntM [] k = 0 := by unfold cntM; cases k <;> rfl
        omega
      have tl := List.length_pos_iff.mpr c0
      walk_at "go"
      refine ⟨r, T, k, rfl, tt.same ow.toSame_of, so.can.tin, so.len, so.wide, by omega, fun r2 F H3 s2 s3 nr tb => ?_⟩
      obtain ⟨us, sq, ra⟩ := tb
      obtain ⟨vs, sqT, raT⟩ := id tt
      have lus := ra.length
      rw [List.length_map, List.length_range] at lus
      have sFH : Same H F := ow.toSame_of.trans s2
      clear ow
      have ow : Own F H3 [] := (Own.start F).same s3
      have ep4 := sFH _ _ ep
      have sqTF := sFH.seq sqT
      walk_at "go"
      have nW : F pL = none := ow.new0 g0
      generalize pL = W at *
      have e00 : l0 < (wv T (k - 0))[0]?.getD 0 := by
        have : cntM T k = (wv T k)[0]?.getD 0 := rfl
        rw [Nat.sub_zero]
        omega
      refine for_range (fun j σ' H' => ∃ (ps : List Nat) (i l : Nat) (u8 u9 u10 u11 : Option V), σ' = [some (.ref p), some (.int (k : Nat)), some (.int (l0 : Nat)), some (.int (cntM T k : Nat)), some (.ref r2), some (.ref W), some (.int (i : Nat)), some (.int (l : Nat)), u8, u9, u10, u11] ∧ Own F H' [(W, .lst (nI ps))] ∧
        i < T.length ∧ l < (wv T (k - j))[i]?.getD 0 ∧ ps ++ nthP T (k - j) i l = nthP T k 0 l0 ∧ ps.length = j) ⟨[], 0, l0, _, _, _, _, rfl, ow, tl, e00, rfl, rfl⟩ ?_ ?_
      · clear ow
        rintro j σ' H4 hj ⟨ps, i, l, u8, u9, u10, u11, rfl, ow, hi, hl, e, lp⟩
        obtain ⟨rw1, hr⟩ : ∃ rw1, T[i]? = some rw1 := ⟨_, List.getElem?_eq_getElem hi⟩
        obtain ⟨d, hd⟩ : ∃ d, k - j = d + 1 := ⟨k - j - 1, by omega⟩
        have hd2 : k - (j + 1) = d := by omega
        rw [hd] at hl e
        obtain ⟨c1, f1, l1, e1, e2, e3, e4, e5⟩ := nth_step so.can.tin hr hl
        rw [e5] at e
        obtain ⟨v, hv, ar, rfl, srH⟩ := raT.at hr
        obtain ⟨v0, hv0, p0, rfl, sp⟩ := ra.at (i := d) (r := (wv T d).map some) (by rw [List.getElem?_map, List.getElem?_range (by omega)]; rfl)
        rw [← nI_rowN] at sp
        have ix1 : atI vs (i : Int) = some (.ref ar) := at_nat rfl hv
        have ix2 : atI us ((k : Int) - 1 - (j : Int)) = some (.ref p0) := by
          rw [show (k : Int) - 1 - (j : Int) = ((d : Nat) : Int) by omega]
          exact at_nat rfl hv0
        have hrT := List.mem_of_getElem? hr
        have lnp : (nI ps).length = j := by unfold nI; rw [List.length_map, lp]
        have sqT4 := ow.toSame_of.seq sqTF
        have sq4 := ow.toSame_of.seq sq
        have sp4 := ow.toSame_of.seq sp
        walk_at "go"
        refine ⟨ar, _, rfl, (sFH.trans ow.toSame_of).seq srH, ?_⟩
        refine for_enum (fun i2 σ' H' => ∃ (l2 : Nat) (u9 u10 u11 : Option V), σ' = [some (.ref p), some (.int (k : Nat)), some (.int (l0 : Nat)), some (.int (cntM T k : Nat)), some (.ref r2), some (.ref W), some (.int (i : Nat)), some (.int (l2 : Nat)), some (.int (j : Nat)), u9, u10, u11] ∧ Own F H' [(W, .lst (nI ps))] ∧
          stepN (wv T d) (rw1.drop i2) i2 l2 = some (c1, f1, l1)) ⟨l, u9, u10, u11, by simp, ow, e1⟩ (fun i2 σ' H' _ ⟨_, _, _, _, _, ow, _⟩ => (sFH.trans ow.toSame_of).seq srH) ?_ ?_
        · clear ow
          rintro i2 x σ' H5 tp hx ⟨l2, v9, v10, v11, rfl, ow, est⟩ np
          rw [List.getElem?_map] at hx
          obtain ⟨e0, he, rfl⟩ := Option.map_eq_some_iff.mp hx
          replace ow := ow.new (o := .tup [.int ((i2 : Nat) : Int), vO e0]) np
          cases e0 with
          | none =>
            have est2 := step_none est he
            simp only [vO] at ow ⊢
            walk_at "go"
            exact ⟨l2, some (.int (i2 : Nat)), some .non, some (.int 0), by simp, ow.drop, est2⟩
          | some f0 =>
            obtain ⟨t1, t2⟩ := step_some est he
            have hf0 : f0 < (wv T d).length := by rw [wv_len]; exact so.can.tin.lt rw1 hrT _ (List.mem_of_getElem? he) f0 rfl
            have hln : atI (nI (wv T d)) (f0 : Int) = some (.int ((wv T d)[f0] : Nat)) := nI_at (List.getElem?_eq_getElem hf0)
            rw [List.getElem?_eq_getElem hf0, Option.getD_some] at t1 t2
            generalize (wv T d)[f0] = X at *
            simp only [vO] at ow ⊢
            by_cases z : l2 < X
            · obtain ⟨rfl, z2⟩ := Prod.mk.inj (t1 z)
              obtain ⟨rfl, rfl⟩ := Prod.mk.inj z2
              walk_at "go"
              refine ⟨ps ++ [c1], f1, l1, _, _, _, _, rfl, ?_, e4, ?_, ?_, ?_⟩
              · rw [nI_app]
                exact ow.drop
              · rw [hd2]; exact e3
              · rw [hd2, List.append_assoc]; exact e
              · rw [List.length_append, lp]; rfl
            · have est2 := t2 z
              have ec : ((l2 : Nat) : Int) - ((X : Nat) : Int) = ((l2 - X : Nat) : Int) := by omega
              walk_at "go"
              rw [ec]
              exact ⟨l2 - X, _, _, _, rfl, ow.drop, est2⟩
        · rintro σ' H5 ⟨l2, v9, v10, v11, rfl, ow, est⟩
          rw [List.length_map, List.drop_length] at est
          cases est
      · clear ow
        rintro σ' H4 ⟨ps, i, l, u8, u9, u10, u11, rfl, ow, hi, hl, e, lp⟩
        have ek : ((k : Nat) : Int).toNat = k := by omega
        rw [ek] at e lp
        rw [Nat.sub_self, show nthP T 0 i l = [] from rfl, List.append_nil] at e
        have st4 := sqT_same (sFH.trans ow.toSame_of) st
        walk_at "go"
        have sHr : Same H H4 := sFH.trans ow.toSame_of
        refine ⟨W, ps, ns.length, by rw [List.length_map]; rfl, SqL.of (ow.get 0 rfl), by omega, ‹ns.length ≤ 10›, fun r' H' nr' s' e' => ?_⟩
        rw [e] at e'
        have nHr : H r' = none := same_none sHr nr'
        exact q1 h0 g1 g2 r' H' nHr (sHr.trans s') e'
    · have g3 : ¬ (0 ≤ ix ∧ ix < (cntM T k : Nat)) := fun z => g2 z.2
      walk_at "go"
      exact q3 h0 g3 dX _ (ow.new0 g0) ow.toSame_of (ow.get 0 rfl)
  · have g3 : ¬ (0 ≤ ix ∧ ix < (cntM T k : Nat)) := fun z => g1 z.1
    walk_at "go"
    exact q3 h0 g3 dX _ (ow.new0 g0) ow.toSame_of (ow.get 0 rfl)
end

/-! all paths of a width -/

def oneP (p : List Nat) (c : Nat) : Option Nat → List (List Nat × Nat)
  | some f => [(p ++ [c], f)]
  | none => []
theorem ext_take {p : List Nat} {r : List (Option Nat)} {c : Nat} {e : Option Nat} (h : r[c]? = some e) : extR p (r.take (c + 1)) = extR p (r.take c) ++ oneP p c e := by
  have hc := (List.getElem?_eq_some_iff.mp h).1
  rw [List.take_succ, h]
  unfold extR
  rw [Option.toList_some, List.zipIdx_append, List.filterMap_append, List.length_take, Nat.min_eq_left (by omega), Nat.zero_add]
  cases e <;> rfl
theorem flat_take {α β : Type} {g : α → List β} {l : List α} {i : Nat} {x : α} (h : l[i]? = some x) : (l.take (i + 1)).flatMap g = (l.take i).flatMap g ++ g x := by
  rw [List.take_succ, h, List.flatMap_append]
  simp
theorem ext_len {p : List Nat} {r : List (Option Nat)} {d : Nat} : (extR p (r.take d)).length ≤ (extR p r).length := by
  have e : extR p r = extR p (r.take d) ++ ((r.drop d).zipIdx (0 + (r.take d).length)).filterMap fun x => x.1.map fun f => (p ++ [x.2], f) := by
    unfold extR
    rw [← List.filterMap_append, ← List.zipIdx_append, List.take_append_drop]
  rw [e, List.length_append]
  omega
theorem pre_len {T : Tab} {j i d : Nat} {x : List Nat × Nat} {r : List (Option Nat)} (h : (allN T j)[i]? = some x) (hr : rowAt T x.2 = r) :
    ((((allN T j).take i).flatMap fun x => extR x.1 (rowAt T x.2)) ++ extR x.1 (r.take d)).length ≤ (allN T (j + 1)).length := by
  have e : allN T (j + 1) = (((allN T j).take (i + 1)).flatMap fun x => extR x.1 (rowAt T x.2)) ++ (((allN T j).drop (i + 1)).flatMap fun x => extR x.1 (rowAt T x.2)) := by
    rw [← List.flatMap_append, List.take_append_drop]
    rfl
  rw [e, flat_take h, List.length_append, List.length_append, List.length_append, hr]
  have := @ext_len x.1 r d
  omega
def sp_lall (K : PySem.W.Frag) : Sp := fun vs H Q _ => ∃ (a : Addr) (T : Tab) (k c : Nat), vs = [.ref a, .int (k : Nat), .int (c : Nat)] ∧ TabAt K H a T ∧ TIn T ∧ T.length ≤ 1000 ∧ (∀ r ∈ T, r.length ≤ 1000) ∧ 0 < T.length ∧ k ≤ 1000 ∧ c ≤ 10 ∧
  (∀ j, j ≤ k → (allN T j).length ≤ 1000) ∧ ∀ r us F H', H r = none → Same H F → Same F H' → H' r = some (.lst us) → Each RT F us ((allN T k).map fun x => lowL x.1 c) → Q (.ref r) H'
theorem all_end {T : Tab} (tin : TIn T) (h0 : 0 < T.length) : ∀ (k : Nat), ∀ x ∈ allN T k, x.2 < T.length ∧ x.1.length = k
  | 0, x, hx => by
    obtain rfl := List.mem_singleton.mp hx
    exact ⟨h0, rfl⟩
  | k + 1, x, hx => by
    obtain ⟨y, hy, hx⟩ := List.mem_flatMap.mp hx
    obtain ⟨h1, h2⟩ := all_end tin h0 k y hy
    unfold extR at hx
    obtain ⟨z, hz, e⟩ := List.mem_filterMap.mp hx
    obtain ⟨f, ef, rfl⟩ := Option.map_eq_some_iff.mp e
    refine ⟨?_, by rw [List.length_append, h2]; rfl⟩
    have hm : z.1 ∈ rowAt T y.2 := by
      have := List.mem_map_of_mem (f := Prod.fst) hz
      rwa [List.zipIdx_map_fst] at this
    obtain ⟨r, hr⟩ : ∃ r, T[y.2]? = some r := ⟨_, List.getElem?_eq_getElem h1⟩
    rw [rowAt_is hr] at hm
    exact tin.lt r (List.mem_of_getElem? hr) _ hm f ef
section
variable {P : Program} {w : World} {K : PySem.W.Frag} {mg : Str → Option Value} {base : Heap} {f : Addr} {fd : FuncData}
theorem ok__law_all (F : FnP K "_law_all" "_law_all" s__law_all f fd) (B : Bi mg) (c__law_low : Fo P w K mg base CX0 1 "_law_low" ["_law_path", "_law_count"] (sp_lowrow K)) : FnOk P w K mg base CX0 3 f fd ["_law_trimmed", "_law_wide", "_law_count"] (sp_lall K) := by
  refine F.ok sc__law_all (fun vs H Q E h => by walk_at "len") (fun cdv A outer s H vs Q E hr h => ?_)
  have nd := sc__law_all.nd
  obtain ⟨a, T, k, c, rfl, ta, tin, hn, hm, h0, hk, hc, hl, q⟩ := h
  obtain ⟨vs, sq, ra⟩ := id ta
  refine ⟨_, PSs.nox (pss_cons (ps_set (i := 3) nd rfl (Or.inl rfl) (pe_lst (pa_cons (pe_tup (pa_cons (pe_lst pa_nil) (pa_cons pe_int pa_nil))) pa_nil)))
      (pss_cons (ps_for PassesOwn.never rfl (pi_range1 rfl B.range (pa_cons (pv 1) pa_nil)) (pg_name (i := 4) nd rfl (.inl rfl))
      (pss_cons (ps_set (i := 5) nd rfl (Or.inl rfl) (pe_lst pa_nil))
      (pss_cons (ps_for PassesOwn.never rfl (pi_list (pv 3)) (pg_tup rfl (pgs_cons (pg_name (i := 6) nd rfl (.inl rfl)) (pgs_cons (pg_name (i := 7) nd rfl (.inl rfl)) pgs_nil)))
      (pss_one (ps_for PassesOwn.never rfl (pi_enum rfl B.enumerate (pa_cons (pe_ix ix_list (pv 0) (pv 7) (fun _ _ => rfl)) pa_nil)) (pg_tup rfl (pgs_cons (pg_name (i := 8) nd rfl (.inl rfl)) (pgs_cons (pg_name (i := 9) nd rfl (.inl rfl)) pgs_nil)))
      (pss_one (ps_if (pt_cmpR op_notN (pv 9) pe_non (nomark _)) (pss_one (ps_expr (pe_bm PySem.F.plainAttrs_list PySem.F.slot_list_append PySem.F.type_list_append mt_append (pv 5) (pa_cons (pe_tup (pa_cons (pe_op op_cat (pv 6) (pe_lst (pa_cons (pv 8) pa_nil))) (pa_cons (pv 9) pa_nil))) pa_nil)))) pss_nil)))))
      (pss_one (ps_set (i := 3) nd rfl (Or.inl rfl) (pv 5))))))
      (pss_one (ps_ret (pe_lc (own := [("_law_path", 6), ("_law_at", 7)]) (g := gTup K 2 (gCons (gName 6) (gCons (gName 7) gNil))) (tt := tYes) (by rfl) nd (pi_list (pv 3)) (blkOk_by (own := [("_law_path", 6), ("_law_at", 7)]) (N := ["_law_trimmed", "_law_wide", "_law_count", "_law_paths", "_law_place", "_law_later", "_law_path", "_law_at", "_law_letter", "_law_follow"]) (sc := defScope s__law_all) (by decide +kernel)) (fun _ _ _ _ _ => pg_tup rfl (pgs_cons (pg_name (i := 6) nd rfl (Or.inl rfl)) (pgs_cons (pg_name (i := 7) nd rfl (Or.inl rfl)) pgs_nil))) (fun _ _ _ _ _ => pts_nil) (fun _ _ _ _ _ => (pe_fo c__law_low hr (by decide) (pa_cons (pv 6) (pa_cons (pv 2) pa_nil))))))))), ?_⟩
  walk_at "s0"
  have ow := Own.start H
  have lv := ra.length
  walk_at "go"
  have nW : H pL = none := ow.new0 (i := 0) rfl
  obtain ⟨ow2, f2⟩ := ow.frzAt 2 rfl
  obtain ⟨ow3, f3⟩ := ow2.frzAt 1 rfl
  have es0 : Each RP _ [V.ref pT] (allN T 0) := .cons ⟨pT, _, rfl, upd_same, f3 _ _ upd_same⟩ .nil
  have sF0 := f2.trans f3
  clear f2 f3
  clear ow ow2
  generalize pL = W0 at *
  refine for_range (fun j σ' H' => ∃ (F : Hp) (W : Addr) (us : List V) (u4 u5 u6 u7 u8 u9 : Option V), σ' = [some (.ref a), some (.int (k : Nat)), some (.int (c : Nat)), some (.ref W), u4, u5, u6, u7, u8, u9] ∧ H W = none ∧ Same H F ∧ Own F H' [(W, .lst us)] ∧ Each RP F us (allN T j))
    ⟨_, W0, _, _, _, _, _, _, _, rfl, nW, sF0, ow3, es0⟩ ?_ ?_
  · clear ow3 es0 sF0 nW
    rintro j σ' H2 hj ⟨F, W, us, u4, u5, u6, u7, u8, u9, rfl, nW, sF, ow, es⟩
    have lus := es.length
    have hj2 : j < k := by omega
    have lj := hl j (by omega)
    have lj1 := hl (j + 1) (by omega)
    walk_at "go"
    have nL : F pL = none := ow.new0 (i := 0) rfl
    have nLH : H pL = none := same_none sF nL
    obtain ⟨ow2, f2⟩ := ow.frzAt 1 rfl
    generalize pL = L at *
    have eW : upd F W (.lst us) W = some (.lst us) := upd_same
    have es2 : Each RP (upd F W (.lst us)) us (allN T j) := es.same (RP.same f2)
    have sF2 := sF.trans f2
    clear ow es f2
    generalize upd F W (.lst us) = F2 at *
    refine for_list (xs := us) (fun i σ' H' => ∃ (F3 : Hp) (us3 : List V) (u6 u7 u8 u9 : Option V), σ' = [some (.ref a), some (.int (k : Nat)), some (.int (c : Nat)), some (.ref W), some (.int (j : Nat)), some (.ref L), u6, u7, u8, u9] ∧ Same F2 F3 ∧ Own F3 H' [(L, .lst us3)] ∧
      Each RP F3 us3 (((allN T j).take i).flatMap fun x => extR x.1 (rowAt T x.2))) ⟨F2, [], u6, u7, u8, u9, by simp, fun _ _ e => e, ow2, .nil⟩ (fun i σ' H' _ ⟨_, _, _, _, _, _, _, s, ow, _⟩ => SqL.of (ow.toSame_of _ _ (s _ _ eW))) ?_ ?_
    · clear ow2
      rintro i v σ' H3 hv ⟨F3, us3, u6, u7, u8, u9, rfl, s3, ow, es3⟩
      have hi : i < us.length := (List.getElem?_eq_some_iff.mp hv).1
      obtain ⟨x, hx⟩ : ∃ x, (allN T j)[i]? = some x := ⟨_, List.getElem?_eq_getElem (by omega)⟩
      obtain ⟨v', hv', t, l, rfl, ht, hl'⟩ := es2.at hx
      rw [hv] at hv'
      cases hv'
      obtain ⟨hx2, hx1⟩ := all_end tin h0 j x (List.mem_of_getElem? hx)
      obtain ⟨px, ex⟩ := x
      obtain ⟨r, hr⟩ : ∃ r, T[ex]? = some r := ⟨_, List.getElem?_eq_getElem hx2⟩
      have hrT := List.mem_of_getElem? hr
      obtain ⟨_, hvr, ar, rfl, srH⟩ := ra.at hr
      have ix1 : atI vs (ex : Int) = some (.ref ar) := at_nat rfl hvr
      have tH : SqT K H3 t [.ref l, .int (ex : Nat)] := SqT.of (ow.toSame_of _ _ (s3 _ _ ht))
      have lH : H3 l = some (.lst (nI px)) := ow.toSame_of _ _ (s3 _ _ hl')
      have s3H : Same H F3 := sF2.trans s3
      have sqH : SqL K H3 a vs := (s3H.trans ow.toSame_of).seq sq
      have le3 := es3.length
      have lx : px.length = j := hx1
      walk_at "go"
      refine ⟨ar, _, rfl, (s3H.trans ow.toSame_of).seq srH, ?_⟩
      refine for_enum (fun d σ' H' => ∃ (F4 : Hp) (us4 : List V) (u8 u9 : Option V), σ' = [some (.ref a), some (.int (k : Nat)), some (.int (c : Nat)), some (.ref W), some (.int (j : Nat)), some (.ref L), some (.ref l), some (.int (ex : Nat)), u8, u9] ∧ Same F3 F4 ∧ Own F4 H' [(L, .lst us4)] ∧
        Each RP F4 us4 ((((allN T j).take i).flatMap fun x => extR x.1 (rowAt T x.2)) ++ extR px (r.take d))) ⟨F3, us3, u8, u9, by simp, fun _ _ e => e, ow, by simpa [extR] using es3⟩ (fun d σ' H' _ ⟨_, _, _, _, _, s4, ow, _⟩ => ((s3H.trans s4).trans ow.toSame_of).seq srH) ?_ ?_
      · rintro d y σ' H5 tp hy ⟨F4, us4, u8, u9, rfl, s4, ow4, es4⟩ np
        rw [List.getElem?_map] at hy
        obtain ⟨e0, he, rfl⟩ := Option.map_eq_some_iff.mp hy
        have len4 : us4.length ≤ 1000 := by
          rw [es4.length]
          exact Nat.le_trans (pre_len hx (rowAt_is hr)) lj1
        have lI : (nI px).length = j := by unfold nI; rw [List.length_map, lx]
        clear ow
        have ow := ow4.new (o := .tup [.int ((d : Nat) : Int), vO e0]) np
        have l4 : F4 l = some (.lst (nI px)) := s4 _ _ (s3 _ _ hl')
        cases e0 with
        | none =>
          simp only [vO] at ow ⊢
          walk_at "go"
          exact ⟨F4, us4, some (.int (d : Nat)), some .non, by simp, s4, ow.drop, by rw [ext_take he]; simpa [oneP] using es4⟩
        | some f0 =>
          simp only [vO] at ow ⊢
          walk_at "go"
          refine ⟨l, pL, nI px, [.int ((d : Nat) : Int)], rfl, rfl, ow.gets l4, ow.get 0 rfl, ?_, fun pC nC => ?_⟩
          · rw [lI, List.length_singleton]
            exact Nat.le_trans (show j + 1 ≤ 1001 by omega) (by decide)
          replace ow := ow.new (o := .lst (nI px ++ [.int ((d : Nat) : Int)])) nC
          walk_at "go"
          obtain ⟨o2, f2⟩ := ow.frzAt 1 rfl
          obtain ⟨o3, f3⟩ := o2.frz
          refine ⟨_, _, some (.int (d : Nat)), some (.int (f0 : Nat)), rfl, s4.trans (f2.trans f3), o3.drop.drop, ?_⟩
          rw [ext_take he, ← List.append_assoc]
          have ea : nI px ++ [V.int (d : Nat)] = nI (px ++ [d]) := by rw [nI_app]; rfl
          exact (es4.same (RP.same (f2.trans f3))).snoc ⟨pT, pC, rfl, upd_same, by rw [← ea]; exact f3 _ _ upd_same⟩
      · rintro σ' H5 ⟨F4, us4, u8, u9, rfl, s4, ow4, es4⟩
        refine ⟨F4, us4, some (.ref l), some (.int (ex : Nat)), u8, u9, rfl, s3.trans s4, ow4, ?_⟩
        rw [List.length_map, List.take_length] at es4
        rw [flat_take hx, rowAt_is hr]
        exact es4
    · rintro σ' H3 ⟨F3, us3, u6, u7, u8, u9, rfl, s3, ow, es3⟩
      rw [lus, List.take_length] at es3
      walk_at "go"
      exact ⟨F3, L, us3, _, _, _, _, _, _, rfl, nLH, sF2.trans s3, ow, es3⟩
  · clear ow3 es0 sF0 nW
    rintro σ' H2 ⟨F, W, us, u4, u5, u6, u7, u8, u9, rfl, nW, sF, ow, es⟩
    have ek : ((k : Nat) : Int).toNat = k := by omega
    rw [ek] at es
    obtain ⟨ow2, f2⟩ := ow.frzAt 0 rfl
    have eW : upd F W (.lst us) W = some (.lst us) := upd_same
    have es2 : Each RP (upd F W (.lst us)) us (allN T k) := es.same (RP.same f2)
    have sF2 := sF.trans f2
    clear ow es f2
    generalize upd F W (.lst us) = F2 at *
    have ow : Own F2 H2 [] := ow2
    clear ow2
    have lus := es2.length
    have lk := hl k (Nat.le_refl _)
    walk_at "go"
    refine r_lc ?_
    walk_at "go"
    refine c_ilS (SqL.of (ow.gets eW)) ?_
    refine c_lcG us.length (by omega) (fun D i acc H' => ∃ F3, Same F2 F3 ∧ Own F3 H' [(D, .lst acc)] ∧ Each RT F3 acc (((allN T k).take i).map fun x => lowL x.1 c)) (fun D nD => ⟨F2, fun _ _ e => e, ow.new nD, .nil⟩) ?_ ?_ ?_ ?_
    · rintro D i acc H1 ⟨F3, s3, ow, es3⟩ hi
      exact itl_go (SqL.of (ow.gets (s3 _ _ eW))) hi
    · rintro D acc H1 ⟨F3, s3, ow, es3⟩
      exact itl_stop (SqL.of (ow.gets (s3 _ _ eW)))
    · rintro D i acc H1 v H3 R Z hi la ⟨F3, s3, ow3, es3⟩ ⟨rfl, hy⟩ hR hZ
      have hv := hy _ (SqL.of (ow3.gets (s3 _ _ eW)))
      obtain ⟨x, hx⟩ : ∃ x, (allN T k)[i]? = some x := ⟨_, List.getElem?_eq_getElem (by omega)⟩
      obtain ⟨v', hv', t, l, rfl, ht, hl'⟩ := es2.at hx
      rw [hv] at hv'
      cases hv'
      have lx := (all_end tin h0 k x (List.mem_of_getElem? hx)).2
      clear ow
      have ow := ow3
      clear ow3
      refine g_two (SqT.of (ow.gets (s3 _ _ ht))) ⟨rfl, tt_yes ?_⟩
      rw [if_pos rfl]
      walk_at "go"
      refine ⟨l, x.1, c, rfl, SqL.of (ow.gets (s3 _ _ hl')), by omega, hc, fun r' H4 nr s4 e4 => ?_⟩
      have ow4 := ow.newS nr s4 e4
      obtain ⟨ow5, f5⟩ := (ow4.put (o := .lst (acc ++ [.ref r'])) 1 rfl).frz
      refine hR _ _ (ow4.get 1 rfl) ⟨_, s3.trans f5, ow5, ?_⟩
      rw [List.take_succ, hx, List.map_append]
      exact (es3.same (RT.same f5)).snoc ⟨r', rfl, upd_same⟩
    · rintro D acc H1 nD ⟨F3, s3, ow3, es3⟩ la
      rw [lus, List.take_length] at es3
      obtain ⟨ow4, f4⟩ := ow3.frz
      exact q D acc F3 H1 (same_none (sF2.trans ow.toSame_of) nD) (sF2.trans s3) ow3.toSame_of (ow3.get 0 rfl) es3
end

/-! the law's own row of an index -/

def sp_lnth (K : PySem.W.Frag) : Sp := fun vs H Q _ => ∃ (a : Addr) (T : Tab) (k l c : Nat), vs = [.ref a, .int (k : Nat), .int (l : Nat), .int (c : Nat)] ∧ TabAt K H a T ∧ TIn T ∧ T.length ≤ 1000 ∧ (∀ r ∈ T, r.length ≤ 1000) ∧ 0 < T.length ∧ k ≤ 1000 ∧ c ≤ 10 ∧ l < (wv T k)[0]?.getD 0 ∧
  ∀ r H', H r = none → Same H H' → H' r = some (.tup (nI (lowL (nthP T k 0 l) c))) → Q (.ref r) H'
section
variable {P : Program} {w : World} {K : PySem.W.Frag} {mg : Str → Option Value} {base : Heap} {f : Addr} {fd : FuncData}
theorem ok__law_nth (F : FnP K "_law_nth" "_law_nth" s__law_nth f fd) (B : Bi mg) (c__law_ways : Fo P w K mg base CX0 1 "_law_ways" ["_law_rooms_here", "_law_wide"] (sp_ways K)) (c__law_low : Fo P w K mg base CX0 1 "_law_low" ["_law_path", "_law_count"] (sp_lowrow K)) : FnOk P w K mg base CX0 3 f fd ["_law_trimmed", "_law_wide", "_law_rank", "_law_count"] (sp_lnth K) := by
  refine F.ok sc__law_nth (fun vs H Q E h => by walk_at "len") (fun cdv A outer s H vs Q E hr h => ?_)
  have nd := sc__law_nth.nd
  obtain ⟨a, T, k, l0, c, rfl, ta, tin, hn, hm, tl, hk, hc, hl0, q⟩ := h
  obtain ⟨vs, sq, ra⟩ := id ta
  refine ⟨_, PSs.nox (pss_cons (ps_par (i := 4) (j := 5) rfl nd rfl rfl (by decide) rfl rfl (pa_cons (pe_lst pa_nil) (pa_cons pe_int pa_nil)) rfl)
      (pss_cons (ps_set (i := 6) nd rfl (Or.inl rfl) (pe_lst (pa_cons (pe_fo c__law_ways hr (by decide) (pa_cons (pv 0) (pa_cons pe_int pa_nil))) pa_nil)))
      (pss_cons (ps_for PassesOwn.never rfl (pi_range1 rfl B.range (pa_cons (pv 1) pa_nil)) (pg_name (i := 7) nd rfl (.inl rfl))
      (pss_cons (ps_set (i := 8) nd rfl (Or.inr rfl) (pe_ix ix_list (pv 6) (pe_un un_neg pe_int) (fun _ _ => rfl)))
      (pss_one (ps_expr (pe_bm PySem.F.plainAttrs_list PySem.F.slot_list_append PySem.F.type_list_append mt_append (pv 6) (pa_cons (pe_lc (own := [("_law_room", 10)]) (g := gName 10) (tt := tYes) (by rfl) nd (pi_list (pv 0)) (blkOk_by (own := [("_law_room", 10)]) (N := ["_law_trimmed", "_law_wide", "_law_rank", "_law_count", "_law_path", "_law_at", "_law_steps", "_law_place", "_law_ahead", "_law_follow", "_law_room", "_law_after_here", "_law_found", "_law_letter"]) (sc := defScope s__law_nth) (by decide +kernel)) (fun _ _ _ _ _ => pg_name (i := 10) nd rfl (Or.inl rfl)) (fun _ _ _ _ _ => pts_nil) (fun _ _ _ _ _ => (pe_callB (sum_K (K := K) rfl rfl) (by rfl) (by exact B.sum) (by decide +kernel) (pa_cons (pe_lc (own := [("_law_follow", 9)]) (g := gName 9) (by rfl) nd (piL_K (K := K) rfl (pv 10)) (blkOk_by (own := [("_law_follow", 9)]) (by kernel_rfl)) (fun _ _ _ _ _ => pg_name (i := 9) nd rfl (Or.inl rfl)) (fun _ _ _ _ _ => (pts_one (pt_cmpR op_notN (pv 9) pe_non (nomark _)))) (fun _ _ _ _ _ => (pe_ix (ixL_K (K := K) rfl) (pv 8) (pv 9) (fun _ _ => rfl)))) pa_nil)))) pa_nil))))))
      (pss_cons (ps_for PassesOwn.never rfl (pi_range1 rfl B.range (pa_cons (pv 1) pa_nil)) (pg_name (i := 7) nd rfl (.inl rfl))
      (pss_cons (ps_par (i := 11) (j := 12) rfl nd rfl rfl (by decide) rfl rfl (pa_cons (pe_ix ix_list (pv 6) (pe_op op_sub (pe_op op_sub (pv 1) pe_int) (pv 7)) (fun _ _ => rfl)) (pa_cons pe_non pa_nil)) rfl)
      (pss_cons (ps_for PassesOwn.never rfl (pi_enum rfl B.enumerate (pa_cons (pe_ix ix_list (pv 0) (pv 5) (fun _ _ => rfl)) pa_nil)) (pg_tup rfl (pgs_cons (pg_name (i := 13) nd rfl (.inl rfl)) (pgs_cons (pg_name (i := 9) nd rfl (.inl rfl)) pgs_nil)))
      (pss_one (ps_if (PW.pt (pw_and (pt_cmpR op_notN (pv 9) pe_non (nomark _)) (pw_and1 (pt_cmpR op_isN (pv 12) pe_non (nomark _))))) (pss_one (ps_if (pt_cmpR op_lt (pv 2) (pe_ix ix_list (pv 11) (pv 9) (fun _ _ => rfl)) (nomark _)) (pss_one (ps_set (i := 12) nd rfl (Or.inl rfl) (pe_tup (pa_cons (pv 13) (pa_cons (pv 9) pa_nil))))) (pss_one (ps_set (i := 2) nd rfl (Or.inl rfl) (pe_op op_sub (pv 2) (pe_ix ix_list (pv 11) (pv 9) (fun _ _ => rfl))))))) pss_nil)))
      (pss_cons (ps_expr (pe_bm PySem.F.plainAttrs_list PySem.F.slot_list_append PySem.F.type_list_append mt_append (pv 4) (pa_cons (pe_ix ix_tup (pv 12) pe_int (fun _ _ => rfl)) pa_nil)))
      (pss_one (ps_set (i := 5) nd rfl (Or.inl rfl) (pe_ix ix_tup (pv 12) pe_int (fun _ _ => rfl))))))))
      (pss_one (ps_ret (pe_fo c__law_low hr (by decide) (pa_cons (pv 4) (pa_cons (pv 3) pa_nil))))))))), ?_⟩
  walk_at "s0"
  have ow := Own.start H
  have lv := ra.length
  walk_at "go"
  have nD : H pL = none := ow.new0 (i := 0) rfl
  generalize pL = D at *
  refine ⟨a, T, 0, rfl, ta.same ow.toSame_of, tin, hn, hm, by omega, fun r0 H1 s1 n1 e1 => ?_⟩
  replace ow := ow.newS n1 s1 e1
  walk_at "go"
  obtain ⟨ow2, f2⟩ := ow.frzAt 1 rfl
  have nW := ow2.new0 (i := 0) rfl
  generalize pL = W at *
  have es0 : RoomsAt K (upd H r0 (.lst (nI (wv T 0)))) [V.ref r0] ((List.range (0 + 1)).map fun i => (wv T i).map some) := .cons ⟨r0, rfl, by rw [← nI_rowN]; exact SqL.of upd_same⟩ .nil
  clear ow
  refine for_range (fun j σ' H' => ∃ (F : Hp) (us : List V) (u7 u8 u9 u10 u11 u12 u13 : Option V), σ' = [some (.ref a), some (.int (k : Nat)), some (.int (l0 : Nat)), some (.int (c : Nat)), some (.ref D), some (.int 0), some (.ref W), u7, u8, u9, u10, u11, u12, u13] ∧ Same H F ∧ Own F H' [(W, .lst us), (D, .lst [])] ∧
    RoomsAt K F us ((List.range (j + 1)).map fun i => (wv T i).map some)) ⟨_, [.ref r0], _, _, _, _, _, _, _, rfl, f2, ow2, es0⟩ ?_ ?_
  · clear ow2 f2 es0 nW
    rintro j σ' H2 hj ⟨F, us, u7, u8, u9, u10, u11, u12, u13, rfl, sF, ow, rs⟩
    have lus := rs.length
    rw [List.length_map, List.length_range] at lus
    obtain ⟨v0, hv0, p, rfl, sp⟩ := rs.at (i := j) (r := (wv T j).map some) (by rw [List.getElem?_map, List.getElem?_range (by omega)]; rfl)
    rw [← nI_rowN] at sp
    have hat : atI us (-1) = some (.ref p) := at_last lus hv0
    walk_at "go"
    refine r_lc ?_
    walk_at "go"
    refine c_ilS ((sF.trans ow.toSame).seq sq) ?_
    refine c_lcJ vs.length (by omega) (fun _ => rfl) (fun D' i acc H' => Own F H' ((D', .lst acc) :: [(W, .lst us), (D, .lst [])]) ∧ acc = nI ((T.take i).map (rowW (wv T j)))) (fun D' nD' => ⟨ow.new nD', rfl⟩) ?_ ?_ ?_ ?_
    · rintro D' i acc H3 ⟨ow, rfl⟩ hi
      exact itl_go ((sF.trans ow.toSame).seq sq) hi
    · rintro D' acc H3 ⟨ow, rfl⟩
      exact itl_stop ((sF.trans ow.toSame).seq sq)
    · rintro D' i acc H3 x H4 R hi la ⟨ow1, rfl⟩ ⟨rfl, hy⟩ hR
      clear ow
      have ow := ow1
      have hx := hy _ ((sF.trans ow.toSame).seq sq)
      obtain ⟨r, hr⟩ : ∃ r, T[i]? = some r := ⟨T[i], List.getElem?_eq_getElem (by omega)⟩
      have hrT := List.mem_of_getElem? hr
      obtain ⟨v, hv, hra⟩ := ra.at hr
      rw [hx] at hv
      cases hv
      obtain ⟨ar, rfl, srH⟩ := hra
      have hrl := hm r hrT
      have et : (T.take (i + 1)).map (rowW (wv T j)) = (T.take i).map (rowW (wv T j)) ++ [rowW (wv T j) r] := by rw [List.take_succ, hr]; simp
      rw [et, nI_app] at hR
      walk_at "go"
      refine r_lc ?_
      walk_at "go"
      refine c_ilS ((sF.trans ow.toSame).seq srH) ?_
      refine c_lcF (r.map vO).length (by rw [List.length_map]; omega) (fun _ => rfl) (fun E c acc2 H' => Own F H' ((E, .lst acc2) :: (D', .lst (nI ((T.take i).map (rowW (wv T j))))) :: [(W, .lst us), (D, .lst [])]) ∧ acc2 = nI (((r.take c).filterMap id).map fun n => (wv T j)[n]?.getD 0)) (fun E nE => ⟨ow.new nE, rfl⟩) ?_ ?_ ?_ ?_
      · rintro E c acc2 H5 ⟨ow, rfl⟩ hc
        exact itl_go ((sF.trans ow.toSame).seq srH) hc
      · rintro E acc2 H5 ⟨ow, rfl⟩
        exact itl_stop ((sF.trans ow.toSame).seq srH)
      · rintro E c acc2 H5 y H6 R' Z' hc la' ⟨ow2, rfl⟩ ⟨rfl, hy2⟩ hR' hZ'
        clear ow
        have ow := ow2
        have hx2 := hy2 _ ((sF.trans ow.toSame).seq srH)
        rw [List.getElem?_map] at hx2
        obtain ⟨e, he, rfl⟩ := Option.map_eq_some_iff.mp hx2
        have et2 : (r.take (c + 1)).filterMap id = (r.take c).filterMap id ++ [e].filterMap id := by rw [List.take_succ, he, List.filterMap_append]; rfl
        rw [et2, List.map_append, nI_app] at hR' hZ'
        cases e with
        | none =>
          simp only [vO]
          walk_at "go"
          exact hZ' _ ⟨ow, by simp [nI]⟩
        | some n =>
          have hn1 : n < (wv T j).length := by rw [wv_len]; exact tin.lt r hrT _ (List.mem_of_getElem? he) n rfl
          have hln : atI (nI (wv T j)) (n : Int) = some (.int ((wv T j)[n] : Nat)) := nI_at (List.getElem?_eq_getElem hn1)
          simp only [vO]
          walk_at "go"
          refine hR' _ _ (ow.get 0 rfl) ⟨ow.put 0 rfl, ?_⟩
          show _ = _ ++ [V.int (((wv T j)[n]?.getD 0 : Nat) : Int)]
          rw [List.getElem?_eq_getElem hn1]
          rfl
      · rintro E acc2 H5 nE ⟨ow2, rfl⟩ la'
        clear ow
        have ow := ow2
        rw [List.length_map, List.take_length] at ow
        walk_at "go"
        refine r_sumN (SqL.of (ow.get 0 rfl)) ?_
        rw [rowW_filter]
        exact hR _ _ (ow.get 1 rfl) ⟨(ow.put 1 rfl).drop, rfl⟩
    · rintro D' acc H3 nD' ⟨ow1, rfl⟩ la
      clear ow
      have ow := ow1
      rw [List.take_of_length_le (by omega)] at ow
      have nDF : F D' = none := (ow.own 0 D' _ rfl).2
      walk_at "go"
      obtain ⟨f1, f2⟩ := ow.frz
      refine ⟨_, us ++ [.ref D'], _, _, _, _, _, _, _, rfl, sF.trans f2, f1, ?_⟩
      rw [List.range_succ, List.map_append]
      refine RoomsAt.snoc ⟨D', rfl, ?_⟩ (rs.same f2)
      rw [← nI_rowN]
      exact SqL.of upd_same
  · clear ow2 f2 es0 nW
    rintro σ' H2 ⟨F, us, u7, u8, u9, u10, u11, u12, u13, rfl, sF, ow, rs⟩
    have ek : ((k : Nat) : Int).toNat = k := by omega
    rw [ek] at rs
    have lus := rs.length
    rw [List.length_map, List.length_range] at lus
    obtain ⟨ow2, f2⟩ := ow.frz
    have eW : upd F W (.lst us) W = some (.lst us) := upd_same
    have rs2 := rs.same f2
    have sF2 := sF.trans f2
    clear ow rs f2 sF
    generalize upd F W (.lst us) = F2 at *
    have ow : Own F2 H2 [(D, .lst (nI []))] := ow2
    clear ow2
    have e00 : l0 < (wv T (k - 0))[0]?.getD 0 := hl0
    walk_at "go"
    refine for_range (fun j σ' H' => ∃ (F : Hp) (ps : List Nat) (i l : Nat) (u7 u8 u9 u10 u11 u12 u13 : Option V), σ' = [some (.ref a), some (.int (k : Nat)), some (.int (l : Nat)), some (.int (c : Nat)), some (.ref D), some (.int (i : Nat)), some (.ref W), u7, u8, u9, u10, u11, u12, u13] ∧ Same F2 F ∧ Own F H' [(D, .lst (nI ps))] ∧
      i < T.length ∧ l < (wv T (k - j))[i]?.getD 0 ∧ ps ++ nthP T (k - j) i l = nthP T k 0 l0 ∧ ps.length = j) ⟨F2, [], 0, l0, _, _, _, _, _, _, _, rfl, fun _ _ e => e, ow, tl, e00, rfl, rfl⟩ ?_ ?_
    · clear ow
      rintro j σ' H4 hj ⟨F, ps, i, l, u7, u8, u9, u10, u11, u12, u13, rfl, sF, ow, hi, hl, e, lp⟩
      obtain ⟨rw1, hr⟩ : ∃ rw1, T[i]? = some rw1 := ⟨_, List.getElem?_eq_getElem hi⟩
      obtain ⟨d, hd⟩ : ∃ d, k - j = d + 1 := ⟨k - j - 1, by omega⟩
      have hd2 : k - (j + 1) = d := by omega
      rw [hd] at hl e
      obtain ⟨c1, f1, l1, e1, e2, e3, e4, e5⟩ := nth_step tin hr hl
      rw [e5] at e
      obtain ⟨v, hv, ar, rfl, srH⟩ := ra.at hr
      obtain ⟨v0, hv0, p0, rfl, sp⟩ := rs2.at (i := d) (r := (wv T d).map some) (by rw [List.getElem?_map, List.getElem?_range (by omega)]; rfl)
      rw [← nI_rowN] at sp
      have ix1 : atI vs (i : Int) = some (.ref ar) := at_nat rfl hv
      have ix2 : atI us ((k : Int) - 1 - (j : Int)) = some (.ref p0) := by
        rw [show (k : Int) - 1 - (j : Int) = ((d : Nat) : Int) by omega]
        exact at_nat rfl hv0
      have hrT := List.mem_of_getElem? hr
      have lnp : (nI ps).length = j := by unfold nI; rw [List.length_map, lp]
      have sHF : Same H F := sF2.trans sF
      have sq4 := (sHF.trans ow.toSame_of).seq sq
      have eW4 : F W = some (.lst us) := sF _ _ eW
      have sp4 := (sF.trans ow.toSame_of).seq sp
      have ix3 : atI us ((k : Int) - 1 - (0 + (j : Int))) = some (.ref p0) := by rw [Int.zero_add]; exact ix2
      have sqW4 : SqL K H4 W us := SqL.of (ow.toSame_of _ _ eW4)
      walk_at "go"
      refine ⟨ar, _, rfl, (sHF.trans ow.toSame_of).seq srH, ?_⟩
      refine for_enum (fun i2 σ' H' => ∃ (F4 : Hp) (l2 : Nat) (fv : V) (u9 u13 : Option V), σ' = [some (.ref a), some (.int (k : Nat)), some (.int (l2 : Nat)), some (.int (c : Nat)), some (.ref D), some (.int (i : Nat)), some (.ref W), some (.int (j : Nat)), u8, u9, u10, some (.ref p0), some fv, u13] ∧ Same F F4 ∧ Own F4 H' [(D, .lst (nI ps))] ∧
        ((fv = .non ∧ stepN (wv T d) (rw1.drop i2) i2 l2 = some (c1, f1, l1)) ∨ ∃ t, fv = .ref t ∧ F4 t = some (.tup [.int (c1 : Nat), .int (f1 : Nat)]) ∧ l2 = l1)) ⟨F, l, .non, u9, u13, by simp, fun _ _ e => e, ow, .inl ⟨rfl, e1⟩⟩
        (fun i2 σ' H' _ ⟨_, _, _, _, _, _, s4, ow, _⟩ => ((sHF.trans s4).trans ow.toSame_of).seq srH) ?_ ?_
      · clear ow sq4 sp4 sqW4
        rintro i2 x σ' H5 tp hx ⟨F4, l2, fv, v9, v13, rfl, s4, ow4, cs⟩ np
        rw [List.getElem?_map] at hx
        obtain ⟨e0, he, rfl⟩ := Option.map_eq_some_iff.mp hx
        have ow := ow4.new (o := .tup [.int ((i2 : Nat) : Int), vO e0]) np
        have sp5 := ((sF.trans s4).trans ow.toSame_of).seq sp
        rcases cs with ⟨rfl, est⟩ | ⟨t, rfl, ht, rfl⟩
        · cases e0 with
          | none =>
            have est2 := step_none est he
            simp only [vO] at ow ⊢
            walk_at "go"
            exact ⟨F4, l2, .non, some .non, some (.int (i2 : Nat)), by simp, s4, ow.drop, .inl ⟨rfl, est2⟩⟩
          | some f0 =>
            obtain ⟨t1, t2⟩ := step_some est he
            have hf0 : f0 < (wv T d).length := by rw [wv_len]; exact tin.lt rw1 hrT _ (List.mem_of_getElem? he) f0 rfl
            have hln : atI (nI (wv T d)) (f0 : Int) = some (.int ((wv T d)[f0] : Nat)) := nI_at (List.getElem?_eq_getElem hf0)
            rw [List.getElem?_eq_getElem hf0, Option.getD_some] at t1 t2
            generalize (wv T d)[f0] = X at *
            simp only [vO] at ow ⊢
            by_cases z : l2 < X
            · obtain ⟨rfl, z2⟩ := Prod.mk.inj (t1 z)
              obtain ⟨rfl, rfl⟩ := Prod.mk.inj z2
              walk_at "go"
              obtain ⟨o2, f2⟩ := ow.frz
              exact ⟨_, l1, .ref pT, some (.int (f1 : Nat)), some (.int (c1 : Nat)), by simp, s4.trans f2, o2.drop, .inr ⟨pT, rfl, upd_same, rfl⟩⟩
            · have est2 := t2 z
              have ec : ((l2 : Nat) : Int) - ((X : Nat) : Int) = ((l2 - X : Nat) : Int) := by omega
              walk_at "go"
              exact ⟨F4, l2 - X, .non, some (.int (f0 : Nat)), some (.int (i2 : Nat)), by simp [ec], s4, ow.drop, .inl ⟨rfl, est2⟩⟩
        · cases e0 with
          | none =>
            simp only [vO] at ow ⊢
            walk_at "go"
            exact ⟨F4, l2, .ref t, some .non, some (.int (i2 : Nat)), by simp, s4, ow.drop, .inr ⟨t, rfl, ht, rfl⟩⟩
          | some f0 =>
            simp only [vO] at ow ⊢
            walk_at "go"
            exact ⟨F4, l2, .ref t, some (.int (f0 : Nat)), some (.int (i2 : Nat)), by simp, s4, ow.drop, .inr ⟨t, rfl, ht, rfl⟩⟩
      · clear ow sq4 sp4 sqW4
        rintro σ' H5 ⟨F4, l2, fv, v9, v13, rfl, s4, ow, cs⟩
        rcases cs with ⟨rfl, est⟩ | ⟨t, rfl, ht, rfl⟩
        · rw [List.length_map, List.drop_length] at est
          cases est
        · have a0 : atI [V.int (c1 : Nat), V.int (f1 : Nat)] 0 = some (.int (c1 : Nat)) := at_nat (k := 0) rfl rfl
          have a1 : atI [V.int (c1 : Nat), V.int (f1 : Nat)] 1 = some (.int (f1 : Nat)) := at_nat (k := 1) rfl rfl
          have tH : SqT K H5 t [V.int (c1 : Nat), V.int (f1 : Nat)] := SqT.of (ow.gets ht)
          walk_at "go"
          have tH2 : SqT K _ t [V.int (c1 : Nat), V.int (f1 : Nat)] := SqT.of (ow.gets ht)
          walk_at "go"
          refine ⟨F4, ps ++ [c1], f1, l2, _, _, _, _, _, _, _, rfl, sF.trans s4, ?_, e4, ?_, ?_, ?_⟩
          · rw [nI_app]
            exact ow
          · rw [hd2]; exact e3
          · rw [hd2, List.append_assoc]; exact e
          · rw [List.length_append, lp]; rfl
    · clear ow
      rintro σ' H4 ⟨F, ps, i, l, u7, u8, u9, u10, u11, u12, u13, rfl, sF, ow, hi, hl, e, lp⟩
      rw [ek] at e lp
      rw [Nat.sub_self, show nthP T 0 i l = [] from rfl, List.append_nil] at e
      walk_at "go"
      refine ⟨D, ps, c, rfl, SqL.of (ow.get 0 rfl), by omega, hc, fun r' H' nr' s' e' => ?_⟩
      rw [e] at e'
      have sHr : Same H H4 := (sF2.trans sF).trans ow.toSame_of
      exact q r' H' (same_none sHr nr') (sHr.trans s') e'
end

/-! rows by their index: the plain law -/
section
variable {T M : Tab} {m : Nat} {L : List Bool}
theorem trim_live (h : trimT T L ≠ []) : L[0]?.getD false = true := by
  by_cases z : L[0]?.getD false = true
  · exact z
  · exact absurd (by unfold trimT; rw [if_neg z]) h
theorem nth_eq {k l : Nat} (hL : LiveL T L) (h : trimT T L ≠ []) (tin : TIn T) (hT : ∀ r ∈ T, r.length = m) (il : IsLeast m T M) : nthP (trimT T L) k 0 l = nthP M k 0 l := by
  have l0 := trim_live h
  have lv := (hL.get 0).mp l0
  have lm : Live M 0 := (eqv_live il.2).mp lv
  exact nth_eqv hL l0 tin hT il.1 k (live_lt lv) (live_lt lm) il.2
theorem all_len (tin : TIn T) (h0 : 0 < T.length) (k : Nat) : (allN T k).length = (wv T k)[0]?.getD 0 := by
  rw [all_front]
  exact front_len tin k 0 h0
theorem cnt_pow {k : Nat} (h : ∀ r ∈ M, r.length = m) : cntM M k ≤ m ^ k := by
  unfold cntM
  cases z : (wv M k)[0]? with
  | none => exact Nat.zero_le _
  | some x => exact wv_le h k x (List.mem_of_getElem? z)
/-- all rows by their indexes -/
theorem rows_eq {k c : Nat} (hL : LiveL T L) (h : trimT T L ≠ []) (tin : TIn T) (tinR : TIn (trimT T L)) (hT : ∀ r ∈ T, r.length = m) (il : IsLeast m T M) :
    ((allN (trimT T L) k).map fun x => lowL x.1 c) = (List.range (cntM M k)).map fun l => lowL (nthP M k 0 l) c := by
  have a := all_nth tinR (List.length_pos_iff.mpr h) k
  rw [cnt_eq hL tin hT il] at a
  have b : ((allN (trimT T L) k).map fun x => lowL x.1 c) = ((allN (trimT T L) k).map Prod.fst).map fun p => lowL p c := by rw [List.map_map]; rfl
  rw [b, a, List.map_map]
  refine List.map_congr_left fun l _ => ?_
  show lowL (nthP (trimT T L) k 0 l) c = _
  rw [nth_eq hL h tin hT il]
theorem lowL_len {ps : List Nat} {c : Nat} : (lowL ps c).length = c := by unfold lowL; rw [List.length_map, List.length_range]
theorem lowL_lt {ps : List Nat} {c k : Nat} (h : ps.length ≤ k) : ∀ n ∈ lowL ps c, n < 2 ^ k := fun n hn => by
  obtain ⟨i, _, rfl⟩ := List.mem_map.mp hn
  exact Nat.lt_of_lt_of_le lowV_lt (Nat.pow_le_pow_right (by decide) h)
theorem mem_le {x : Nat} : ∀ {l : List Nat}, x ∈ l → x ≤ l.sum
  | y :: l, h => by
    rw [List.sum_cons]
    rcases List.mem_cons.mp h with e | e
    · omega
    · have := mem_le e
      omega
theorem wv_pos (can : Canon m M) : ∀ k i, i < M.length → 1 ≤ (wv M k)[i]?.getD 0
  | 0, i, hi => by
    show 1 ≤ ((List.replicate M.length 1)[i]?).getD 0
    rw [List.getElem?_replicate, if_pos hi]
    exact Nat.le_refl _
  | k + 1, i, hi => by
    obtain ⟨r, hr⟩ : ∃ r, M[i]? = some r := ⟨_, List.getElem?_eq_getElem hi⟩
    obtain ⟨α, s, s0, hs⟩ := can.live i hi
    have f0 := hs 0
    rw [s0] at f0
    have lt := fol_in can.tin f0
    have p := wv_pos can k (s 1) lt
    rw [fol_row hr] at f0
    cases z : r[α 0]? with
    | none =>
      rw [z] at f0
      cases f0
    | some e =>
      rw [z] at f0
      obtain rfl : e = some (s 1) := f0
      rw [wv_at hr]
      unfold rowW
      exact Nat.le_trans p (mem_le (List.mem_map_of_mem (f := oN (wv M k)) (List.mem_of_getElem? z)))
theorem cnt_pos {T : Tab} {k : Nat} (hL : LiveL T L) (h : trimT T L ≠ []) (tin : TIn T) (il : IsLeast m T M) : 1 ≤ cntM M k := by
  have l0 := trim_live h
  have lm : Live M 0 := (eqv_live il.2).mp ((hL.get 0).mp l0)
  exact wv_pos il.1 k 0 (live_lt lm)
/-- the width of the whole listing -/
theorem wide_at (n : Nat) (h : n < 3) : ∃ W : Nat, atI [V.int 9, V.int 4, V.int 3] (1 + (n : Int) - 1) = some (.int (W : Nat)) ∧ 1 ≤ W ∧ W ≤ 9 ∧ ∀ j, j < W → (2 ^ (n + 1)) ^ j ≤ 256 := by
  have e : 1 + (n : Int) - 1 = ((n : Nat) : Int) := by omega
  rw [e]
  match n, h with
  | 0, _ => exact ⟨9, at_nat rfl rfl, by decide, by decide, by decide⟩
  | 1, _ => exact ⟨4, at_nat rfl rfl, by decide, by decide, by decide⟩
  | 2, _ => exact ⟨3, at_nat rfl rfl, by decide, by decide, by decide⟩
end

/-! low rows by their index: one turn -/

def sp_pright : Sp := fun vs H Q _ => ∃ (a : Addr) (x y z : Int), vs = [.ref a] ∧ H a = some (wl x y z) ∧ WOk y z ∧ z + 4000 ≤ 1000000 ∧ ∀ x' z' H', z ≤ z' → z' ≤ z + 4000 → Mut a (wl x' y z') H H' → Q (.bl true) H'
theorem trim_tinR {T : Tab} {L : List Bool} (h : TIn T) : TIn (trimT T L) := by
  unfold trimT
  split
  · refine ⟨fun r hr e he n hn => ?_⟩
    rw [List.length_map]
    obtain ⟨r', hr', rfl⟩ := List.mem_map.mp hr
    obtain ⟨e', he', rfl⟩ := List.mem_map.mp he
    unfold trimE at hn
    split at hn
    · exact h.lt r' hr' e' he' n hn
    · cases hn
  · exact ⟨fun r hr => absurd hr List.not_mem_nil⟩
theorem trim_lenR (T : Tab) (L : List Bool) : (trimT T L).length ≤ T.length := by
  unfold trimT
  split
  · rw [List.length_map]; exact Nat.le_refl _
  · exact Nat.zero_le _
theorem trim_wideR {T : Tab} {L : List Bool} {m : Nat} (h : ∀ r ∈ T, r.length ≤ m) : ∀ r ∈ trimT T L, r.length ≤ m := fun r hr => by
  unfold trimT at hr
  split at hr
  · obtain ⟨r', hr', rfl⟩ := List.mem_map.mp hr
    rw [List.length_map]
    exact h r' hr'
  · exact absurd hr List.not_mem_nil
theorem headR (ws : List Nat) : atI (nI ws ++ [V.int 0]) 0 = some (.int ((ws[0]?.getD 0 : Nat) : Int)) := by
  cases ws with
  | nil => exact at_nat (k := 0) rfl rfl
  | cons w ws => exact at_nat (k := 0) rfl rfl
section
variable {P : Program} {w : World} {K : PySem.W.Frag} {mg : Str → Option Value} {base : Heap} {CS C aInvalidWord aInvalidWidth aInvalidIndex aInvalidNames aInvalidTable aUnlikeNames aUnknownName f : Addr} {fd : FuncData}
theorem ok__law_right (F : FnP K "_law_right" "_law_right" s__law_right f fd) (B : Bi mg) (c__law_dip : Fo P w K mg base CX0 1 "_law_dip" ["_law_well_here", "_law_span"] (sp_draw)) (c__law_letters : Fo P w K mg base CX0 2 "_law_letters" ["_law_well_here", "_law_count"] (sp_lnames)) (c__law_rooms : Fo P w K mg base CX0 3 "_law_rooms" ["_law_well_here", "_law_letters_here", "_law_most"] (sp_lrooms K)) (c__law_trim : Fo P w K mg base CX0 1 "_law_trim" ["_law_rooms_here"] (sp_trim K)) (c__law_made : Fo P w K mg base CX0 12 "_law_made" ["_law_names_here", "_law_rooms_here"] (sp_made K CS)) (c__law_stays : FoG P w K mg base CX0 12 "_law_stays" ["_law_made_here", "_law_names_here", "_law_rooms_here"] (sp_stays K CS)) (c__law_all : Fo P w K mg base CX0 3 "_law_all" ["_law_trimmed", "_law_wide", "_law_count"] (sp_lall K)) (c_nth_low : Fo P w K mg base (L2.CX P w) 6 "nth_low" ["solutions", "width", "index"] (sp_nthlow K CS aInvalidWidth aInvalidIndex)) (c__law_ways : Fo P w K mg base CX0 1 "_law_ways" ["_law_rooms_here", "_law_wide"] (sp_ways K)) (c__law_nth : Fo P w K mg base CX0 3 "_law_nth" ["_law_trimmed", "_law_wide", "_law_rank", "_law_count"] (sp_lnth K)) (k_nth_low : FoK P w K mg base (L2.CX P w) 6 "nth_low" ["solutions", "width", "index"] (sp_nthlow K CS aInvalidWidth aInvalidIndex) ["index", "width", "solutions"] gKB) : FnG P w K mg base CX0 20 f fd ["_law_well_here"] (sp_pright) := by
  refine FunD_okG F sc__law_right (fun vs H Q E h => by walk_at "len") (fun cdv A outer s H vs Q E gd hr h => ?_)
  have nd := sc__law_right.nd
  obtain ⟨a, x, y, z, rfl, ha, wk, hz, q⟩ := h
  have z0' := wk.z0
  refine ⟨_, PSs.nox (pss_cons (ps_set (i := 1) nd rfl (Or.inl rfl) (pe_op op_add pe_int (pe_fo c__law_dip hr (by decide) (pa_cons (pv 0) (pa_cons pe_int pa_nil)))))
      (pss_cons (ps_set (i := 2) nd rfl (Or.inl rfl) (pe_fo c__law_letters hr (by decide) (pa_cons (pv 0) (pa_cons (pv 1) pa_nil))))
      (pss_cons (ps_set (i := 3) nd rfl (Or.inl rfl) (pe_fo c__law_rooms hr (by decide) (pa_cons (pv 0) (pa_cons (pe_op op_shlW pe_int (pv 1)) (pa_cons (pe_ix ix_list (pe_lst (pa_cons pe_int (pa_cons pe_int pa_nil))) (pe_fo c__law_dip hr (by decide) (pa_cons (pv 0) (pa_cons pe_int pa_nil))) (fun _ _ => rfl)) pa_nil)))))
      (pss_cons (ps_asg (pe_tup (pa_cons (pe_fo c__law_trim hr (by decide) (pa_cons (pv 3) pa_nil)) (pa_cons (pe_fo c__law_made hr (by decide) (pa_cons (pv 2) (pa_cons (pv 3) pa_nil))) pa_nil))) (pg_tup rfl (pgs_cons (pg_name (i := 4) nd rfl (.inl rfl)) (pgs_cons (pg_name (i := 5) nd rfl (.inr rfl)) pgs_nil))))
      (pss_cons (ps_if (pt_cmpR (op_eqD hr.units) (pv 4) (pe_lst pa_nil) (nomark _)) (pss_one (ps_ret (pe_foG c__law_stays gd hr (by decide) (pa_cons (pv 5) (pa_cons (pv 2) (pa_cons (pv 3) pa_nil)))))) pss_nil)
      (pss_cons (ps_set (i := 6) nd rfl (Or.inr rfl) (pe_fo c__law_dip hr (by decide) (pa_cons (pv 0) (pa_cons (pe_ix ix_list (pe_lst (pa_cons pe_int (pa_cons pe_int (pa_cons pe_int pa_nil)))) (pe_op op_sub (pv 1) pe_int) (fun _ _ => rfl)) pa_nil))))
      (pss_cons (ps_set (i := 7) nd rfl (Or.inl rfl) (pe_fo c__law_all hr (by decide) (pa_cons (pv 4) (pa_cons (pv 6) (pa_cons (pv 1) pa_nil)))))
      (C8.pss_cut (ps_if (pt_cmpR op_ne (pe_callB (call_reprD gd hr) rfl B.repr (by decide +kernel) (pa_cons (pe_lc (own := [("_law_rank", 8)]) (g := gName 8) (tt := tYes) (by rfl) nd (pi_range1 rfl B.range (pa_cons (pe_callB cb_len rfl B.len (by decide +kernel) (pa_cons (pv 7) pa_nil)) pa_nil)) (blkOk_by (own := [("_law_rank", 8)]) (N := ["_law_well_here", "_law_count", "_law_names_here", "_law_rooms_here", "_law_trimmed", "_law_made_here", "_law_wide", "_law_owed", "_law_rank", "_law_total", "_law_due_here", "_law_told"]) (sc := defScope s__law_right) (by decide +kernel)) (fun _ _ _ _ _ => pg_name (i := 8) nd rfl (Or.inl rfl)) (fun _ _ _ _ _ => pts_nil) (fun _ _ _ _ _ => (pe_fx c_nth_low hr (by decide) (fun _ => psL0) (pa_cons (pv 5) (pa_cons (pv 6) (pa_cons (pv 8) pa_nil)))))) pa_nil)) (pe_callB (call_reprD gd hr) rfl B.repr (by decide +kernel) (pa_cons (pv 7) pa_nil)) (nomark _)) (pss_one (ps_ret pe_bl)) pss_nil)
      (C8.pss_cut (ps_set (i := 6) nd rfl (Or.inr rfl) (pe_fo c__law_dip hr (by decide) (pa_cons (pv 0) (pa_cons (pe_ix ix_list (pe_lst (pa_cons pe_int (pa_cons (pe_ifExp (pt_cmpR op_lt (pe_callB cb_len rfl B.len (by decide +kernel) (pa_cons (pv 3) pa_nil)) pe_int (nomark _)) pe_int pe_int) pa_nil))) (pe_fo c__law_dip hr (by decide) (pa_cons (pv 0) (pa_cons pe_int pa_nil))) (fun _ _ => rfl)) pa_nil))))
      (pss_cons (ps_set (i := 9) nd rfl (Or.inl rfl) (pe_ix ix_list (pe_fo c__law_ways hr (by decide) (pa_cons (pv 4) (pa_cons (pv 6) pa_nil))) pe_int (fun _ _ => rfl)))
      (pss_cons (ps_for PassesOwn.never rfl (pi_tup (pe_tup (pa_cons pe_int (pa_cons (pe_op op_sub (pv 9) pe_int) (pa_cons (pe_fo c__law_dip hr (by decide) (pa_cons (pv 0) (pa_cons (pv 9) pa_nil))) (pa_cons (pe_op op_fdivF (pv 9) (pe_op op_add pe_int (pe_fo c__law_dip hr (by decide) (pa_cons (pv 0) (pa_cons pe_int pa_nil))))) pa_nil)))))) (pg_name (i := 8) nd rfl (.inl rfl))
      (pss_cons (ps_set (i := 10) nd rfl (Or.inl rfl) (pe_fo c__law_nth hr (by decide) (pa_cons (pv 4) (pa_cons (pv 6) (pa_cons (pv 8) (pa_cons (pv 1) pa_nil))))))
      (pss_cons (ps_set (i := 11) nd rfl (Or.inl rfl) (pe_lst (pa_cons (pe_fx c_nth_low hr (by decide) (fun _ => psL0) (pa_cons (pv 5) (pa_cons (pv 6) (pa_cons (pv 8) pa_nil)))) (pa_cons (pe_fk k_nth_low hr (by decide) (fun _ => psL0) (pk_cons (pv 8) (pk_cons (pv 6) (pk_cons (pv 5) pk_nil)))) pa_nil))))
      (pss_one (ps_if (pt_cmpR op_ne (pe_callB (call_reprD gd hr) rfl B.repr (by decide +kernel) (pa_cons (pv 11) pa_nil)) (pe_callB (call_reprD gd hr) rfl B.repr (by decide +kernel) (pa_cons (pe_lst (pa_cons (pv 10) (pa_cons (pv 10) pa_nil))) pa_nil)) (nomark _)) (pss_one (ps_ret pe_bl)) pss_nil)))))
      (pss_one (ps_ret (pe_foG c__law_stays gd hr (by decide) (pa_cons (pv 5) (pa_cons (pv 2) (pa_cons (pv 3) pa_nil))))))))))))))))), ?_⟩
  walk_at "s0"
  have ow := Own.take1 ha
  walk_at "go"
  obtain ⟨n1, rfl⟩ := Int.eq_ofNat_of_zero_le v0
  refine c_lnamesL (c := 1 + n1) ow (i := 0) rfl wk (by omega) (by omega) (by omega) ?_
  intro ks x1 z1' r1 F1 H1 lk pk bk y1 y2 wk ow sF1 sr1
  walk_at "ow"
  walk_at "go"
  refine o_ixB (l := 4) (m := 20) ow (i := 0) rfl v0 v1 (by decide) (by decide) fun N0 hN1 hN2 => ?_
  obtain ⟨N, rfl⟩ := Int.eq_ofNat_of_zero_le (show 0 ≤ N0 by omega)
  replace ow := ow.drop
  clear v0 v1
  walk_at "go"
  have p8 : 2 ^ ks.length ≤ 8 := Nat.le_trans (Nat.pow_le_pow_right (by decide) (by omega : ks.length ≤ 3)) (by decide)
  have two : (1 : Int) * 2 ^ (1 + (n1 : Int)).toNat = ((2 ^ ks.length : Nat) : Int) := by rw [lk]; exact two_pow _
  refine c_lrooms (m := 2 ^ ks.length) (n := N) ow (i := 0) rfl wk (by omega) two rfl (Nat.two_pow_pos _) p8 (by omega) ?_
  intro T x3 z3' t1 F4 H4 lTN tin rw1 y5 y6 wk ow sF4 st1
  walk_at "ow"
  have l1 : 1 ≤ ks.length := by omega
  have l3 : ks.length ≤ 3 := by omega
  have on1 : okN (ks.map letS) = true := okN_lets l1 l3 pk bk
  have sr4 := sF4 _ _ sr1
  have sFA := sF1.trans sF4
  generalize hns : ks.map letS = ns at *
  have ln : ns.length = ks.length := by rw [← hns, List.length_map]
  rw [← ln] at rw1 l1 l3 p8 two
  have lT : T.length ≤ 20 := by omega
  have rT8 : ∀ r ∈ T, r.length ≤ 1000 := fun r hr => by rw [rw1 r hr]; omega
  walk_at "go"
  refine ⟨t1, T, rfl, st1.same ow.toSame, tin, by omega, rT8, fun L tr us H5 hL s5 nr5 er5 rx5 => ?_⟩
  obtain ⟨F5, ow5, sF5, sN5⟩ := ow.rest s5
  have str : TabAt K F5 tr (trimT T L) := ⟨us, SqL.of (sN5 _ _ (newF_at nr5 er5)), (rx5.same (newB_newF.trans sN5)).to⟩
  clear ow nr5 er5 rx5 sN5 s5
  have ow := ow5
  clear ow5
  walk_at "go"
  refine ⟨r1, t1, ns, T, rfl, ow.gets (sF5 _ _ sr4), on1, (st1.same sF5).same ow.toSame, tin, rw1, lT, fun M p1 H6 il ll np6 s6 so6 => ?_⟩
  obtain ⟨F6, ow6, sF6, sN6⟩ := ow.rest s6
  have so : SolAt K CS F6 p1 ns M := so6 F6 sN6
  clear ow so6 sN6 s6 np6
  have ow := ow6
  clear ow6
  have tr6 := str.same sF6
  have st6 := (st1.same sF5).same sF6
  have sr6 := sF6 _ _ (sF5 _ _ sr4)
  have sFB := sFA.trans (sF5.trans sF6)
  clear str sr1 sr4 sFA sF1 sF4 sF5 sF6 st1
  obtain ⟨vsT, sqT, raT⟩ := id st6
  have lvT := raT.length
  have zA : z ≤ z3' := by omega
  have zB : z3' ≤ z + 500 := by omega
  clear z0 z1 y1 y2 y5 y6
  walk_at "go"
  refine o_eqTE (tr6.same ow.toSame) (ow.get 0 rfl) ?_
  replace ow := ow.drop
  by_cases c0 : trimT T L = []
  · rw [decide_eq_true c0]
    walk_at "go"
    refine ⟨p1, r1, t1, ns, T, M, rfl, so.same ow.toSame, SqL.of (ow.gets sr6), st6.same ow.toSame, tin, rw1, lT, il, fun H7 s7 => ?_⟩
    have mu := (ow.weak sFB).mut_of (i := 1) rfl
    exact q _ _ H7 zA (by omega) ⟨s7 _ _ mu.here, fun b u n e => s7 _ _ (mu.keep b u n e)⟩
  rw [decide_eq_false c0]
  obtain ⟨W0, hW0, W1, W9, hpw⟩ := wide_at n1 (by omega)
  walk_at "go"
  obtain ⟨w1, rfl⟩ := Int.eq_ofNat_of_zero_le v0
  have ec : 1 + (n1 : Int) = ((ns.length : Nat) : Int) := by omega
  have tinR := trim_tinR (L := L) tin
  have lenR : (trimT T L).length ≤ 1000 := Nat.le_trans (trim_lenR T L) (by omega)
  have wideR := trim_wideR (L := L) rT8
  have posR := List.length_pos_iff.mpr c0
  have en1 : n1 + 1 = ns.length := by omega
  have hw1 : w1 < W0 := by omega
  have hcnt : ∀ j, j ≤ w1 → cntM M j ≤ 256 := fun j hj => Nat.le_trans (cnt_pow il.1.rows) (by rw [← en1]; exact hpw j (by omega))
  have hall : ∀ j, j ≤ w1 → (allN (trimT T L) j).length ≤ 1000 := fun j hj => by
    rw [all_len tinR posR, cnt_eq hL tin rw1 il]
    have := hcnt j hj
    omega
  refine ⟨tr, trimT T L, w1, ns.length, by rw [ec]; rfl, tr6.same ow.toSame, tinR, lenR, wideR, posR, by omega, by omega, hall, fun rO us FO HO nO sO1 sO2 eO eaO => ?_⟩
  rw [rows_eq hL c0 tin tinR rw1 il] at eaO
  have mu := (ow.weak sFB).mut_of (i := 2) rfl
  have sHO := ow.toSame_of.trans (sO1.trans sO2)
  have so0 := so.same sHO
  have sr0 := sHO _ _ sr6
  have st0 := st6.same sHO
  have tr0 := tr6.same sHO
  have eaH := eaO.same (RT.same sO2)
  have sEnd := sO1.trans sO2
  have muO : Mut a (wl xw y zw) H HO := ⟨sEnd _ _ mu.here, fun b u n e => sEnd _ _ (mu.keep b u n e)⟩
  have owW : Own F6 HO [(a, wl xw y zw)] := (ow.drop.drop).same sEnd
  clear ow mu sHO sO1 sO2 eaO nO sEnd
  have ow : Own HO HO [] := Own.start HO
  have lus := eaH.length
  rw [List.length_map, List.length_range] at lus
  have c256 := hcnt w1 (Nat.le_refl _)
  refine r_cut (fun σ' H' => ∃ (u7 u8 : Option V), σ' = [some (.ref a), some (.int (1 + (n1 : Int))), some (.ref r1), some (.ref t1), some (.ref tr), some (.ref p1), some (.int (w1 : Nat)), u7, u8, none, none, none] ∧ Same HO H') ?_ ?_
  · walk_at "go"
    refine r_lc ?_
    walk_at "go"
    refine r_lenL (SqL.of eO) ?_
    rw [lus]
    walk_at "go"
    rw [Int.toNat_natCast]
    refine c_lcJ (cntM M w1) (by omega) (fun _ => rfl) (fun D i acc H' => ∃ F3, Same HO F3 ∧ Own F3 H' [(D, .lst acc)] ∧ Each RT F3 acc ((List.range i).map fun l => lowL (nthP M w1 0 l) ns.length)) (fun D nD => ⟨HO, fun _ _ e => e, ow.new nD, .nil⟩) ?_ ?_ ?_ ?_
    · rintro D i acc H1 _ hi
      exact itr_go hi
    · rintro D acc H1 _
      exact Nat.le_refl _
    · rintro D i acc H1 v H3 R hi la ⟨F3, s3, ow3, es3⟩ ⟨rfl, rfl⟩ hR
      clear ow
      have ow := ow3
      rw [Int.zero_add]
      walk_at "go"
      refine ⟨p1, ns, M, (w1 : Nat), (i : Nat), rfl, so0.same (s3.trans ow.toSame_of), by omega, by omega, fun _ _ _ r' H4 nr s4 e4 => ?_, fun z => by omega, fun _ z => by rw [Int.toNat_natCast] at z; omega⟩
      rw [Int.toNat_natCast, Int.toNat_natCast] at e4
      have ow4 := ow.newS nr s4 e4
      obtain ⟨ow5, f5⟩ := (ow4.put (o := .lst (acc ++ [.ref r'])) 1 rfl).frz
      refine hR _ _ (ow4.get 1 rfl) ⟨_, s3.trans f5, ow5, ?_⟩
      rw [List.range_succ, List.map_append]
      exact (es3.same (RT.same f5)).snoc ⟨r', rfl, upd_same⟩
    rintro D acc H1 nD ⟨F3, s3, ow3, es3⟩ la
    clear ow
    have ow := ow3
    generalize hRW : ((List.range (cntM M w1)).map fun l => lowL (nthP M w1 0 l) ns.length) = RW at *
    have rpW : Rp 60 27000 (.list (RW.map tupP)) := rq_rows (n := 256) (c := 3) (b := 9) rfl (by rw [← hRW, List.length_map, List.length_range]; exact c256) (fun r hr => by
      rw [← hRW] at hr
      obtain ⟨i, _, rfl⟩ := List.mem_map.mp hr
      rw [lowL_len]
      exact l3) (fun r hr => by
      rw [← hRW] at hr
      obtain ⟨i, _, rfl⟩ := List.mem_map.mp hr
      exact lowL_lt (Nat.le_trans (nthP_len w1 0 i) (by omega))) (by decide) (by decide) (by decide)
    walk_at "go"
    refine r_repr (dp_lst (ow.get 0 rfl) (es3.same (RT.same ow.toSame_of)).dp) rpW ?_
    walk_at "go"
    refine r_repr (dp_lst (s3.trans ow.toSame_of _ _ eO) (eaH.same (RT.same (s3.trans ow.toSame_of))).dp) rpW ?_
    walk_at "go"
    exact s3.trans ow.toSame_of
  · clear ow
    rintro σ' H8 ⟨u7, u8, rfl, s8⟩
    have ow := owW.same s8
    clear owW so0 sr0 st0 tr0 eaH muO lus eO
    walk_at "go"
    refine r_cut (fun σ' H' => ∃ (w2 : Nat) (x' z' : Int), σ' = [some (.ref a), some (.int (1 + (n1 : Int))), some (.ref r1), some (.ref t1), some (.ref tr), some (.ref p1), some (.int (w2 : Nat)), u7, u8, none, none, none] ∧ w2 ≤ 500 ∧ zw ≤ z' ∧ z' ≤ zw + 10 ∧ WOk y z' ∧ Own F6 H' [(a, wl x' y z')]) ?_ ?_
    · walk_at "go"
      · refine o_ixB (l := 20) (m := 501) ow (i := 0) rfl v0 v1 (by decide) (by decide) fun N0 hN1 hN2 => ?_
        replace ow := ow.drop
        clear v0 v1
        walk_at "go"
        obtain ⟨w2, rfl⟩ := Int.eq_ofNat_of_zero_le v0
        exact ⟨w2, _, _, rfl, by omega, by omega, by omega, wk, ow⟩
      · refine o_ixB (l := 20) (m := 60) ow (i := 0) rfl v0 v1 (by decide) (by decide) fun N0 hN1 hN2 => ?_
        replace ow := ow.drop
        clear v0 v1
        walk_at "go"
        obtain ⟨w2, rfl⟩ := Int.eq_ofNat_of_zero_le v0
        exact ⟨w2, _, _, rfl, by omega, by omega, by omega, wk, ow⟩
    · clear ow wk
      rintro σ' H9 ⟨w2, x', z', rfl, hw2, z2, z3, wk, ow⟩
      clear hcnt hall c256
      walk_at "go"
      refine ⟨tr, trimT T L, w2, rfl, tr6.same ow.toSame, tinR, lenR, wideR, by omega, fun r5 H5 s5 nr5 er5 => ?_⟩
      have hlt : 0 < (wv (trimT T L) w2).length := by rw [wv_len]; exact posR
      have at0 : atI (nI (wv (trimT T L) w2)) 0 = some (.int ((wv (trimT T L) w2)[0] : Nat)) := nI_at (List.getElem?_eq_getElem hlt)
      have eC : (wv (trimT T L) w2)[0] = cntM M w2 := by
        have := cnt_eq (k := w2) hL tin rw1 il
        rw [List.getElem?_eq_getElem hlt] at this
        exact this
      rw [eC] at at0
      have bC : cntM M w2 < 2 ^ 1510 := cntM_le il.1.rows p8 (by omega)
      replace ow := ow.newS nr5 s5 er5
      walk_at "go"
      have pC : 1 ≤ cntM M w2 := cnt_pos hL c0 tin il
      have dC : DrB ((cntM M w2 : Nat) : Int) := ⟨by rw [Int.natAbs_natCast]; exact Nat.lt_of_lt_of_le bC (Nat.pow_le_pow_right (by decide) (by decide))⟩
      have rC : ∀ l : Nat, nthP (trimT T L) w2 0 l = nthP M w2 0 l := fun l => nth_eq hL c0 tin rw1 il
      have hCw : (wv (trimT T L) w2)[0]?.getD 0 = cntM M w2 := cnt_eq hL tin rw1 il
      have hCi : ∀ ix : Int, ix < (cntM M w2 : Nat) ↔ ix < (cntM M ((w2 : Nat) : Int).toNat : Nat) := fun ix => by rw [Int.toNat_natCast]
      generalize hC : cntM M w2 = C at *
      refine ⟨a, x', y, z', (C : Nat), rfl, ow.get 1 rfl, wk, by omega, by omega, dC, fun v x2 z2 H2 v0 v1 h1 h2 mt => ?_⟩
      replace ow := ow.mut 1 rfl mt
      replace wk : WOk y z2 := ⟨wk.y0, wk.y1, by have := wk.z0; omega, by omega⟩
      walk_at "go"
      obtain ⟨vn, rfl⟩ := Int.eq_ofNat_of_zero_le v0
      obtain ⟨v3, rfl⟩ := Int.eq_ofNat_of_zero_le (show 0 ≤ v from ‹0 ≤ v›)
      have fd : (C : Int).fdiv (2 + (vn : Int)) = ((C / (2 + vn) : Nat) : Int) := Int.fdiv_eq_ediv_of_nonneg _ (by omega)
      rw [fd] at ow
      have fl : C / (2 + vn) < C := Nat.div_lt_self (by omega) (by omega)
      generalize C / (2 + vn) = C4 at *
      have rk : ∀ u ∈ [V.int 0, V.int ((C : Int) - 1), V.int (v3 : Nat), V.int (C4 : Nat)], ∃ l : Nat, u = .int (l : Nat) ∧ l < C := fun u hu => by
        simp only [List.mem_cons, List.not_mem_nil, or_false] at hu
        rcases hu with rfl | rfl | rfl | rfl
        · exact ⟨0, rfl, by omega⟩
        · exact ⟨C - 1, by congr 1; omega, by omega⟩
        · exact ⟨v3, rfl, by omega⟩
        · exact ⟨C4, rfl, fl⟩
      have mu := (ow.weak sFB).mut_of (i := 2) rfl
      have sN := ow.toSame_of
      have sT := SqT.of (K := K) (ow.get 0 rfl)
      generalize [V.int 0, V.int ((C : Int) - 1), V.int (v3 : Nat), V.int (C4 : Nat)] = RK at *
      have zq : z ≤ zw := by omega
      have zr : zw ≤ z + 4000 := by omega
      refine ⟨⟨_, sT⟩, ?_⟩
      clear ow
      refine for_tup (xs := RK) (fun i σ' H'' => ∃ u7 u8 u10 u11, σ' = [some (.ref a), some (.int (1 + (n1 : Int))), some (.ref r1), some (.ref t1), some (.ref tr), some (.ref p1), some (.int (w2 : Nat)), u7, u8, some (.int (C : Nat)), u10, u11] ∧ Same H' H'') ⟨_, _, _, _, rfl, fun _ _ e => e⟩ (fun i σ' H'' _ ⟨_, _, _, _, _, s⟩ => sqT_same s sT) ?_ ?_
      · rintro i u σ' H10 hu ⟨u7, u8, u10, u11, rfl, s10⟩
        obtain ⟨l, rfl, hl⟩ := rk u (List.mem_of_getElem? hu)
        have ow : Own H10 H10 [] := Own.start H10
        have s6 := sN.trans s10
        have so10 := so.same s6
        have tr10 := tr6.same s6
        walk_at "go"
        refine ⟨tr, trimT T L, w2, l, ns.length, by rw [ec]; rfl, tr10.same ow.toSame, tinR, lenR, wideR, posR, by omega, by omega, by rw [hCw]; exact hl, fun rD HD nD sD eD => ?_⟩
        rw [rC l] at eD
        obtain ⟨ROW, hROW⟩ : ∃ ROW, ROW = lowL (nthP M w2 0 l) ns.length := ⟨_, rfl⟩
        have rl : ∀ r ∈ [ROW, ROW], r.length ≤ 3 := fun r hr => by
          simp only [List.mem_cons, List.not_mem_nil, or_false, or_self] at hr
          rw [hr, hROW, lowL_len]
          exact l3
        have rb : ∀ r ∈ [ROW, ROW], ∀ n ∈ r, n < 2 ^ 500 := fun r hr => by
          simp only [List.mem_cons, List.not_mem_nil, or_false, or_self] at hr
          rw [hr, hROW]
          exact lowL_lt (Nat.le_trans (nthP_len w2 0 l) hw2)
        have rp2 : Rp 60 27000 (.list ([ROW, ROW].map tupP)) := rq_rows (n := 2) (c := 3) (b := 500) rfl (by simp) rl rb (by decide) (by decide) (by decide)
        rw [← hROW] at eD
        replace ow := ow.newS nD sD eD
        walk_at "go"
        refine ⟨p1, ns, M, (w2 : Nat), (l : Nat), rfl, so10.same ow.toSame_of, by omega, by omega, fun _ _ _ rA HA nA sA eA => ?_, fun z => by omega, fun _ z => absurd ⟨by omega, (hCi _).mp (by omega)⟩ z⟩
        rw [Int.toNat_natCast, Int.toNat_natCast, ← hROW] at eA
        replace ow := ow.newS nA sA eA
        walk_at "go"
        refine ⟨rfl, rfl, p1, ns, M, (w2 : Nat), (l : Nat), rfl, so10.same ow.toSame_of, by omega, by omega, fun _ _ _ rB HB nB sB eB => ?_, fun z => by omega, fun _ z => absurd ⟨by omega, (hCi _).mp (by omega)⟩ z⟩
        rw [Int.toNat_natCast, Int.toNat_natCast, ← hROW] at eB
        replace ow := ow.newS nB sB eB
        walk_at "go"
        refine r_repr (dp_lst (ow.get 0 rfl) (.cons (dp_tup (ow.get 2 rfl) (dpa_nI _)) (.cons (dp_tup (ow.get 1 rfl) (dpa_nI _)) .nil))) rp2 ?_
        walk_at "go"
        refine r_repr (dp_lst (ow.get 0 rfl) (.cons (dp_tup (ow.get 4 rfl) (dpa_nI _)) (.cons (dp_tup (ow.get 4 rfl) (dpa_nI _)) .nil))) rp2 ?_
        walk_at "go"
        exact ⟨_, _, _, _, rfl, s10.trans ow.toSame_of⟩
      · rintro σ' H10 ⟨u7, u8, u10, u11, rfl, s10⟩
        have s6 := sN.trans s10
        walk_at "go"
        refine ⟨p1, r1, t1, ns, T, M, rfl, so.same s6, SqL.of (s6 _ _ sr6), st6.same s6, tin, rw1, lT, il, fun H7 s7 => ?_⟩
        have s8 := s10.trans s7
        exact q _ _ H7 zq zr ⟨s8 _ _ mu.here, fun b u n e => s8 _ _ (mu.keep b u n e)⟩
end

/-! the law's loops over pools -/

def sp_law (K : PySem.W.Frag) : Sp := fun vs H Q _ => ∃ (a : Addr) (ns : List Int), vs = [.ref a] ∧ SqL K H a (ns.map V.int) ∧ ns.length ≤ 63 ∧ ∀ H', Same H H' → Q (.bl true) H'
theorem c_pool {K : PySem.W.Frag} {F H : Hp} {L : List (Addr × HO)} {a : Addr} {ns : List Int} {k : Nat} {i : Int} {Q : VK} {E : XK} (h : Own F H L) (hS : SqL K H a (ns.map V.int)) (hl : ns.length ≤ 63) (hi : i = (k : Int)) (hk : k ≤ 63) (q : ∀ p x y H', H p = none → WOk y 0 → Own F H' ((p, wl x y 0) :: L) → Q (.ref p) H') : sp_pool K ([.ref a, .int i] ++ []) H Q E :=
  ⟨a, ns, k, by rw [hi]; rfl, hS, hl, hk, fun p x y H' n e s w => q p x y H' n w (h.newS n s e)⟩
theorem c_pright {F H : Hp} {L : List (Addr × HO)} {i : Nat} {a : Addr} {x y z : Int} {Q : VK} {E : XK} (h : Own F H L) (e : L[i]? = some (a, wl x y z)) (wk : WOk y z) (hz : z + 4000 ≤ 1000000)
    (k : ∀ x' z' H', z ≤ z' → z' ≤ z + 4000 → WOk y z' → Own F H' (L.set i (a, wl x' y z')) → Q (.bl true) H') : sp_pright ([.ref a] ++ []) H Q E :=
  ⟨a, x, y, z, rfl, h.get i e, wk, hz, fun x' z' H' h1 h2 m => k x' z' H' h1 h2 ⟨wk.y0, wk.y1, by have := wk.z0; omega, by omega⟩ (h.mut i e m)⟩
section
variable {P : Program} {w : World} {K : PySem.W.Frag} {mg : Str → Option Value} {base : Heap} {f : Addr} {fd : FuncData}
theorem ok_law (F : FnP K "law" "law" s_law f fd) (B : Bi mg) (c__law_well : Fo P w K mg base CX0 1 "_law_well" ["_law_script", "_law_place"] (sp_pool K)) (c__law_right : FoG P w K mg base CX0 20 "_law_right" ["_law_well_here"] (sp_pright)) : FnG P w K mg base CX0 21 f fd ["_law_script"] (sp_law K) := by
  refine FunD_okG F sc_law (fun vs H Q E h => by walk_at "len") (fun cdv A outer s H vs Q E gd hr h => ?_)
  have nd := sc_law.nd
  obtain ⟨a, ns, rfl, hS, hl, q⟩ := h
  refine ⟨_, PSs.nox (pss_cons (ps_for PassesOwn.never rfl (pi_range1 rfl B.range (pa_cons (pe_callB (cb_max2 rfl) rfl B.max (by decide +kernel) (pa_cons pe_int (pa_cons (pe_callB (cb_min2 rfl) rfl B.min (by decide +kernel) (pa_cons pe_int (pa_cons (pe_callB cb_len rfl B.len (by decide +kernel) (pa_cons (pv 0) pa_nil)) pa_nil))) pa_nil))) pa_nil)) (pg_name (i := 1) nd rfl (.inl rfl))
      (pss_cons (ps_set (i := 2) nd rfl (Or.inl rfl) (pe_fo c__law_well hr (by decide) (pa_cons (pv 0) (pa_cons (pv 1) pa_nil))))
      (pss_one (ps_for PassesOwn.never rfl (pi_range1 rfl B.range (pa_cons pe_int pa_nil)) (pg_name (i := 3) nd rfl (.inl rfl))
      (pss_one (ps_if (pt_not (pt_val (pe_foG c__law_right gd hr (by decide) (pa_cons (pv 2) pa_nil)))) (pss_one (ps_ret pe_bl)) pss_nil))))))
      (pss_one (ps_ret pe_bl))), ?_⟩
  walk_at "s0"
  have hl2 : (ns.map V.int).length ≤ 63 := by rw [List.length_map]; exact hl
  walk_at "go"
  refine for_range (fun _ σ' H' => ∃ u1 u2 u3 : Option V, σ' = [some (.ref a), u1, u2, u3] ∧ Same H H') ⟨_, _, _, rfl, Same.refl H⟩ ?_ ?_
  · rintro i σ' H1 hi ⟨u1, u2, u3, rfl, s1⟩
    have ow := Own.start H1
    have hS1 := s1.seq hS
    walk_at "go"
    refine c_pool (k := i) ow hS1 hl (by omega) (by omega) ?_
    intro pL x y H' np wk ow
    walk_at "go"
    refine for_range (fun j σ' H' => ∃ (x' z' : Int) (u : Option V), σ' = [some (.ref a), some (.int (0 + (i : Int))), some (.ref pL), u] ∧ WOk y z' ∧ z' ≤ 4000 * j ∧ Own H1 H' [(pL, wl x' y z')]) ⟨_, _, _, rfl, wk, by omega, ow⟩ ?_ ?_
    · rintro j σ' H2 hj ⟨x', z', u, rfl, wk, hz, ow⟩
      walk_at "go"
      refine c_pright ow g0 wk (by have := wk.z0; omega) ?_
      intro x2 z2 H3 h1 h2 wk ow
      walk_at "go"
      exact ⟨_, _, _, rfl, wk, by omega, ow⟩
    · rintro σ' H2 ⟨x', z', u, rfl, wk, hz, ow⟩
      exact ⟨_, _, _, rfl, s1.trans ow.toSame_of⟩
  · rintro σ' H1 ⟨u1, u2, u3, rfl, s1⟩
    walk_at "go"
    exact q H1 s1
end

/-! == of words by the head -/
theorem eqO_of {P : Program} {w : World} {K : PySem.W.Frag} {mg : Str → Option Value} {base : Heap} {x : Str} {k : Nat} {sp : Sp} {f : Addr} (h : qEqO x K = true) (m : MeC P w K mg base CX0 (He.ga K x) "__eq__" k ["self", "other"] sp f) : EqO P w K mg base (He.ga K x) k sp := by
  obtain ⟨h1, h⟩ := ban h
  obtain ⟨h2, h3⟩ := ban h
  exact ⟨of_decide_eq_true h1, of_decide_eq_true h2, of_decide_eq_true h3, _, m⟩

/-! solutions by the head -/
theorem sty_of {K : PySem.W.Frag} {x : Str} (cl : Cls K (He.ga K x)) (h : qTy x K = true) : STy K (He.ga K x) := by
  obtain ⟨h1, h⟩ := ban h
  obtain ⟨h2, h⟩ := ban h
  obtain ⟨h3, h⟩ := ban h
  obtain ⟨h4, h⟩ := ban h
  obtain ⟨h5, h⟩ := ban h
  exact ⟨cl, of_decide_eq_true h1, of_decide_eq_true h2, of_decide_eq_true h3, of_decide_eq_true h4, of_decide_eq_true h5⟩

/-! the class Word by the head -/
theorem gFlip_rel : ∀ {vs zs : List V} {us ws : List Value}, Vals vs us → Vals zs ws → Vals (gFlip vs zs) (gFlip us ws)
  | _, _, _, _, .nil, _ => .nil
  | _, _, _, _, .cons _ _, .nil => .nil
  | _, _, _, _, .cons _ _, .cons _ .nil => .nil
  | _, _, _, _, .cons a _, .cons b (.cons c _) => .cons a (.cons c (.cons b .nil))
theorem wordC_of {P : Program} {w : World} {K : PySem.W.Frag} {h base : Heap} {mg : Str → Option Value} {fd : FuncData} {I : Addr} (X : K.In h) (G : h.Ns mainGlobals mg) (g : qGlo "Word" K = true) (c : qCls "Word" K = true) (n1 : qNoat "Word" "kept_top" K = true) (n2 : qNoat "Word" "kept_bottom" K = true) (m : qMkr "Word" K = true)
    (F : FunD K "__init__" "Word.__init__" (defArgs s_Word___init__) (defBody s_Word___init__) (defScope s_Word___init__) [.int 1] [] (He.ma K (He.ga K "Word") "__init__") fd)
    (ok : FnOk P w K mg base (L2.CX P w) 4 (He.ma K (He.ga K "Word") "__init__") fd ["self", "top", "bottom"] (sp_Word_init (He.ga K "Word") I)) : WordC P w K mg base (He.ga K "Word") I := by
  refine ⟨He.cls_ok c, He.noat_ok n1, He.noat_ok n2, He.glo_ok X G g, _, fd, He.mkr_ok m, ok, ?_, ?_, ?_, ?_⟩
  · exact cb_dfl F 3 [] (fun vs _ _ => vs) (by simp) (fun r _ _ => r) fun T kV doc pm an cdv ct us its ws l1 l2 l3 => match us, its, ws, l1, l2, l3 with | [_, _, _], [_], [], _, _, _ => ⟨_, rfl, rfl⟩
  · exact cb_dfl F 2 [] gPo1 (by simp) (fun r d _ => vals_app r d) fun T kV doc pm an cdv ct us its ws l1 l2 l3 => match us, its, ws, l1, l2, l3 with | [_, _], [_], [], _, _, _ => ⟨_, rfl, rfl⟩
  · exact cb_dfl F 1 ["bottom", "top"] (fun vs _ zs => gFlip vs zs) (by simp) (fun r _ z => gFlip_rel r z) fun T kV doc pm an cdv ct us its ws l1 l2 l3 => match us, its, ws, l1, l2, l3 with | [_], [_], [_, _], _, _, _ => ⟨_, rfl, rfl⟩
  · exact cb_dfl F 1 ["top"] gKw1 (by simp) (fun r d z => vals_app (vals_app r z) d) fun T kV doc pm an cdv ct us its ws l1 l2 l3 => match us, its, ws, l1, l2, l3 with | [_], [_], [_], _, _, _ => ⟨_, rfl, rfl⟩

/-! a def with defaults, by the head -/
theorem cb_non {K : PySem.W.Frag} {x qual : Str} {params : Arguments} {body : List Stmt} {scope : Scope} {f : Addr} {fd : FuncData} {ps : List Str} (F : FunD K x qual params body scope [] [] f fd) (n : Nat) (ks : List Str) (g : {α : Type} → List α → List α → List α) (hrel : ∀ {vs zs : List V} {us ws : List Value}, Vals vs us → Vals zs ws → Vals (g vs zs) (g us ws))
    (h : ∀ (kV doc pm : Value) (an : Option Addr) (cdv ct : Value) (us ws : List Value), us.length = n → ws.length = ks.length → PySem.bindArgs (PySem.W.fnOf x qual params body scope .none kV doc pm an cdv ct) ⟨us, ks.zip ws⟩ = pure (ps.zip (g us ws))) : Cb K fd ps n ks g := by
  obtain ⟨oc, od, dV, kV, doc, pm, an, cdv, ct, osl, rfl, lk, hcd, hD, hK⟩ := F.ex
  rcases hD with ⟨_, rfl⟩ | ⟨e, _⟩
  · exact ⟨g, ⟨fun s us ws X l1 l2 => .of_eq (h kV doc pm an cdv ct us ws l1 l2), fun r1 r2 => hrel r1 r2⟩⟩
  · exact absurd rfl e

theorem facts {P : Program} {w : World} {K : PySem.W.Frag} {h : Heap} {mg : Str → Option Value} {f : Addr} (X : K.In h) (G : h.Ns mainGlobals mg) (hf : mg ("law" : Str) = some (.ref f)) (c : SaysM fa fn K) :
    ∃ fd : FuncData, (∀ (s : Shared) (v : Value), BindsTo s fd ⟨[v], []⟩ [("_law_script", v)]) ∧ ∀ base : Heap, K.In base → base.Ns mainGlobals mg → FnG P w K mg base CX0 21 f fd ["_law_script"] (sp_law K) := by
  obtain ⟨f__law_well, F__law_well⟩ := c.d 0 (d := d__law_well) rfl
  obtain ⟨f__law_dip, F__law_dip⟩ := c.d 1 (d := d__law_dip) rfl
  obtain ⟨f__law_letters, F__law_letters⟩ := c.d 2 (d := d__law_letters) rfl
  obtain ⟨f__law_rings, F__law_rings⟩ := c.d 3 (d := d__law_rings) rfl
  obtain ⟨f__law_rooms, F__law_rooms⟩ := c.d 4 (d := d__law_rooms) rfl
  obtain ⟨f__law_trim, F__law_trim⟩ := c.d 5 (d := d__law_trim) rfl
  obtain ⟨f_BitError___init__, F_BitError___init__⟩ := c.d 6 (d := d_BitError___init__) rfl
  obtain ⟨f_is_letter, F_is_letter⟩ := c.d 7 (d := d_is_letter) rfl
  obtain ⟨f_check_names, F_check_names⟩ := c.d 8 (d := d_check_names) rfl
  obtain ⟨f_is_room, F_is_room⟩ := c.d 9 (d := d_is_room) rfl
  obtain ⟨f_live_rooms, F_live_rooms⟩ := c.d 10 (d := d_live_rooms) rfl
  obtain ⟨f_room_kinds, F_room_kinds⟩ := c.d 11 (d := d_room_kinds) rfl
  obtain ⟨f_least_table, F_least_table⟩ := c.d 12 (d := d_least_table) rfl
  obtain ⟨f_Solutions___init__, F_Solutions___init__⟩ := c.d 13 (d := d_Solutions___init__) rfl
  obtain ⟨f_check_alike, F_check_alike⟩ := c.d 14 (d := d_check_alike) rfl
  obtain ⟨f_pair_follow, F_pair_follow⟩ := c.d 15 (d := d_pair_follow) rfl
  obtain ⟨f_paired, F_paired⟩ := c.d 16 (d := d_paired) rfl
  obtain ⟨f_Solutions___and__, F_Solutions___and__⟩ := c.d 17 (d := d_Solutions___and__) rfl
  obtain ⟨f_Solutions___or__, F_Solutions___or__⟩ := c.d 18 (d := d_Solutions___or__) rfl
  obtain ⟨f_check_known, F_check_known⟩ := c.d 19 (d := d_check_known) rfl
  obtain ⟨f_Solutions_names, F_Solutions_names⟩ := c.d 20 (d := d_Solutions_names) rfl
  obtain ⟨f_kept_letter, F_kept_letter⟩ := c.d 21 (d := d_kept_letter) rfl
  obtain ⟨f_renamed, F_renamed⟩ := c.d 22 (d := d_renamed) rfl
  obtain ⟨f_lead_of, F_lead_of⟩ := c.d 23 (d := d_lead_of) rfl
  obtain ⟨f_Word_lead, F_Word_lead⟩ := c.d 24 (d := d_Word_lead) rfl
  obtain ⟨f_span_of, F_span_of⟩ := c.d 25 (d := d_span_of) rfl
  obtain ⟨f_Word_span, F_Word_span⟩ := c.d 26 (d := d_Word_span) rfl
  obtain ⟨f_inverse_low, F_inverse_low⟩ := c.d 27 (d := d_inverse_low) rfl
  obtain ⟨f_low_of, F_low_of⟩ := c.d 28 (d := d_low_of) rfl
  obtain ⟨f_Word_top, F_Word_top⟩ := c.d 29 (d := d_Word_top) rfl
  obtain ⟨f_Word_bottom, F_Word_bottom⟩ := c.d 30 (d := d_Word_bottom) rfl
  obtain ⟨f_word_bits, F_word_bits⟩ := c.d 31 (d := d_word_bits) rfl
  obtain ⟨f_next_place, F_next_place⟩ := c.d 32 (d := d_next_place) rfl
  obtain ⟨f_part_with, F_part_with⟩ := c.d 33 (d := d_part_with) rfl
  obtain ⟨f_widened, F_widened⟩ := c.d 34 (d := d_widened) rfl
  obtain ⟨f_common_part, F_common_part⟩ := c.d 35 (d := d_common_part) rfl
  obtain ⟨f_Word___init__, F_Word___init__⟩ := c.d 36 (d := d_Word___init__) rfl
  obtain ⟨f_check_known_names, F_check_known_names⟩ := c.d 37 (d := d_check_known_names) rfl
  obtain ⟨f_next_state, F_next_state⟩ := c.d 38 (d := d_next_state) rfl
  obtain ⟨f_explored, F_explored⟩ := c.d 39 (d := d_explored) rfl
  obtain ⟨f_rooms_of, F_rooms_of⟩ := c.d 40 (d := d_rooms_of) rfl
  obtain ⟨f_solve, F_solve⟩ := c.d 41 (d := d_solve) rfl
  obtain ⟨f__law_made, F__law_made⟩ := c.d 42 (d := d__law_made) rfl
  obtain ⟨f_Solutions_table, F_Solutions_table⟩ := c.d 43 (d := d_Solutions_table) rfl
  obtain ⟨f_Solutions___bool__, F_Solutions___bool__⟩ := c.d 44 (d := d_Solutions___bool__) rfl
  obtain ⟨f_Solutions___eq__, F_Solutions___eq__⟩ := c.d 45 (d := d_Solutions___eq__) rfl
  obtain ⟨f__law_stays, F__law_stays⟩ := c.d 46 (d := d__law_stays) rfl
  obtain ⟨f__law_low, F__law_low⟩ := c.d 47 (d := d__law_low) rfl
  obtain ⟨f__law_all, F__law_all⟩ := c.d 48 (d := d__law_all) rfl
  obtain ⟨f_check_width, F_check_width⟩ := c.d 49 (d := d_check_width) rfl
  obtain ⟨f_ways_on, F_ways_on⟩ := c.d 50 (d := d_ways_on) rfl
  obtain ⟨f_count_low, F_count_low⟩ := c.d 51 (d := d_count_low) rfl
  obtain ⟨f_low_row, F_low_row⟩ := c.d 52 (d := d_low_row) rfl
  obtain ⟨f_nth_low, F_nth_low⟩ := c.d 53 (d := d_nth_low) rfl
  obtain ⟨f__law_ways, F__law_ways⟩ := c.d 54 (d := d__law_ways) rfl
  obtain ⟨f__law_nth, F__law_nth⟩ := c.d 55 (d := d__law_nth) rfl
  obtain ⟨f__law_right, F__law_right⟩ := c.d 56 (d := d__law_right) rfl
  obtain ⟨f_law, F_law⟩ := c.d 57 (d := d_law) rfl
  have e := hf.symm.trans (He.glo_ok X G (c.q 1 (f := qGlo "law") rfl))
  cases e
  have B := bi_of X G (c.q 0 (f := qBi) rfl)
  have b := FunD.bindsA (ps := ["_law_script"]) F_law (fun _ _ _ _ _ _ us hl => match us, hl with | [_], _ => rfl)
  refine ⟨f_law, fun s v => b s [v] rfl, fun base Xb Gb => ?_⟩
  have c__law_well : Fo P w K mg base CX0 1 "_law_well" _ _ := fo_of X G (c.q 2 (f := qGlo "_law_well") rfl) (ok__law_well F__law_well B) F__law_well.kp (F__law_well.bindsN (fun _ _ _ _ _ _ us hl => match us, hl with | [_, _], _ => rfl))
  have c__law_dip : Fo P w K mg base CX0 1 "_law_dip" _ _ := fo_of X G (c.q 3 (f := qGlo "_law_dip") rfl) (ok__law_dip F__law_dip B) F__law_dip.kp (F__law_dip.bindsN (fun _ _ _ _ _ _ us hl => match us, hl with | [_, _], _ => rfl))
  have c__law_letters : Fo P w K mg base CX0 2 "_law_letters" _ _ := fo_of X G (c.q 4 (f := qGlo "_law_letters") rfl) (ok__law_letters F__law_letters B c__law_dip) F__law_letters.kp (F__law_letters.bindsN (fun _ _ _ _ _ _ us hl => match us, hl with | [_, _], _ => rfl))
  have c__law_rings : Fo P w K mg base CX0 2 "_law_rings" _ _ := fo_of X G (c.q 5 (f := qGlo "_law_rings") rfl) (ok__law_rings F__law_rings B c__law_dip) F__law_rings.kp (F__law_rings.bindsN (fun _ _ _ _ _ _ us hl => match us, hl with | [_, _, _], _ => rfl))
  have c__law_rooms : Fo P w K mg base CX0 3 "_law_rooms" _ _ := fo_of X G (c.q 6 (f := qGlo "_law_rooms") rfl) (ok__law_rooms F__law_rooms B c__law_dip c__law_rings) F__law_rooms.kp (F__law_rooms.bindsN (fun _ _ _ _ _ _ us hl => match us, hl with | [_, _, _], _ => rfl))
  have c__law_trim : Fo P w K mg base CX0 1 "_law_trim" _ _ := fo_of X G (c.q 7 (f := qGlo "_law_trim") rfl) (ok__law_trim F__law_trim B) F__law_trim.kp (F__law_trim.bindsN (fun _ _ _ _ _ _ us hl => match us, hl with | [_], _ => rfl))
  have v_MOST_NAMES := He.int_ok X G (c.q 8 (f := qInt "MOST_NAMES" 3) rfl)
  have xi := ok_excInit (P := P) (w := w) (mg := mg) (base := base) F_BitError___init__
  have bi := F_BitError___init__.bindsN (ps := ["self", "value"]) (fun _ _ _ _ _ _ us hl => match us, hl with | [_, _], _ => rfl)
  have x_InvalidNames : Xc P w K mg base "InvalidNames" _ := xc_of X G (c.q 9 (f := qGlo "InvalidNames") rfl) (c.q 10 (f := qXc "InvalidNames") rfl) xi bi
  have ty_Str : TyS K := ⟨of_decide_eq_true (c.q 11 (f := qTyS) rfl)⟩
  have c_is_letter : Fo P w K mg base CX0 1 "is_letter" _ _ := fo_of X G (c.q 12 (f := qGlo "is_letter") rfl) (ok_is_letter F_is_letter B ty_Str) F_is_letter.kp (F_is_letter.bindsN (fun _ _ _ _ _ _ us hl => match us, hl with | [_], _ => rfl))
  have c_check_names : Fo P w K mg base (L2.CX P w) 3 "check_names" _ _ := fo_of X G (c.q 13 (f := qGlo "check_names") rfl) (ok_check_names F_check_names B v_MOST_NAMES x_InvalidNames c_is_letter) F_check_names.kp (F_check_names.bindsN (fun _ _ _ _ _ _ us hl => match us, hl with | [_], _ => rfl))
  have c_is_room : Fo P w K mg base CX0 1 "is_room" _ _ := fo_of X G (c.q 14 (f := qGlo "is_room") rfl) (ok_is_room F_is_room B) F_is_room.kp (F_is_room.bindsN (fun _ _ _ _ _ _ us hl => match us, hl with | [_, _, _], _ => rfl))
  have x_InvalidTable : Xc P w K mg base "InvalidTable" _ := xc_of X G (c.q 15 (f := qGlo "InvalidTable") rfl) (c.q 16 (f := qXc "InvalidTable") rfl) xi bi
  have c_live_rooms : Fo P w K mg base CX0 1 "live_rooms" _ _ := fo_of X G (c.q 17 (f := qGlo "live_rooms") rfl) (ok_live_rooms F_live_rooms B) F_live_rooms.kp (F_live_rooms.bindsN (fun _ _ _ _ _ _ us hl => match us, hl with | [_], _ => rfl))
  have c_room_kinds : Fo P w K mg base CX0 1 "room_kinds" _ _ := fo_of X G (c.q 18 (f := qGlo "room_kinds") rfl) (ok_room_kinds F_room_kinds B) F_room_kinds.kp (F_room_kinds.bindsN (fun _ _ _ _ _ _ us hl => match us, hl with | [_, _], _ => rfl))
  have c_least_table : Fo P w K mg base CX0 2 "least_table" _ _ := fo_of X G (c.q 19 (f := qGlo "least_table") rfl) (ok_least_table F_least_table B c_live_rooms c_room_kinds) F_least_table.kp (F_least_table.bindsN (fun _ _ _ _ _ _ us hl => match us, hl with | [_], _ => rfl))
  have clS := He.cls_ok (c.q 20 (f := qCls "Solutions") rfl)
  have nSn := He.noat_ok (c.q 21 (f := qNoat "Solutions" "kept_names") rfl)
  have nSr := He.noat_ok (c.q 22 (f := qNoat "Solutions" "rooms") rfl)
  have c_Solutions : ClX P w K mg base "Solutions" _ 6 _ _ := clX_of X G (c.q 23 (f := qGlo "Solutions") rfl) (c.q 24 (f := qMkr "Solutions") rfl) (ok_Solutions___init__ F_Solutions___init__ B c_check_names c_is_room x_InvalidTable c_least_table clS nSn nSr) (F_Solutions___init__.bindsN (fun _ _ _ _ _ _ us hl => match us, hl with | [_, _, _], _ => rfl))
  have x_UnlikeNames : Xc P w K mg base "UnlikeNames" _ := xc_of X G (c.q 25 (f := qGlo "UnlikeNames") rfl) (c.q 26 (f := qXc "UnlikeNames") rfl) xi bi
  have c_check_alike : Fo P w K mg base (L2.CX P w) 3 "check_alike" _ _ := fo_of X G (c.q 27 (f := qGlo "check_alike") rfl) (ok_check_alike F_check_alike B x_UnlikeNames) F_check_alike.kp (F_check_alike.bindsN (fun _ _ _ _ _ _ us hl => match us, hl with | [_, _], _ => rfl))
  have c_pair_follow : Fo P w K mg base CX0 1 "pair_follow" _ _ := fo_of X G (c.q 28 (f := qGlo "pair_follow") rfl) (ok_pair_follow F_pair_follow B) F_pair_follow.kp (F_pair_follow.bindsN (fun _ _ _ _ _ _ us hl => match us, hl with | [_, _, _, _], _ => rfl))
  have c_paired : Fo P w K mg base CX0 2 "paired" _ _ := fo_of X G (c.q 29 (f := qGlo "paired") rfl) (ok_paired F_paired B c_pair_follow) F_paired.kp (F_paired.bindsN (fun _ _ _ _ _ _ us hl => match us, hl with | [_, _, _, _], _ => rfl))
  have m_Sand := me_of (P := P) (w := w) (mg := mg) (base := base) (c.q 30 (f := qMe "Solutions" "__and__") rfl) (ok_Solutions___and__ F_Solutions___and__ B c_check_alike c_Solutions c_paired clS nSn nSr) (F_Solutions___and__.bindsN (ps := ["self", "other"]) (fun _ _ _ _ _ _ us hl => match us, hl with | [_, _], _ => rfl))
  have o_SAnd : OpE P w K mg base (L2.CX P w) _ "and" 8 _ := ⟨(c.q 31 (f := qSf "Solutions") rfl), _, m_Sand⟩
  have m_Sor := me_of (P := P) (w := w) (mg := mg) (base := base) (c.q 32 (f := qMe "Solutions" "__or__") rfl) (ok_Solutions___or__ F_Solutions___or__ B c_check_alike c_Solutions c_paired clS nSn nSr) (F_Solutions___or__.bindsN (ps := ["self", "other"]) (fun _ _ _ _ _ _ us hl => match us, hl with | [_, _], _ => rfl))
  have o_SOr : OpE P w K mg base (L2.CX P w) _ "or" 8 _ := ⟨(c.q 31 (f := qSf "Solutions") rfl), _, m_Sor⟩
  have x_UnknownName : Xc P w K mg base "UnknownName" _ := xc_of X G (c.q 33 (f := qGlo "UnknownName") rfl) (c.q 34 (f := qXc "UnknownName") rfl) xi bi
  have c_check_known : Fo P w K mg base (L2.CX P w) 3 "check_known" _ _ := fo_of X G (c.q 35 (f := qGlo "check_known") rfl) (ok_check_known F_check_known B x_UnknownName) F_check_known.kp (F_check_known.bindsN (fun _ _ _ _ _ _ us hl => match us, hl with | [_, _], _ => rfl))
  have p_names : PrC P w K mg base CX0 _ "names" 1 _ := prc_of (c.q 20 (f := qCls "Solutions") rfl) (c.q 36 (f := qProp "Solutions" "names") rfl) (ok_Solutions_names F_Solutions_names B clS nSn) (F_Solutions_names.bindsN (fun _ _ _ _ _ _ us hl => match us, hl with | [_], _ => rfl))
  have c_kept_letter : Fo P w K mg base CX0 1 "kept_letter" _ _ := fo_of X G (c.q 37 (f := qGlo "kept_letter") rfl) (ok_kept_letter F_kept_letter B) F_kept_letter.kp (F_kept_letter.bindsN (fun _ _ _ _ _ _ us hl => match us, hl with | [_, _], _ => rfl))
  have c_renamed : Fo P w K mg base (L2.CX P w) 9 "renamed" _ _ := fo_of X G (c.q 38 (f := qGlo "renamed") rfl) (ok_renamed F_renamed B c_check_known p_names c_is_letter x_InvalidNames c_kept_letter c_Solutions clS nSr) F_renamed.kp (F_renamed.bindsN (fun _ _ _ _ _ _ us hl => match us, hl with | [_, _], _ => rfl))
  have c_lead_of : Fo P w K mg base CX0 1 "lead_of" _ _ := fo_of X G (c.q 39 (f := qGlo "lead_of") rfl) (ok_lead_of F_lead_of B) F_lead_of.kp (F_lead_of.bindsN (fun _ _ _ _ _ _ us hl => match us, hl with | [_, _], _ => rfl))
  have cl := He.cls_ok (c.q 40 (f := qCls "Word") rfl)
  have nT := He.noat_ok (c.q 41 (f := qNoat "Word" "kept_top") rfl)
  have nB := He.noat_ok (c.q 42 (f := qNoat "Word" "kept_bottom") rfl)
  have p_lead : PrC P w K mg base CX0 _ "lead" 2 _ := prc_of (c.q 40 (f := qCls "Word") rfl) (c.q 43 (f := qProp "Word" "lead") rfl) (ok_Word_lead F_Word_lead B c_lead_of cl nT nB) (F_Word_lead.bindsN (fun _ _ _ _ _ _ us hl => match us, hl with | [_], _ => rfl))
  have c_span_of : Fo P w K mg base CX0 1 "span_of" _ _ := fo_of X G (c.q 44 (f := qGlo "span_of") rfl) (ok_span_of F_span_of B) F_span_of.kp (F_span_of.bindsN (fun _ _ _ _ _ _ us hl => match us, hl with | [_], _ => rfl))
  have p_span : PrC P w K mg base CX0 _ "span" 2 _ := prc_of (c.q 40 (f := qCls "Word") rfl) (c.q 45 (f := qProp "Word" "span") rfl) (ok_Word_span F_Word_span B c_span_of cl nB) (F_Word_span.bindsN (fun _ _ _ _ _ _ us hl => match us, hl with | [_], _ => rfl))
  have c_inverse_low : Fo P w K mg base CX0 1 "inverse_low" _ _ := fo_of X G (c.q 46 (f := qGlo "inverse_low") rfl) (ok_inverse_low F_inverse_low B) F_inverse_low.kp (F_inverse_low.bindsN (fun _ _ _ _ _ _ us hl => match us, hl with | [_, _], _ => rfl))
  have c_low_of : Fo P w K mg base CX0 2 "low_of" _ _ := fo_of X G (c.q 47 (f := qGlo "low_of") rfl) (ok_low_of F_low_of B c_inverse_low) F_low_of.kp (F_low_of.bindsN (fun _ _ _ _ _ _ us hl => match us, hl with | [_, _, _], _ => rfl))
  have p_top : PrC P w K mg base CX0 _ "top" 1 _ := prc_of (c.q 40 (f := qCls "Word") rfl) (c.q 48 (f := qProp "Word" "top") rfl) (ok_Word_top F_Word_top cl nT) (F_Word_top.bindsN (fun _ _ _ _ _ _ us hl => match us, hl with | [_], _ => rfl))
  have p_bottom : PrC P w K mg base CX0 _ "bottom" 1 _ := prc_of (c.q 40 (f := qCls "Word") rfl) (c.q 49 (f := qProp "Word" "bottom") rfl) (ok_Word_bottom F_Word_bottom cl nB) (F_Word_bottom.bindsN (fun _ _ _ _ _ _ us hl => match us, hl with | [_], _ => rfl))
  have c_word_bits : Fo P w K mg base CX0 5 "word_bits" _ _ := fo_of X G (c.q 50 (f := qGlo "word_bits") rfl) (ok_word_bits F_word_bits B p_lead p_span c_low_of p_top p_bottom) F_word_bits.kp (F_word_bits.bindsN (fun _ _ _ _ _ _ us hl => match us, hl with | [_], _ => rfl))
  have c_next_place : Fo P w K mg base CX0 1 "next_place" _ _ := fo_of X G (c.q 51 (f := qGlo "next_place") rfl) (ok_next_place F_next_place B) F_next_place.kp (F_next_place.bindsN (fun _ _ _ _ _ _ us hl => match us, hl with | [_, _], _ => rfl))
  have c_part_with : Fo P w K mg base (L2.CX P w) 9 "part_with" _ _ := fo_of X G (c.q 52 (f := qGlo "part_with") rfl) (ok_part_with F_part_with B c_check_known p_names x_InvalidNames c_Solutions c_word_bits c_next_place clS nSr) F_part_with.kp (F_part_with.bindsN (fun _ _ _ _ _ _ us hl => match us, hl with | [_, _, _], _ => rfl))
  have c_widened : Fo P w K mg base (L2.CX P w) 9 "widened" _ _ := fo_of X G (c.q 53 (f := qGlo "widened") rfl) (ok_widened F_widened B c_check_names c_check_known p_names c_kept_letter c_Solutions clS nSr) F_widened.kp (F_widened.bindsN (fun _ _ _ _ _ _ us hl => match us, hl with | [_, _], _ => rfl))
  have c_common_part : Fo P w K mg base CX0 1 "common_part" _ _ := fo_of X G (c.q 54 (f := qGlo "common_part") rfl) (ok_common_part F_common_part B) F_common_part.kp (F_common_part.bindsN (fun _ _ _ _ _ _ us hl => match us, hl with | [_, _], _ => rfl))
  have x_InvalidWord : Xc P w K mg base "InvalidWord" _ := xc_of X G (c.q 55 (f := qGlo "InvalidWord") rfl) (c.q 56 (f := qXc "InvalidWord") rfl) xi bi
  have c_Word := wordC_of (P := P) (w := w) (base := base) X G (c.q 57 (f := qGlo "Word") rfl) (c.q 40 (f := qCls "Word") rfl) (c.q 41 (f := qNoat "Word" "kept_top") rfl) (c.q 42 (f := qNoat "Word" "kept_bottom") rfl) (c.q 58 (f := qMkr "Word") rfl) F_Word___init__ (ok_Word_init F_Word___init__ B cl nT nB c_common_part x_InvalidWord)
  have c_check_known_names : Fo P w K mg base (L2.CX P w) 2 "check_known_names" _ _ := fo_of X G (c.q 59 (f := qGlo "check_known_names") rfl) (ok_check_known_names F_check_known_names B) F_check_known_names.kp (F_check_known_names.bindsN (fun _ _ _ _ _ _ us hl => match us, hl with | [_, _], _ => rfl))
  have c_next_state : Fo P w K mg base CX0 1 "next_state" _ _ := fo_of X G (c.q 60 (f := qGlo "next_state") rfl) (ok_next_state F_next_state B) F_next_state.kp (F_next_state.bindsN (fun _ _ _ _ _ _ us hl => match us, hl with | [_, _, _], _ => rfl))
  have c_explored : Fo P w K mg base CX0 2 "explored" _ _ := fo_of X G (c.q 61 (f := qGlo "explored") rfl) (ok_explored F_explored B c_next_state) F_explored.kp (F_explored.bindsN (fun _ _ _ _ _ _ us hl => match us, hl with | [_, _], _ => rfl))
  have c_rooms_of : Fo P w K mg base CX0 3 "rooms_of" _ _ := fo_of X G (c.q 62 (f := qGlo "rooms_of") rfl) (ok_rooms_of F_rooms_of B c_explored) F_rooms_of.kp (F_rooms_of.bindsN (fun _ _ _ _ _ _ us hl => match us, hl with | [_, _], _ => rfl))
  have c_solve : Fo P w K mg base (L2.CX P w) 9 "solve" _ _ := fo_of X G (c.q 63 (f := qGlo "solve") rfl) (ok_solve F_solve B c_check_names c_check_known_names c_Solutions c_rooms_of) F_solve.kp (F_solve.bindsN (fun _ _ _ _ _ _ us hl => match us, hl with | [_, _], _ => rfl))
  have c__law_made : Fo P w K mg base CX0 12 "_law_made" _ _ := fo_of X G (c.q 64 (f := qGlo "_law_made") rfl) (ok__law_made F__law_made B c_Solutions o_SAnd o_SOr c_renamed c_part_with c_widened c_Word c_solve) F__law_made.kp (F__law_made.bindsN (fun _ _ _ _ _ _ us hl => match us, hl with | [_, _], _ => rfl))
  have p_table : PrC P w K mg base CX0 _ "table" 1 _ := prc_of (c.q 20 (f := qCls "Solutions") rfl) (c.q 65 (f := qProp "Solutions" "table") rfl) (ok_Solutions_table F_Solutions_table B clS nSr) (F_Solutions_table.bindsN (fun _ _ _ _ _ _ us hl => match us, hl with | [_], _ => rfl))
  have m_Sbool := me_of (P := P) (w := w) (mg := mg) (base := base) (c.q 66 (f := qMe "Solutions" "__bool__") rfl) (ok_Solutions___bool__ F_Solutions___bool__ B clS nSr) (F_Solutions___bool__.bindsN (ps := ["self"]) (fun _ _ _ _ _ _ us hl => match us, hl with | [_], _ => rfl))
  have g_Solutions := He.glo_ok X G (c.q 23 (f := qGlo "Solutions") rfl)
  have ty_Solutions := sty_of clS (c.q 67 (f := qTy "Solutions") rfl)
  have m_Seq := me_of (P := P) (w := w) (mg := mg) (base := base) (c.q 68 (f := qMe "Solutions" "__eq__") rfl) (ok_Solutions___eq__ F_Solutions___eq__ B g_Solutions clS nSn nSr ty_Solutions) (F_Solutions___eq__.bindsN (ps := ["self", "other"]) (fun _ _ _ _ _ _ us hl => match us, hl with | [_, _], _ => rfl))
  have e_Sol : EqO P w K mg base _ 2 _ := eqO_of (c.q 69 (f := qEqO "Solutions") rfl) m_Seq
  have c__law_stays : FoG P w K mg base CX0 12 "_law_stays" _ _ := foG_of X G (c.q 70 (f := qGlo "_law_stays") rfl) (ok__law_stays F__law_stays B c_Solutions p_names p_table m_Sbool e_Sol) F__law_stays.kp (F__law_stays.bindsN (fun _ _ _ _ _ _ us hl => match us, hl with | [_, _, _], _ => rfl))
  have c__law_low : Fo P w K mg base CX0 1 "_law_low" _ _ := fo_of X G (c.q 71 (f := qGlo "_law_low") rfl) (ok__law_low F__law_low B) F__law_low.kp (F__law_low.bindsN (fun _ _ _ _ _ _ us hl => match us, hl with | [_, _], _ => rfl))
  have c__law_all : Fo P w K mg base CX0 3 "_law_all" _ _ := fo_of X G (c.q 72 (f := qGlo "_law_all") rfl) (ok__law_all F__law_all B c__law_low) F__law_all.kp (F__law_all.bindsN (fun _ _ _ _ _ _ us hl => match us, hl with | [_, _, _], _ => rfl))
  have x_InvalidWidth : Xc P w K mg base "InvalidWidth" _ := xc_of X G (c.q 73 (f := qGlo "InvalidWidth") rfl) (c.q 74 (f := qXc "InvalidWidth") rfl) xi bi
  have c_check_width : Fo P w K mg base (L2.CX P w) 3 "check_width" _ _ := fo_of X G (c.q 75 (f := qGlo "check_width") rfl) (ok_check_width F_check_width B x_InvalidWidth) F_check_width.kp (F_check_width.bindsN (fun _ _ _ _ _ _ us hl => match us, hl with | [_], _ => rfl))
  have c_ways_on : Fo P w K mg base CX0 1 "ways_on" _ _ := fo_of X G (c.q 76 (f := qGlo "ways_on") rfl) (ok_ways_on F_ways_on B) F_ways_on.kp (F_ways_on.bindsN (fun _ _ _ _ _ _ us hl => match us, hl with | [_, _], _ => rfl))
  have c_count_low : Fo P w K mg base (L2.CX P w) 4 "count_low" _ _ := fo_of X G (c.q 77 (f := qGlo "count_low") rfl) (ok_count_low F_count_low B c_check_width c_ways_on clS nSr) F_count_low.kp (F_count_low.bindsN (fun _ _ _ _ _ _ us hl => match us, hl with | [_, _], _ => rfl))
  have x_InvalidIndex : Xc P w K mg base "InvalidIndex" _ := xc_of X G (c.q 78 (f := qGlo "InvalidIndex") rfl) (c.q 79 (f := qXc "InvalidIndex") rfl) xi bi
  have c_low_row : Fo P w K mg base CX0 1 "low_row" _ _ := fo_of X G (c.q 80 (f := qGlo "low_row") rfl) (ok_low_row F_low_row B) F_low_row.kp (F_low_row.bindsN (fun _ _ _ _ _ _ us hl => match us, hl with | [_, _], _ => rfl))
  have c_nth_low : Fo P w K mg base (L2.CX P w) 6 "nth_low" _ _ := fo_of X G (c.q 81 (f := qGlo "nth_low") rfl) (ok_nth_low F_nth_low B c_count_low x_InvalidIndex c_ways_on c_low_row clS nSr nSn) F_nth_low.kp (F_nth_low.bindsN (fun _ _ _ _ _ _ us hl => match us, hl with | [_, _, _], _ => rfl))
  have c__law_ways : Fo P w K mg base CX0 1 "_law_ways" _ _ := fo_of X G (c.q 82 (f := qGlo "_law_ways") rfl) (ok__law_ways F__law_ways B) F__law_ways.kp (F__law_ways.bindsN (fun _ _ _ _ _ _ us hl => match us, hl with | [_, _], _ => rfl))
  have c__law_nth : Fo P w K mg base CX0 3 "_law_nth" _ _ := fo_of X G (c.q 83 (f := qGlo "_law_nth") rfl) (ok__law_nth F__law_nth B c__law_ways c__law_low) F__law_nth.kp (F__law_nth.bindsN (fun _ _ _ _ _ _ us hl => match us, hl with | [_, _, _, _], _ => rfl))
  have k_nth_low : FoK P w K mg base (L2.CX P w) 6 "nth_low" ["solutions", "width", "index"] _ ["index", "width", "solutions"] gKB := foK_of (h := h) (He.glo_ok X G (c.q 81 (f := qGlo "nth_low") rfl)) (ok_nth_low F_nth_low B c_count_low x_InvalidIndex c_ways_on c_low_row clS nSr nSn) F_nth_low.kp (cb_non F_nth_low 0 ["index", "width", "solutions"] gKB (fun a b => gKB_rel a b) (fun kV doc pm an cdv ct us ws l1 l2 => match us, ws, l1, l2 with | [], [_, _, _], _, _ => rfl))
  have c__law_right : FoG P w K mg base CX0 20 "_law_right" _ _ := foG_of X G (c.q 84 (f := qGlo "_law_right") rfl) (ok__law_right F__law_right B c__law_dip c__law_letters c__law_rooms c__law_trim c__law_made c__law_stays c__law_all c_nth_low c__law_ways c__law_nth k_nth_low) F__law_right.kp (F__law_right.bindsN (fun _ _ _ _ _ _ us hl => match us, hl with | [_], _ => rfl))
  exact ok_law F_law B c__law_well c__law_right
end Bs
open PySem PySem.W PySem.Calls PyProof.Rows
theorem PySem.Challenge.cw_bitsolve_k37_low_rows_by_index_holds : PySem.Challenge.rw_bitsolve_k37_low_rows_by_index.Holds := by
  w_on; o_law
  refine HandSHeadRun.head_any (r := Bs.Rw) (q := view Bs.Rw.prog [76]) (H := Bs.hkM) (ob := Bs.ob) (M := 6000) (loose := ("_wall" :: "BitError" :: "InvalidWord" :: "NotOdd" :: "InvalidPlace" :: "InvalidWidth" :: "InvalidIndex" :: "InvalidNames" :: "UnknownName" :: "UnlikeNames" :: "InvalidShift" :: "InvalidTable" :: "common_part" :: "inverse_low" :: "low_of" :: "lead_of" :: "span_of" :: "fraction_of" :: "repeated" :: "bits_mixed" :: "Word" :: "low_row" :: "ways_on" :: "word_bits" :: "mixed_bits" :: "next_state" :: "explored" :: "live_rooms" :: "room_kinds" :: "least_table" :: "pair_follow" :: "paired" :: "leads_on" :: "next_place" :: "kept_letter" :: "PAIR_SIGNS" :: "is_letter" :: "parts_of" :: "line_of" :: "MOST_NAMES" :: "check_names" :: "is_room" :: "check_known_names" :: "check_alike" :: "rooms_of" :: "Solutions" :: "solve" :: "check_width" :: "count_low" :: "nth_low" :: "check_known" :: "widened" :: "part_with" :: "renamed" :: "_law_well" :: "_law_dip" :: "_law_rings" :: "_law_rooms" :: "_law_letters" :: "_law_trim" :: "_law_ways" :: "_law_low" :: "_law_made" :: "_law_stays" :: "_law_nth" :: "_law_all" :: "_law_right" :: [])) (d := HandSHeadRun.topDef Bs.Rw.prog 76) (kwd := []) Bs.ob_eq
    (by kernel_rfl) (fun s => by kernel_rfl) Bs.headRun (by kernel_rfl) (by kernel_rfl) (by kernel_rfl) (by rfl) (by first | assumption | decide +kernel) (by decide +kernel) ⟨rfl, rfl, rfl, rfl, rfl, by decide +kernel⟩ ?hw ?hc
  case hw => w_witness2
  case hc =>
    refine Bs.walk_G (l := PySem.Challenge.rw_bitsolve_k37_low_rows_by_index) (n := 63) (k := 21) (x := "_law_script") rfl (by decide) (by kernel_rfl) (Bs.room30.mono (by decide)) ?_
    intro w mg fa h Y G hmg0
    obtain ⟨K, KX, c⟩ := Y
    have hmg : mg ("law" : PySem.Str) = some (.ref fa) := by
      have e : (HandSHeadRun.topDef Bs.Rw.prog 76).name = ("law" : PySem.Str) := by kernel_rfl
      rw [← e]
      exact hmg0
    obtain ⟨fd, hb, hF⟩ := Bs.facts (P := (PySem.Challenge.rw_bitsolve_k37_low_rows_by_index).prog) (w := w) KX G hmg c
    exact ⟨K, fd, Bs.sp_law K, KX, hb, fun H a ns hl hbits hS => ⟨a, ns, rfl, hS, hl, fun _ _ => rfl⟩, hF⟩
