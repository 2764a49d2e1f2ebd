import PyProof.Rows.All
import Wide.All
import OpenK.AllK
import Wide.FinOn
import PyProof.ReprRoads
import KE.KExcIs
import HandS.ForMost
import HandS.ForExc
import HandS.Defaults
import HandS.Wide
import HandS.WideBits
import HandS.ExcInit
import HandS.ExcField
import HandS.Property
import HandS.MakeKw
import HandS.IsInst
import HandS.Style
import HandS.TupAny
import HandS.Codes
import HandS.MakeKwOnly
import HandS.ExcIs
import PyProof.ReprLen
import KE.KOpsOwn
import PyProof.StrReplace2
import PyProof.TwoTypes
import PyProof.Walk
import PyProof.WalkLemmas
import HandS.Spec
import HandS.EndBits
import HandS.HeadNt
import HandS.Head0
import HandS.Head1
import HandS.Head2
import HandS.Small
import HandS.WordsDict
import HandS.Comp
import PyProof.SliceList
import KE.KRevSl
import HandS.Call
import PySem.Challenge.RW_bitsolve_k16_whole_words_as_numbers_and
import HandS.Text
set_option Elab.async false
set_option linter.all false
set_option maxRecDepth 100000
set_option maxHeartbeats 4000000
set_option Elab.async false
set_option linter.all false
set_option maxRecDepth 100000
set_option maxHeartbeats 2000000
/-! Rules of my own over the hand layer; law-independent. -/
namespace Bs
open PySem PySem.Spec PySem.Calls PyProof.Rows L2

/-! ### integer operators at full width -/
section
variable {X : Cx}
theorem mok_l {i j : Int} (h1 : -(2 ^ 64) < i) (h2 : i < 2 ^ 64) : IntMulOk i j := CMul.ok (.inl ⟨h1, h2⟩)
theorem mok_r {i j : Int} (h1 : -(2 ^ 64) < j) (h2 : j < 2 ^ 64) : IntMulOk i j := CMul.ok (.inr ⟨h1, h2⟩)
theorem mok_w {i j : Int} (a b : Nat) (ha : i.natAbs < 2 ^ a) (hb : j.natAbs < 2 ^ b) (h : a + b ≤ 134217728) : IntMulOk i j := (mulx_ok ha hb h).ok
theorem op_mulO : OpR X (binaryOp .Mult) (rI IntMulOk fun i j => .int (i * j)) := opI fun _ _ _ _ _ _ _ hc q => mul_int q hc
def CFd (_ j : Int) : Prop := j ≠ 0 ∧ j.natAbs.log2 < 9000
theorem cfd {i j : Int} (b : Nat) (h : j ≠ 0) (hb : j.natAbs < 2 ^ b) (h0 : 0 < b) (h9 : b ≤ 9000) : CFd i j := ⟨h, Nat.lt_of_lt_of_le (PySem.Flt.log2_lt_of h0 hb) h9⟩
theorem op_fdivF : OpR X (binaryOp .FloorDiv) (rI CFd fun i j => .int (i.fdiv j)) := opI fun _ _ _ _ _ _ _ hc q => floordiv_int hc.1 q (.inl (PyProof.noPylong_of_log2 hc.2))
theorem cdivw {i j : Int} (b : Nat) (h : 0 < j) (hb : j.natAbs < 2 ^ b) (h0 : 0 < b) (h9 : b ≤ 9000) : CDivW i j := wide_div h hb h0 h9
def CPw (i j : Int) : Prop := 0 ≤ j ∧ (Builtin.Int.intBits i : Int) * j ≤ 2 ^ 27
theorem cpw {i j : Int} (b : Nat) (h : 0 ≤ j) (hb : i.natAbs < 2 ^ b) (hl : (b : Int) * j ≤ 134217728) : CPw i j := by
  refine ⟨h, ?_⟩
  have h1 := PyProof.Rows.intBits_le hb
  have h2 : (Builtin.Int.intBits i : Int) * j ≤ (b : Int) * j := Int.mul_le_mul_of_nonneg_right (by omega) h
  have h3 : (2 : Int) ^ 27 = 134217728 := by decide
  omega
theorem op_powW : OpR X (binaryOp .Pow) (rI CPw fun i j => .int (i ^ j.toNat)) := opI fun _ _ _ _ _ _ _ hc q => pow_int hc.1 hc.2 q
theorem cshl {i : Int} {j : Int} (n : Nat) (h0 : 0 ≤ j) (h : i.natAbs < 2 ^ n) (hn : (n : Int) + j ≤ 134217728) : CShl i j := by
  have b := PyProof.Rows.intBits_le h
  have e : (2 : Int) ^ 27 = 134217728 := by decide
  refine ⟨h0, ?_⟩
  rw [e]
  omega
end

/-! ### repr of data -/
def rRepr (K : PySem.W.Frag) : List V → Hp → VK → Prop := fun xs H Q => ∃ x d, xs = [x] ∧ Dp K H x d ∧ d.showable = true ∧ d.hasDict = false ∧ d.depth ≤ 60 ∧ d.shown.length ≤ sizeLine ∧ Q (.str d.shown) H
theorem call_reprD {X : Cx} {k : Nat} (hg : X.A.guards = some []) (hr : Room k X.A) : CallR X (.builtin "repr") (rRepr X.K) := by
  intro pins s σ H xs us Q I r h
  obtain ⟨x, d, rfl, hd, hs, hn, hdp, hz, q⟩ := h
  cases r with
  | @cons _ u _ ur rx rr =>
    cases rr
    have fin : ∀ (hh : Heap) (tk : Tok) (u' : Tok), (∀ b o, s.heap.get? b = some o → hh.get? b = some o) → EP X pins σ Q (.str d.shown u') { s with heap := hh, toks := tk } :=
      fun hh tk u' hk => ⟨.str d.shown, H, I.kept hk, ⟨_, rfl⟩, q⟩
    cases hd with
    | non =>
      obtain rfl : u = Value.none := rx
      exact P.repr_of_none (fin _ _ _ fun _ _ z => z)
    | bl b =>
      obtain rfl : u = Value.bool b := rx
      exact P.repr_of_bool (fin _ _ _ fun _ _ z => z)
    | int i =>
      obtain ⟨t, rfl⟩ := rx
      exact P.repr_of_int (of_decide_eq_true hs) (fin _ _ _ fun _ _ z => z)
    | str y =>
      obtain ⟨t, rfl⟩ := rx
      exact P.repr_of_str (fin _ _ _ fun _ _ z => z) hz
    | lst hl ha =>
      obtain ⟨as, rd⟩ := Dp.reads I _ _ u (.lst hl ha) rx
      obtain rfl := rx
      exact repr_of_reads' rd hs (PyData.noDict_hsm hn) hg (by have := hr.un; omega) (fun _ _ z => z) (fun h' u' tk hk => fin h' tk u' hk) hz
    | tup hl ha =>
      obtain ⟨as, rd⟩ := Dp.reads I _ _ u (.tup hl ha) rx
      obtain rfl := rx
      exact repr_of_reads' rd hs (PyData.noDict_hsm hn) hg (by have := hr.un; omega) (fun _ _ z => z) (fun h' u' tk hk => fin h' tk u' hk) hz

/-! ### defs that must know that no repr is under way -/
structure FnG (P : Program) (w : World) (K : PySem.W.Frag) (mg : Str → Option Value) (base : Heap) (CX : CXT) (k : Nat) (f : Addr) (fd : FuncData) (ps : List Str) (sp : Sp) : Prop where
  ln : ∀ vs H Q E, sp vs H Q E → vs.length = ps.length
  go : ∀ (A : Around) (outer : List Env) (s : Shared) (H : Hp) (args : Args) (us : List Value) (vs : List V) (Q : VK) (E : XK), A.guards = some [] → Room k A → Env0 P w K mg base A outer s H →
    BindsTo s fd args (ps.zip us) → Vals vs us → sp vs H Q E → codeAny (model P w) A (.call (.ref f) args) (CR CX outer P w H s Q E) s
section
variable {P : Program} {w : World} {K : PySem.W.Frag} {mg : Str → Option Value} {base : Heap} {CX : CXT}
theorem FnG.of {k : Nat} {f : Addr} {fd : FuncData} {ps : List Str} {sp : Sp} (F : FnOk P w K mg base CX k f fd ps sp) : FnG P w K mg base CX k f fd ps sp :=
  ⟨F.len, fun A o s H args us vs Q E _ hr => F.run A o s H args us vs Q E hr⟩
theorem FnG.mono {j k : Nat} {f : Addr} {fd : FuncData} {ps : List Str} {sp : Sp} (F : FnG P w K mg base CX j f fd ps sp) (h : j ≤ k) : FnG P w K mg base CX k f fd ps sp :=
  ⟨F.ln, fun A o s H args us vs Q E g hr => F.go A o s H args us vs Q E g (hr.mono h)⟩
/-- a def by its body, the guards told -/
theorem FunD_okG {x qual : Str} {pa : Arguments} {bd : List Stmt} {sc : Scope} {dvs : List V} {kws : List (Str × V)} {f : Addr} {fd : FuncData} {N ps : List Str} {k : Nat} {sp : Sp} (F : FunD K x qual pa bd sc dvs kws f fd) (S : FnScope N ps sc)
    (len : ∀ vs H Q E, sp vs H Q E → vs.length = ps.length)
    (hbody : ∀ (cdv : Value) (A : Around) (outer : List Env) (s : Shared) (H : Hp) (vs : List V) (Q : VK) (E : XK), (A.deeper (envOfC qual sc s.heap.objs.size f cdv)).guards = some [] →
      Room k (A.deeper (envOfC qual sc s.heap.objs.size f cdv)) → sp vs H Q E →
      ∃ t, PSs (cxOf CX P w K mg base N qual sc f cdv A outer s H E) bd t ∧ t { nx := fun _ H' => Q .non H', rt := Q } (start N vs) H) : FnG P w K mg base CX (k + 1) f fd ps sp := by
  obtain ⟨oc, od, dV, kV, doc, pm, an, cdv, ct, osl, rfl, lk, hcd, _, _⟩ := F.ex
  constructor
  · exact len
  · intro A outer s H args us vs Q E gd hr e0 hb rv hsp
    have KS : K.In s.heap := e0.mod.kin.keeps (fun b o z => (e0.bs b o z).1)
    have nolim : s.heap.NoLimit := e0.mod.nolimit.keeps (fun b o z => (e0.bs b o z).1)
    refine codeAny_call_function hr.depth (KS _ _ lk) rfl S.co S.gen rfl (PySem.W.codeRec_of KS hcd) (hb _ _ _ _ ?_)
    refine wpAny_newFunctionEnv_cells S.kind ?_ ?_
    · rintro ⟨nm, val⟩ hm
      have hp := (List.of_mem_zip hm).1
      rcases S.par nm hp with q | q
      · left
        exact q
      · right
        exact ⟨q, PySem.W.cellsFrom_some _ _ _ (.inl q)⟩
    · intro env he s1 xc
      subst he
      refine ⟨nolim.keeps xc.toInCall.keep, codeAny_func ?_⟩
      obtain ⟨t, ht, hq⟩ := hbody cdv A outer s H vs Q E gd (hr.deeper _) hsp
      have J := inv_start (CX := CX) (E := E) S hr.hd e0 (len _ _ _ _ hsp) rv xc
      refine wpAny_mono (ht.run [] s1 (start N vs) H _ J hq) ?_ (fun _ _ z => z)
      intro fl s' hs
      cases fl with
      | brk =>
        obtain ⟨_, _, _, z⟩ := hs
        exact z.elim
      | cont =>
        obtain ⟨_, _, _, z⟩ := hs
        exact z.elim
      | next =>
        obtain ⟨σ', H', I', q⟩ := hs
        exact ⟨V.non, H', I'.os, I'.bare, I'.base, I'.hok, rfl, q⟩
      | ret u =>
        obtain ⟨v, σ', H', I', ru, q⟩ := hs
        exact ⟨v, H', I'.os, I'.bare, I'.base, I'.hok, ru, q⟩
end
section
variable {X : Cx} {CX : CXT} {k : Nat} {f : Addr} {fd : FuncData} {ps : List Str} {sp : Sp} {E : XK} {x : Str} {p pos : Pos} {e : Expr} {es : List Expr} {t : TA}
/-- a call of such a def, every parameter written -/
theorem pe_callG (F : FnG X.prog X.w X.K X.mg X.base CX k f fd ps sp) (gd : X.A.guards = some []) (hr : Room k X.A) (hg : Gl X x) (hm : X.mg x = some (.ref f)) (hk : PySem.W.keepIn X.K (.ref f) = true) (hb : Binds X.K fd ps [])
    (hx : Passes CX X E) (ha : PA X (e :: es) t) (hdb : (x == ("__debug__" : Str)) = false := by decide) (he : starEach (e :: es) X.env = (false, eval e X.env) :: starEach es X.env := by rfl)
    (hpl : (backTo pos (starEach es X.env)).any (·.1) = false := by rfl) : PE X (.Call (.Name x p) (e :: es) [] pos) (tCall sp [] E t) := by
  constructor
  intro pins s σ H Q I h
  refine wpAny_Call_Name_kw (ld_glob I hg hm ?_ hdb)
  refine PySem.W.callWith_K (h₀ := X.base) I.ok.mod.kin hk (thn (ha.run pos pins s σ H _ I h) ?_) he hpl
  rintro us s1 ⟨vs, H1, I1, r, q⟩
  rw [List.append_nil] at q
  have hl : us.length = ps.length := r.length.symm.trans (F.ln _ _ _ _ q)
  have bb := hb s1 us I1.kIn (by rw [List.append_nil]; exact hl)
  rw [List.append_nil] at bb
  refine ⟨I1.kIn, wpAny_call (codeAny_mono (F.go X.A X.stack s1 H1 ⟨us, []⟩ us vs Q E gd hr I1.env0 bb r q) ?_)⟩
  intro rs s2 hq
  cases rs with
  | error er => exact hx pins σ H1 s1 er s2 I1 hq
  | ok fl =>
    cases fl with
    | ret u => exact I1.after hq
    | next => exact hq.elim
    | brk => exact hq.elim
    | cont => exact hq.elim
end
end Bs

namespace Bs
open PySem PySem.Spec PySem.Calls PyProof.Rows L2
/-- the built-in names that the text's top leaves alone -/
structure Bi (mg : Str → Option Value) : Prop where
  abs : mg "abs" = none
  len : mg "len" = none
  max : mg "max" = none
  min : mg "min" = none
  int : mg "int" = none
  range : mg "range" = none
  isinstance : mg "isinstance" = none
  repr : mg "repr" = none
  tuple : mg "tuple" = none
  sum : mg "sum" = none
  enumerate : mg "enumerate" = none
  zip : mg "zip" = none
  sorted : mg "sorted" = none
  set : mg "set" = none
  str : mg "str" = none
  divmod : mg "divmod" = none
  any : mg "any" = none
  all : mg "all" = none
  list : mg "list" = none
  bool : mg "bool" = none
  ValueError : mg "ValueError" = none
  TypeError : mg "TypeError" = none
  dict : mg "dict" = none
  next : mg "next" = none
/-- a def by its name and promise -/
structure Fo (P : Program) (w : World) (K : PySem.W.Frag) (mg : Str → Option Value) (base : Heap) (CX : CXT) (k : Nat) (x : Str) (ps : List Str) (sp : Sp) : Prop where
  ex : ∃ (f : Addr) (fd : FuncData), FnOk P w K mg base CX k f fd ps sp ∧ mg x = some (.ref f) ∧ PySem.W.keepIn K (.ref f) = true ∧ Binds K fd ps []
structure FoG (P : Program) (w : World) (K : PySem.W.Frag) (mg : Str → Option Value) (base : Heap) (CX : CXT) (k : Nat) (x : Str) (ps : List Str) (sp : Sp) : Prop where
  ex : ∃ (f : Addr) (fd : FuncData), FnG P w K mg base CX k f fd ps sp ∧ mg x = some (.ref f) ∧ PySem.W.keepIn K (.ref f) = true ∧ Binds K fd ps []
section
variable {X : Cx} {CX : CXT} {j k : Nat} {ps : List Str} {sp : Sp} {E : XK} {x : Str} {p pos : Pos} {e : Expr} {es : List Expr} {t : TA}
theorem pe_fo (c : Fo X.prog X.w X.K X.mg X.base CX0 k x ps sp) (hr : Room j X.A) (hk : k ≤ j) (ha : PA X (e :: es) t) (hg : Gl X x := by rfl) (hdb : (x == ("__debug__" : Str)) = false := by decide)
    (he : starEach (e :: es) X.env = (false, eval e X.env) :: starEach es X.env := by rfl) (hpl : (backTo pos (starEach es X.env)).any (·.1) = false := by rfl) : PE X (.Call (.Name x p) (e :: es) [] pos) (tCall sp [] E0 t) := by
  obtain ⟨f, fd, F, hm, kp, hb⟩ := c.ex
  exact pe_call F (hr.mono hk) hg hm kp hb .nil pass0 ha hdb he hpl
theorem pe_foX (c : Fo X.prog X.w X.K X.mg X.base (L2.CX X.prog X.w) k x ps sp) (hr : Room j X.A) (hk : k ≤ j) (ha : PA X (e :: es) t) (hg : Gl X x := by rfl) (hdb : (x == ("__debug__" : Str)) = false := by decide)
    (he : starEach (e :: es) X.env = (false, eval e X.env) :: starEach es X.env := by rfl) (hpl : (backTo pos (starEach es X.env)).any (·.1) = false := by rfl) : PE X (.Call (.Name x p) (e :: es) [] pos) (tCall sp [] E0 t) := by
  obtain ⟨f, fd, F, hm, kp, hb⟩ := c.ex
  exact pe_call F (hr.mono hk) hg hm kp hb .nil passL ha hdb he hpl
theorem pe_foG (c : FoG X.prog X.w X.K X.mg X.base CX0 k x ps sp) (gd : X.A.guards = some []) (hr : Room j X.A) (hk : k ≤ j) (ha : PA X (e :: es) t) (hg : Gl X x := by rfl) (hdb : (x == ("__debug__" : Str)) = false := by decide)
    (he : starEach (e :: es) X.env = (false, eval e X.env) :: starEach es X.env := by rfl) (hpl : (backTo pos (starEach es X.env)).any (·.1) = false := by rfl) : PE X (.Call (.Name x p) (e :: es) [] pos) (tCall sp [] E0 t) := by
  obtain ⟨f, fd, F, hm, kp, hb⟩ := c.ex
  exact pe_callG F gd (hr.mono hk) hg hm kp hb pass0 ha hdb he hpl
end
end Bs

set_option Elab.async false
set_option linter.all false
set_option maxRecDepth 100000
set_option maxHeartbeats 2000000
/-! Reading lemmas: one for each combinator, main continuation last; and the tactic that walks them. -/
namespace Bs
open PySem PySem.Spec PyProof.Rows L2
section
variable {σ : L2.St} {H : Hp} {Q : VK} {D : Ends} {K : PySem.W.Frag}
theorem r_var {i : Nat} {v : V} (h : σ[i]? = some (some v)) (k : Q v H) : tVar i σ H Q := ⟨v, h, k⟩
theorem r_c {v : V} (k : Q v H) : tC v σ H Q := k
theorem r_op {r : R2} {ta tb : TE} (k : ta σ H fun x H1 => tb σ H1 fun y H2 => r x y H2 Q) : tOp r ta tb σ H Q := k
theorem r_un {r : V → Hp → VK → Prop} {ta : TE} (k : ta σ H fun x H1 => r x H1 Q) : tUn r ta σ H Q := k
theorem r_test {t : TE} {Q : Bool → Hp → Prop} (k : t σ H fun x H' => ∃ b, x = .bl b ∧ Q b H') : tTest t σ H Q := k
theorem r_tB {t : TE} {Q : Bool → Hp → Prop} (k : t σ H fun x H' => ∃ b, x = .bl b ∧ Q b H') : tB t σ H Q := k
theorem r_isbl {b : Bool} {Q : Bool → Prop} (k : Q b) : ∃ c, V.bl b = .bl c ∧ Q c := ⟨b, rfl, k⟩
theorem r_and {t u : TT} {Q : Bool → Hp → Prop} (k : t σ H fun c H1 => if c = true then u σ H1 Q else Q false H1) : tAnd t u σ H Q := k
theorem r_or {t u : TT} {Q : Bool → Hp → Prop} (k : t σ H fun c H1 => if c = true then Q true H1 else u σ H1 Q) : tOr t u σ H Q := k
theorem r_not {t : TT} {Q : Bool → Hp → Prop} (k : t σ H fun c H1 => Q (!c) H1) : tNot t σ H Q := k
theorem r_andV {ta tb : TE} (k : ta σ H fun x H1 => ∃ c, x = .bl c ∧ if c = true then tb σ H1 Q else Q (.bl false) H1) : tAndV ta tb σ H Q := k
theorem r_orV {ta tb : TE} (k : ta σ H fun x H1 => ∃ c, x = .bl c ∧ if c = true then Q (.bl true) H1 else tb σ H1 Q) : tOrV ta tb σ H Q := k
theorem r_notV {ta : TE} (k : ta σ H fun x H1 => ∃ c, x = .bl c ∧ Q (.bl (!c)) H1) : tNotV ta σ H Q := k
theorem r_if {t : TT} {ta tb : TE} (k : t σ H fun c H1 => if c = true then ta σ H1 Q else tb σ H1 Q) : tIf t ta tb σ H Q := k
theorem r_isN {ta : TE} (k : ta σ H fun x H1 => Q (.bl (decide (x = .non))) H1) : tIsN ta σ H Q := k
theorem r_notN {ta : TE} (k : ta σ H fun x H1 => Q (.bl (!decide (x = .non))) H1) : tNotN ta σ H Q := k
theorem r_nil {Q : List V → Hp → Prop} (k : Q [] H) : tNil σ H Q := k
theorem r_cons {ta : TE} {tr : TA} {Q : List V → Hp → Prop} (k : ta σ H fun x H1 => tr σ H1 fun xs H2 => Q (x :: xs) H2) : tCons ta tr σ H Q := k
def cTup (Q : VK) (xs : List V) (H : Hp) : Prop := xs.length ≤ sizeLine ∧ ∀ p, H p = none → Q (.ref p) (upd H p (.tup xs))
def cLst (Q : VK) (xs : List V) (H : Hp) : Prop := xs.length ≤ sizeLine ∧ ∀ p, H p = none → Q (.ref p) (upd H p (.lst xs))
theorem r_tup {t : TA} (k : t σ H (cTup Q)) : tTup t σ H Q := k
theorem r_lst {t : TA} (k : t σ H (cLst Q)) : tLst t σ H Q := k
theorem r_small {n : Nat} {A : Prop} (h : n ≤ 100 := by decide) (k : A) : n ≤ sizeLine ∧ A := ⟨Nat.le_trans h (by decide), k⟩
theorem r_CB {r : List V → Hp → VK → Prop} {t : TA} (k : t σ H fun vs H1 => r vs H1 Q) : tCB r t σ H Q := k
theorem r_call {sp : Sp} {dvs : List V} {E : XK} {t : TA} (k : t σ H fun vs H1 => sp (vs ++ dvs) H1 Q E) : tCall sp dvs E t σ H Q := k
theorem r_meth {C : Addr} {m : Str} {sp : Sp} {dvs : List V} {E : XK} {ta : TE} {t : TA} (k : ta σ H fun x H1 => ∃ a dx fs, x = .ref a ∧ H1 a = some (.ins C dx fs) ∧ fs.lookup m = none ∧ t σ H1 fun vs H2 => sp (x :: (vs ++ dvs)) H2 Q E) : tMeth C m sp dvs E ta t σ H Q := k
theorem r_prop {C : Addr} {sp : Sp} {dvs : List V} {E : XK} {ta : TE} (k : ta σ H fun x H1 => ∃ a dx fs, x = .ref a ∧ H1 a = some (.ins C dx fs) ∧ sp (.ref a :: dvs) H1 Q E) : tProp C sp dvs E ta σ H Q := k
theorem r_make {C : Addr} {sp : Sp} {dvs : List V} {E : XK} {t : TA} (k : t σ H fun vs H1 => ∀ x dx, H1 x = none → H1 dx = none → dx ≠ x → sp (.ref x :: (vs ++ dvs)) (upd (upd H1 dx (.own x)) x (.ins C dx [])) (fun v H2 => v = .non ∧ Q (.ref x) H2) E) : tMake C sp dvs E t σ H Q := k
def cGf (K : PySem.W.Frag) (f : Str) (Q : VK) (x : V) (H1 : Hp) : Prop := ∃ a C dx fs v, x = .ref a ∧ H1 a = some (.ins C dx fs) ∧ Cls K C ∧ NoAttr K C f ∧ fs.lookup f = some v ∧ Q v H1
theorem r_fld {ta : TE} {f : Str} (k : ta σ H (cGf K f Q)) : tFld K ta f σ H Q := k
/-! statements -/
theorem r_seq {t u : TS} (k : t { D with nx := u D } σ H) : tSeq t u D σ H := k
theorem r_cut {t u : TS} (M : L2.St → Hp → Prop) (h : t { D with nx := M } σ H) (k : ∀ σ' H', M σ' H' → u D σ' H') : C8.tCut t u D σ H := ⟨M, h, k⟩
theorem r_next (k : D.nx σ H) : tNext D σ H := k
theorem r_asgN {te : TE} {i : Nat} (k : te σ H fun x H1 => D.nx (σ.set i (some x)) H1) : tAsg te (gName i) D σ H := k
theorem r_asgT {te : TE} {n : Nat} {g : TGs} (k : te σ H fun x H1 => gTup K n g x σ H1 D.nx) : tAsg te (gTup K n g) D σ H := k
theorem r_asgS {te to ti : TE} {t : TSet} (k : te σ H fun x H1 => to σ H1 fun o H2 => ti σ H2 fun i H3 => t o i x H3 fun H4 => D.nx σ H4) : tAsg te (gSub to ti t) D σ H := k
theorem r_par {i j : Nat} {ta : TA} (k : ta σ H fun vs H1 => ∃ v w, vs = [v, w] ∧ D.nx ((σ.set i (some v)).set j (some w)) H1) : tPar i j ta D σ H := k
theorem r_par3 {i j l : Nat} {ta : TA} (k : ta σ H fun vs H1 => ∃ v w u, vs = [v, w, u] ∧ D.nx (((σ.set i (some v)).set j (some w)).set l (some u)) H1) : tPar3 i j l ta D σ H := k
theorem r_tri {v w u : V} {A : V → V → V → Prop} (k : A v w u) : ∃ x y z, [v, w, u] = [x, y, z] ∧ A x y z := ⟨v, w, u, rfl, k⟩
theorem r_drop {te : TE} (k : te σ H fun _ H1 => D.nx σ H1) : tDrop te D σ H := k
theorem r_ret {te : TE} (k : te σ H D.rt) : tRet te D σ H := k
theorem r_retN (k : D.rt .non H) : tRetN D σ H := k
theorem r_ifS {c : TT} {t u : TS} (k : c σ H fun b H1 => if b = true then t D σ H1 else u D σ H1) : tIfS c t u D σ H := k
theorem r_pair {v w : V} {A : V → V → Prop} (k : A v w) : ∃ x y, [v, w] = [x, y] ∧ A x y := ⟨v, w, rfl, k⟩
/-! values -/
theorem r_I0 {g : Int → Int → V} {i j : Int} (k : Q (g i j) H) : rI0 g (.int i) (.int j) H Q := ⟨i, j, rfl, rfl, k⟩
theorem r_I {C : Int → Int → Prop} {g : Int → Int → V} {i j : Int} (c : C i j) (k : Q (g i j) H) : rI C g (.int i) (.int j) H Q := ⟨i, j, rfl, rfl, c, k⟩
theorem r_U {g : Int → V} {i : Int} (k : Q (g i) H) : rU g (.int i) H Q := ⟨i, rfl, k⟩
theorem r_eq {x y : V} (s : scal x y = true) (k : Q (.bl (decide (x = y))) H) : rEq x y H Q := ⟨s, k⟩
theorem r_ne {x y : V} (s : scal x y = true) (k : Q (.bl (!decide (x = y))) H) : rNe x y H Q := ⟨s, k⟩
theorem r_ixL {p : Addr} {xs : List V} {i : Int} {v : V} (h : SqL K H p xs) (a : atI xs i = some v) (k : Q v H) : rIxL K (.ref p) (.int i) H Q := ⟨p, xs, i, v, rfl, rfl, h, a, k⟩
theorem r_ixT {p : Addr} {xs : List V} {i : Int} {v : V} (h : SqT K H p xs) (a : atI xs i = some v) (k : Q v H) : rIxT K (.ref p) (.int i) H Q := ⟨p, xs, i, v, rfl, rfl, h, a, k⟩
theorem r_setL {p : Addr} {xs : List V} {i : Int} {j : Nat} {v : V} {R : Hp → Prop} (h : H p = some (.lst xs)) (a : ixN xs.length i = some j) (k : R (upd H p (.lst (xs.set j v)))) : rSetL (.ref p) (.int i) v H R := ⟨p, xs, i, j, rfl, rfl, h, a, k⟩
/-! branches -/
theorem i_tt {A B : Prop} (k : A) : if true = true then A else B := iteT k
theorem i_ff {A B : Prop} (k : B) : if false = true then A else B := iteF k
theorem i_int {a b : Int} {A B : Prop} (h1 : a = b → A) (h2 : a ≠ b → B) : if decide (V.int a = V.int b) = true then A else B := by
  by_cases h : a = b
  · rw [if_pos (by rw [h]; simp)]; exact h1 h
  · rw [if_neg (by simpa using h)]; exact h2 h
theorem i_intN {a b : Int} {A B : Prop} (h1 : a ≠ b → A) (h2 : a = b → B) : if (!decide (V.int a = V.int b)) = true then A else B := by
  by_cases h : a = b
  · rw [if_neg (by rw [h]; simp)]; exact h2 h
  · rw [if_pos (by simpa using h)]; exact h1 h
theorem i_str {a b : Str} {A B : Prop} (h1 : a = b → A) (h2 : a ≠ b → B) : if decide (V.str a = V.str b) = true then A else B := by
  by_cases h : a = b
  · rw [if_pos (by rw [h]; simp)]; exact h1 h
  · rw [if_neg (by simpa using h)]; exact h2 h
theorem i_strN {a b : Str} {A B : Prop} (h1 : a ≠ b → A) (h2 : a = b → B) : if (!decide (V.str a = V.str b)) = true then A else B := by
  by_cases h : a = b
  · rw [if_neg (by rw [h]; simp)]; exact h2 h
  · rw [if_pos (by simpa using h)]; exact h1 h
theorem i_dec {p : Prop} [Decidable p] {A B : Prop} (h1 : p → A) (h2 : ¬ p → B) : if decide p = true then A else B := by
  by_cases h : p
  · rw [if_pos (decide_eq_true h)]; exact h1 h
  · rw [if_neg (by simpa using h)]; exact h2 h
theorem i_decN {p : Prop} [Decidable p] {A B : Prop} (h1 : ¬ p → A) (h2 : p → B) : if (!decide p) = true then A else B := by
  by_cases h : p
  · rw [if_neg (by simpa using h)]; exact h2 h
  · rw [if_pos (by simpa using h)]; exact h1 h
theorem i_non {v : V} {A B : Prop} (h : v ≠ .non) (k : B) : if decide (v = V.non) = true then A else B := by
  rw [if_neg (by simpa using h)]; exact k
theorem i_nonT {A B : Prop} (k : A) : if decide (V.non = V.non) = true then A else B := iteT k
/-- while: W a word of the measure, the slots and the heap -/
theorem r_while {c : TT} {tb : TS} (W : Nat → L2.St → Hp → Prop) (m : Nat) (h0 : W m σ H) (hs : ∀ m σ H, W m σ H → c σ H fun b H1 => if b = true then ∃ N : L2.St → Hp → Prop, (∀ σ' H', N σ' H' → ∃ m', m' < m ∧ W m' σ' H') ∧ tb { D with nx := N, ct := N, bk := D.nx } σ H1 else D.nx σ H1) :
    tWhile c tb D σ H := ⟨W, ⟨m, h0⟩, hs⟩
theorem r_turn {W : Nat → L2.St → Hp → Prop} {m : Nat} {tb : TS} (k : tb { D with nx := fun σ' H' => ∃ m', m' < m ∧ W m' σ' H', ct := fun σ' H' => ∃ m', m' < m ∧ W m' σ' H', bk := D.nx } σ H) :
    ∃ N : L2.St → Hp → Prop, (∀ σ' H', N σ' H' → ∃ m', m' < m ∧ W m' σ' H') ∧ tb { D with nx := N, ct := N, bk := D.nx } σ H := ⟨_, fun _ _ h => h, k⟩
end
/-! built-in calls by name -/
def rAbs : List V → Hp → VK → Prop := fun xs H Q => ∃ i, xs = [.int i] ∧ Q (.int (i.natAbs : Int)) H
theorem cb_abs {X : Cx} : CallR X (.builtin "abs") rAbs := fun pins s σ H xs us Q I r ⟨i, e, q⟩ => call_abs pins s σ H xs us Q I r ⟨i, e, by
  have : (if i < 0 then -i else i) = (i.natAbs : Int) := by split <;> omega
  rw [this]; exact q⟩
theorem r_abs {H : Hp} {Q : VK} {i : Int} (k : Q (.int (i.natAbs : Int)) H) : rAbs [.int i] H Q := ⟨i, rfl, k⟩
def rInt1 : List V → Hp → VK → Prop := fun xs H Q => (∃ i, xs = [.int i] ∧ Q (.int i) H) ∨ ∃ k, xs = [.bl k] ∧ Q (.int (if k then 1 else 0)) H
theorem cb_int1 {X : Cx} : CallR X (.type "int") rInt1 := call_int1
theorem r_int1 {H : Hp} {Q : VK} {i : Int} (k : Q (.int i) H) : rInt1 [.int i] H Q := .inl ⟨i, rfl, k⟩
theorem r_int1b {H : Hp} {Q : VK} {b : Bool} (k : Q (.int (if b then 1 else 0)) H) : rInt1 [.bl b] H Q := .inr ⟨b, rfl, k⟩
def rMax2 : List V → Hp → VK → Prop := fun xs H Q => ∃ i j, xs = [.int i, .int j] ∧ Q (.int (max i j)) H
def rMin2 : List V → Hp → VK → Prop := fun xs H Q => ∃ i j, xs = [.int i, .int j] ∧ Q (.int (min i j)) H
theorem cb_max2 {X : Cx} (hc : X.calm = true) : CallR X (.builtin "max") rMax2 := fun pins s σ H xs us Q I r ⟨i, j, e, q⟩ => call_max2 hc pins s σ H xs us Q I r ⟨i, j, e, by
  have : (if j > i then j else i) = max i j := by split <;> omega
  rw [this]; exact q⟩
theorem cb_min2 {X : Cx} (hc : X.calm = true) : CallR X (.builtin "min") rMin2 := fun pins s σ H xs us Q I r ⟨i, j, e, q⟩ => call_min2 hc pins s σ H xs us Q I r ⟨i, j, e, by
  have : (if j < i then j else i) = min i j := by split <;> omega
  rw [this]; exact q⟩
theorem r_max2 {H : Hp} {Q : VK} {i j : Int} (k : Q (.int (max i j)) H) : rMax2 [.int i, .int j] H Q := ⟨i, j, rfl, k⟩
theorem r_min2 {H : Hp} {Q : VK} {i j : Int} (k : Q (.int (min i j)) H) : rMin2 [.int i, .int j] H Q := ⟨i, j, rfl, k⟩
def rLenS (K : PySem.W.Frag) : List V → Hp → VK → Prop := fun xs H Q => ∃ p ys, xs = [.ref p] ∧ (SqL K H p ys ∨ SqT K H p ys) ∧ Q (.int ys.length) H
theorem cb_len {X : Cx} : CallR X (.builtin "len") (rLenS X.K) := call_len_seq
theorem r_lenL {K : PySem.W.Frag} {H : Hp} {Q : VK} {p : Addr} {ys : List V} (h : SqL K H p ys) (k : Q (.int ys.length) H) : rLenS K [.ref p] H Q := ⟨p, ys, rfl, .inl h, k⟩
theorem r_lenT {K : PySem.W.Frag} {H : Hp} {Q : VK} {p : Addr} {ys : List V} (h : SqT K H p ys) (k : Q (.int ys.length) H) : rLenS K [.ref p] H Q := ⟨p, ys, rfl, .inr h, k⟩
theorem sqT_same {K : PySem.W.Frag} {H H' : Hp} {a : Addr} {xs : List V} (e : Same H H') (h : SqT K H a xs) : SqT K H' a xs := by
  rcases h with (h | ⟨o, h⟩) | h
  · exact .inl (.inl (e _ _ h))
  · exact .inl (.inr ⟨o, e _ _ h⟩)
  · exact .inr h
/-! ends -/
theorem r_rt {n b c : L2.St → Hp → Prop} {Q : VK} {v : V} {H : Hp} (k : Q v H) : (Ends.mk n Q b c).rt v H := k
theorem r_nx {n b c : L2.St → Hp → Prop} {Q : VK} {v : L2.St} {H : Hp} (k : n v H) : (Ends.mk n Q b c).nx v H := k
theorem r_bk {n b c : L2.St → Hp → Prop} {Q : VK} {v : L2.St} {H : Hp} (k : b v H) : (Ends.mk n Q b c).bk v H := k
theorem r_ct {n b c : L2.St → Hp → Prop} {Q : VK} {v : L2.St} {H : Hp} (k : c v H) : (Ends.mk n Q b c).ct v H := k
theorem at_map {ns : List Int} {k : Nat} (h : k < ns.length) : atI (ns.map V.int) (k : Int) = some (.int ns[k]) := atI_nat (by simp [h])
end Bs

set_option Elab.async false
set_option linter.all false
set_option maxRecDepth 100000
set_option maxHeartbeats 2000000
/-! Calls of defs and classes with any binding of arguments; what is raised is wished for at the caller's slots. -/
namespace Bs
open PySem PySem.Spec PySem.Calls PyProof.Rows L2
/-- how a call with n positional values and keywords ks binds -/
def Cb (K : PySem.W.Frag) (fd : FuncData) (ps : List Str) (n : Nat) (ks : List Str) (gV : List V → List V → List V) : Prop := ∃ g, KBn K fd ps n ks g gV
def tFnS (n m : Nat) (sp : Sp) (gV : List V → List V → List V) (E : L2.St → XK) (t tk : TA) : TE := fun σ H Q => t σ H fun vs H1 => tk σ H1 fun zs H2 => vs.length = n ∧ zs.length = m ∧ sp (gV vs zs) H2 Q (E σ)
def tMkS (C : Addr) (n m : Nat) (sp : Sp) (gV : List V → List V → List V) (E : L2.St → XK) (t tk : TA) : TE := fun σ H Q => t σ H fun vs H1 => tk σ H1 fun zs H2 => vs.length = n ∧ zs.length = m ∧
  ∀ x dx, H2 x = none → H2 dx = none → dx ≠ x → sp (gV (.ref x :: vs) zs) (upd (upd H2 dx (.own x)) x (.ins C dx [])) (fun v H3 => v = .non ∧ Q (.ref x) H3) (E σ)
theorem psE0 {X : Cx} {σ : L2.St} : PassesAt CX0 X σ E0 := fun _ _ _ _ _ _ h => h.elim
theorem psL0 {X : Cx} {σ : L2.St} : PassesAt (L2.CX X.prog X.w) X σ E0 := fun pins H s e s' I c => passL pins σ H s e s' I c
section
variable {X : Cx} {CX : CXT} {k n : Nat} {f C : Addr} {fd : FuncData} {ps ks : List Str} {sp : Sp} {E : L2.St → XK} {x : Str} {p pos : Pos} {e : Expr} {es : List Expr} {kws : List Keyword} {t tk : TA} {gV : List V → List V → List V}
theorem go_fn {pins : List (Addr × Obj)} {σ : L2.St} {H : Hp} {s : Shared} {Q : VK} {us ws : List Value} {vs zs : List V} (F : FnOk X.prog X.w X.K X.mg X.base CX k f fd ps sp) (hr : Room k X.A) (hb : Cb X.K fd ps n ks gV) (hx : PassesAt CX X σ (E σ))
    (I : Inv X pins σ H s) (r : Vals vs us) (rz : Vals zs ws) (l1 : vs.length = n) (l2 : zs.length = ks.length) (h : sp (gV vs zs) H Q (E σ)) : wpAny (model X.prog X.w) X.A (call (.ref f) us (ks.zip ws)) (EP X pins σ Q) X.xe s := by
  obtain ⟨g, hb⟩ := hb
  have bt := hb.to s us ws I.kIn (by rw [← r.length, l1]) (by rw [← rz.length, l2])
  apply wpAny_call
  apply codeAny_mono (F.run X.A X.stack s H ⟨us, ks.zip ws⟩ (g us ws) (gV vs zs) Q (E σ) hr I.env0 bt (hb.rel r rz) h)
  intro rs s2 q
  cases rs with
  | error er => exact hx pins H s er s2 I q
  | ok fl =>
    cases fl with
    | ret u => exact I.after q
    | next => exact q.elim
    | brk => exact q.elim
    | cont => exact q.elim
theorem go_mk {pins : List (Addr × Obj)} {σ : L2.St} {H : Hp} {s : Shared} {Q : VK} {us ws : List Value} {vs zs : List V} (M : Mk X.K C f) (F : FnOk X.prog X.w X.K X.mg X.base CX k f fd ps sp) (hr : Room (k + 1) X.A) (hb : Cb X.K fd ps (n + 1) ks gV)
    (hx : PassesAt CX X σ (E σ)) (I : Inv X pins σ H s) (r : Vals vs us) (rz : Vals zs ws) (l1 : vs.length = n) (l2 : zs.length = ks.length)
    (h : ∀ x dx, H x = none → H dx = none → dx ≠ x → sp (gV (.ref x :: vs) zs) (upd (upd H dx (.own x)) x (.ins C dx [])) (fun v H2 => v = .non ∧ Q (.ref x) H2) (E σ)) :
    wpAny (model X.prog X.w) X.A (call (.ref C) us (ks.zip ws)) (EP X pins σ Q) X.xe s := by
  obtain ⟨g, hb⟩ := hb
  have fr1 : H (s.heap.objs.size + 1) = none := I.hok.fresh (Nat.le_succ _)
  have fr0 : H s.heap.objs.size = none := I.hok.fresh (Nat.le_refl _)
  have hs := h _ _ fr1 fr0 (Nat.ne_of_lt (Nat.lt_succ_self _))
  have J := Inv.made (C := C) I
  have rv : Vals (V.ref (s.heap.objs.size + 1) :: vs) (Value.ref (s.heap.objs.size + 1) :: us) := .cons rfl r
  have bt := hb.to _ (Value.ref (s.heap.objs.size + 1) :: us) ws J.kIn (by rw [List.length_cons, ← r.length, l1]) (by rw [← rz.length, l2])
  have run := F.run _ X.stack _ _ ⟨Value.ref (s.heap.objs.size + 1) :: us, ks.zip ws⟩ _ _ _ (E σ) (hr.make C us (ks.zip ws)) (J.env0.make C us (ks.zip ws)) bt (hb.rel rv rz) hs
  apply wpAny_call
  apply make_map (f := f) I.kIn M.makes M.init (beq_iff_eq.mp M.fn)
  apply codeAny_mono run
  intro rs s2 q
  cases rs with
  | error er => exact hx pins _ _ er s2 J q
  | ok fl =>
    cases fl with
    | next => exact q.elim
    | brk => exact q.elim
    | cont => exact q.elim
    | ret u =>
      obtain ⟨v, H2, J2, ru, ev, q2⟩ := J.after q
      subst ev
      exact ⟨ru, V.ref (s.heap.objs.size + 1), H2, J2, rfl, q2⟩
/-- f(e, .., k = v, ..) -/
theorem pe_fnS (F : FnOk X.prog X.w X.K X.mg X.base CX k f fd ps sp) (hr : Room k X.A) (hm : X.mg x = some (.ref f)) (hk : PySem.W.keepIn X.K (.ref f) = true) (hb : Cb X.K fd ps n ks gV) (hx : ∀ σ, PassesAt CX X σ (E σ))
    (ha : PA X (e :: es) t) (hkw : PK X kws tk) (hg : Gl X x := by rfl) (hall : (backToKw pos (keywordEach kws X.env)).all (·.1.isSome) = true := by rfl) (hks : (backToKw pos (keywordEach kws X.env)).filterMap (·.1) = ks := by rfl)
    (hdb : (x == ("__debug__" : Str)) = false := by decide) (he : starEach (e :: es) X.env = (false, eval e X.env) :: starEach es X.env := by rfl)
    (hpl : ((backTo pos (starEach (e :: es) X.env)).any (·.1) || (backToKw pos (keywordEach kws X.env)).any (·.1.isNone)) = false := by rfl) :
    PE X (.Call (.Name x p) (e :: es) kws pos) (tFnS n ks.length sp gV E t tk) := by
  constructor
  intro pins s σ H Q I h
  apply wpAny_Call_Name_kw
  apply ld_glob I hg hm _ hdb
  refine PySem.W.callWith_KW (h₀ := X.base) I.ok.mod.kin hk hall (thn (ha.run pos pins s σ H _ I h) ?_) hpl he
  rintro us s1 ⟨vs, H1, I1, r, q⟩
  refine thn (hkw.run pos pins s1 σ H1 _ I1 q) ?_
  rintro ws s2 ⟨zs, H2, I2, rz, l1, l2, q2⟩
  refine ⟨I2.kIn, ?_⟩
  rw [hks]
  exact go_fn F hr hb (hx σ) I2 r rz l1 l2 q2
/-- f(k = v, ..) -/
theorem pe_fnS0 (F : FnOk X.prog X.w X.K X.mg X.base CX k f fd ps sp) (hr : Room k X.A) (hm : X.mg x = some (.ref f)) (hk : PySem.W.keepIn X.K (.ref f) = true) (hb : Cb X.K fd ps 0 ks gV) (hx : ∀ σ, PassesAt CX X σ (E σ))
    (hkw : PK X kws tk) (hg : Gl X x := by rfl) (hall : (backToKw pos (keywordEach kws X.env)).all (·.1.isSome) = true := by rfl) (hks : (backToKw pos (keywordEach kws X.env)).filterMap (·.1) = ks := by rfl)
    (hdb : (x == ("__debug__" : Str)) = false := by decide) (hpl : ((backTo pos (starEach [] X.env)).any (·.1) || (backToKw pos (keywordEach kws X.env)).any (·.1.isNone)) = false := by rfl) :
    PE X (.Call (.Name x p) [] kws pos) (tFnS 0 ks.length sp gV E tNil tk) := by
  constructor
  intro pins s σ H Q I h
  apply wpAny_Call_Name_kw
  apply ld_glob I hg hm _ hdb
  refine PySem.W.callWith_KW0 (h₀ := X.base) I.ok.mod.kin hk hall ?_ hpl
  refine thn (hkw.run pos pins s σ H _ I h) ?_
  rintro ws s2 ⟨zs, H2, I2, rz, l1, l2, q2⟩
  refine ⟨I2.kIn, ?_⟩
  rw [hks]
  exact go_fn (us := []) (vs := []) F hr hb (hx σ) I2 .nil rz rfl l2 q2
/-- C(e, .., k = v, ..) -/
theorem pe_mkS (M : Mk X.K C f) (F : FnOk X.prog X.w X.K X.mg X.base CX k f fd ps sp) (hr : Room (k + 1) X.A) (hm : X.mg x = some (.ref C)) (hb : Cb X.K fd ps (n + 1) ks gV) (hx : ∀ σ, PassesAt CX X σ (E σ)) (ha : PA X (e :: es) t) (hkw : PK X kws tk)
    (hg : Gl X x := by rfl) (hall : (backToKw pos (keywordEach kws X.env)).all (·.1.isSome) = true := by rfl) (hks : (backToKw pos (keywordEach kws X.env)).filterMap (·.1) = ks := by rfl)
    (hdb : (x == ("__debug__" : Str)) = false := by decide) (he : starEach (e :: es) X.env = (false, eval e X.env) :: starEach es X.env := by rfl)
    (hpl : ((backTo pos (starEach (e :: es) X.env)).any (·.1) || (backToKw pos (keywordEach kws X.env)).any (·.1.isNone)) = false := by rfl) :
    PE X (.Call (.Name x p) (e :: es) kws pos) (tMkS C n ks.length sp gV E t tk) := by
  constructor
  intro pins s σ H Q I h
  apply wpAny_Call_Name_kw
  apply ld_glob I hg hm _ hdb
  refine PySem.W.callWith_KW (h₀ := X.base) I.ok.mod.kin M.kp hall (thn (ha.run pos pins s σ H _ I h) ?_) hpl he
  rintro us s1 ⟨vs, H1, I1, r, q⟩
  refine thn (hkw.run pos pins s1 σ H1 _ I1 q) ?_
  rintro ws s2 ⟨zs, H2, I2, rz, l1, l2, q2⟩
  refine ⟨I2.kIn, ?_⟩
  rw [hks]
  exact go_mk M F hr hb (hx σ) I2 r rz l1 l2 q2
/-- C(k = v, ..) -/
theorem pe_mkS0 (M : Mk X.K C f) (F : FnOk X.prog X.w X.K X.mg X.base CX k f fd ps sp) (hr : Room (k + 1) X.A) (hm : X.mg x = some (.ref C)) (hb : Cb X.K fd ps (0 + 1) ks gV) (hx : ∀ σ, PassesAt CX X σ (E σ)) (hkw : PK X kws tk)
    (hg : Gl X x := by rfl) (hall : (backToKw pos (keywordEach kws X.env)).all (·.1.isSome) = true := by rfl) (hks : (backToKw pos (keywordEach kws X.env)).filterMap (·.1) = ks := by rfl)
    (hdb : (x == ("__debug__" : Str)) = false := by decide) (hpl : ((backTo pos (starEach [] X.env)).any (·.1) || (backToKw pos (keywordEach kws X.env)).any (·.1.isNone)) = false := by rfl) :
    PE X (.Call (.Name x p) [] kws pos) (tMkS C 0 ks.length sp gV E tNil tk) := by
  constructor
  intro pins s σ H Q I h
  apply wpAny_Call_Name_kw
  apply ld_glob I hg hm _ hdb
  refine PySem.W.callWith_KW0 (h₀ := X.base) I.ok.mod.kin M.kp hall ?_ hpl
  refine thn (hkw.run pos pins s σ H _ I h) ?_
  rintro ws s2 ⟨zs, H2, I2, rz, l1, l2, q2⟩
  refine ⟨I2.kIn, ?_⟩
  rw [hks]
  exact go_mk (us := []) (vs := []) M F hr hb (hx σ) I2 .nil rz rfl l2 q2
end
section
variable {K : PySem.W.Frag} {x qual : Str} {params : Arguments} {body : List Stmt} {scope : Scope} {dvs : List V} {f : Addr} {fd : FuncData} {ps : List Str}
/-- every parameter is written, by position or by keyword; whatever the defaults -/
theorem cb_all (F : FunD K x qual params body scope dvs [] f fd) (n : Nat) (ks : List Str) (g : {α : Type} → List α → List α → List α) (hrel : ∀ {vs zs : List V} {us ws : List Value}, Vals vs us → Vals zs ws → Vals (g vs zs) (g us ws))
    (h : ∀ (dV kV doc pm : Value) (an : Option Addr) (cdv ct : Value) (us ws : List Value), us.length = n → ws.length = ks.length → bindArgs (PySem.W.fnOf x qual params body scope dV kV doc pm an cdv ct) ⟨us, ks.zip ws⟩ = pure (ps.zip (g us ws))) : Cb K fd ps n ks g := by
  obtain ⟨oc, od, dV, kV, doc, pm, an, cdv, ct, osl, rfl, lk, hcd, hD, hK⟩ := F.ex
  refine ⟨g, ⟨fun s us ws X l1 l2 => ?_, fun r1 r2 => hrel r1 r2⟩⟩
  exact .of_eq (h dV kV doc pm an cdv ct us ws l1 l2)
/-- some of the defaults fill up -/
theorem cb_dfl (F : FunD K x qual params body scope dvs [] f fd) (n : Nat) (ks : List Str) (g : {α : Type} → List α → List α → List α → List α) (hd : dvs ≠ [])
    (hrel : ∀ {vs ds zs : List V} {us its ws : List Value}, Vals vs us → Vals ds its → Vals zs ws → Vals (g vs ds zs) (g us its ws))
    (h : ∀ (T : Addr) (kV doc pm : Value) (an : Option Addr) (cdv ct : Value) (us its ws : List Value), us.length = n → its.length = dvs.length → ws.length = ks.length →
      ∃ k, bindArgs (PySem.W.fnOf x qual params body scope (.ref T) kV doc pm an cdv ct) ⟨us, ks.zip ws⟩ = seqItems? (.ref T) >>= k ∧ k (some its.toArray) = pure (ps.zip (g us its ws))) : Cb K fd ps n ks (fun vs zs => g vs dvs zs) := by
  obtain ⟨its, hb⟩ := F.kbindsD n ks g hd hrel h
  exact ⟨_, hb⟩
end
end Bs

set_option Elab.async false
set_option linter.all false
set_option maxRecDepth 100000
set_option maxHeartbeats 2000000
/-! Own exception classes whose __init__ stores one value: raised, caught, asked. -/
namespace Bs
open PySem PySem.Spec PySem.Calls PyProof.Rows L2
/-- BitError.__init__: the value is stored itself -/
def sp_excInit (K : PySem.W.Frag) : Sp := fun vs H Q _ => ∃ (a C : Addr) (v : V), vs = [.ref a, v] ∧ OexC K C ∧ PySem.W.findIn K (.ref C) "value" = some none ∧ H a = some (exo a C none) ∧
  ∀ dx, H dx = none → dx ≠ a → Q .non (upd (upd H dx (exd dx [("value", v)])) a (exo a C (some dx)))
/-- what the written part tells of such a class -/
structure Xc (P : Program) (w : World) (K : PySem.W.Frag) (mg : Str → Option Value) (base : Heap) (x : Str) (C : Addr) : Prop where
  gC : mg x = some (.ref C)
  T : OexC K C
  nv : PySem.W.findIn K (.ref C) "value" = some none
  xf : XfC K C
  ec : ExcC K C
  ini : ∃ (fI : Addr) (fd : FuncData), PySem.W.findIn K (.ref C) "__init__" = some (some (.ref fI)) ∧ PySem.W.typeIn K (.ref fI) = some (.type "function") ∧ FnOk P w K mg base CX0 1 fI fd ["self", "value"] (sp_excInit K) ∧ Binds K fd ["self", "value"] []
def tMkX (C : Addr) (ta : TA) : L2.St → Hp → XK → Prop := fun σ H Q => ta σ H fun vs H1 => ∃ v, vs = [v] ∧ ∀ d, H1 d = none → Q (.ref C) (some d) (upd H1 d (.xd [("value", v)]))
section
variable {X : Cx} {x : Str} {C : Addr} {p pos : Pos} {e : Expr} {ta : TA} {j : Nat} {W : WX}
theorem pmk_mono {e : Expr} {t t' : L2.St → Hp → XK → Prop} (h : PMk X e t) (hm : ∀ σ H Q, t' σ H Q → t σ H Q) : PMk X e t' := fun pins s σ H Q I q => h pins s σ H Q I (hm σ H Q q)
theorem pmk_x (c : Xc X.prog X.w X.K X.mg X.base x C) (hr : Room j X.A) (hj : 2 ≤ j) (ha : PA X [e] ta) (hmono : ∀ σ H (Q Q' : List V → Hp → Prop), (∀ vs H1, Q vs H1 → Q' vs H1) → ta σ H Q → ta σ H Q') (hg : Gl X x := by rfl) (hdb : (x == ("__debug__" : Str)) = false := by decide)
    (he : starEach (e :: []) X.env = (false, eval e X.env) :: starEach [] X.env := by rfl) (hpl : (backTo pos (starEach [] X.env)).any (·.1) = false := by rfl) : PMk X (.Call (.Name x p) [e] [] pos) (tMkX C ta) := by
  obtain ⟨fI, fd, h1, h2, F, b⟩ := c.ini
  refine pmk_mono (pmk_oex c.T h1 h2 F (hr.mono hj) b .nil pass0 hg c.gC ha hdb he hpl) ?_
  intro σ H Q h
  refine hmono σ H _ _ ?_ h
  rintro vs H1 ⟨v, rfl, q⟩
  refine ⟨by show 1 ≤ 1000; decide, fun a ha1 => ?_⟩
  refine ⟨a, C, v, rfl, c.T, c.nv, upd_same, fun dx hdx ne => ?_⟩
  rw [upd_ne ne] at hdx
  refine ⟨rfl, dx, [("value", v)], upd_same, by rw [upd_ne ne, upd_same], hdx, ?_⟩
  have eq : upd (L2.del (upd (upd (upd H1 a (exo a C none)) dx (exd dx [("value", v)])) a (exo a C (some dx))) a) dx (.xd [("value", v)]) = upd H1 dx (.xd [("value", v)]) := by
    funext b
    by_cases hb : b = dx
    · rw [hb, upd_same, upd_same]
    · rw [upd_ne hb, upd_ne hb]
      by_cases hba : b = a
      · rw [hba, L2.del_same, ha1]
      · rw [L2.del_ne hba, upd_ne hba, upd_ne hb, upd_ne hba]
  rw [eq]
  exact q dx hdx
/-- raise X(e) -/
theorem ps_rx (hc : X.calm = true) (tk : Takes X W) (c : Xc X.prog X.w X.K X.mg X.base x C) (hr : Room j X.A) (hj : 2 ≤ j) (ha : PA X [e] ta) (hmono : ∀ σ H (Q Q' : List V → Hp → Prop), (∀ vs H1, Q vs H1 → Q' vs H1) → ta σ H Q → ta σ H Q') {pos' : Pos} (hg : Gl X x := by rfl) (hdb : (x == ("__debug__" : Str)) = false := by decide)
    (he : starEach (e :: []) X.env = (false, eval e X.env) :: starEach [] X.env := by rfl) (hpl : (backTo pos (starEach [] X.env)).any (·.1) = false := by rfl) : PS X (.Raise (some (.Call (.Name x p) [e] [] pos)) none pos') (fun _ σ H => tMkX C ta σ H fun cls d H' => W cls d σ H') :=
  ps_raise hc tk (pmk_x c hr hj ha hmono hg hdb he hpl)
end
/-! monotone readings of arguments -/
def MoE (te : TE) : Prop := ∀ σ H (Q Q' : VK), (∀ v H1, Q v H1 → Q' v H1) → te σ H Q → te σ H Q'
def MoA (ta : TA) : Prop := ∀ σ H (Q Q' : List V → Hp → Prop), (∀ vs H1, Q vs H1 → Q' vs H1) → ta σ H Q → ta σ H Q'
theorem mo_var {i : Nat} : MoE (tVar i) := fun σ H Q Q' m ⟨v, e, q⟩ => ⟨v, e, m v H q⟩
theorem mo_c {v : V} : MoE (tC v) := fun σ H Q Q' m q => m v H q
theorem mo_nil : MoA tNil := fun σ H Q Q' m q => m [] H q
theorem mo_cons {te : TE} {ta : TA} (h : MoE te) (g : MoA ta) : MoA (tCons te ta) := fun σ H Q Q' m q => h σ H _ _ (fun v H1 q1 => g σ H1 _ _ (fun vs H2 q2 => m _ _ q2) q1) q
theorem mo_tup {ta : TA} (h : MoA ta) : MoE (tTup ta) := fun σ H Q Q' m q => h σ H _ _ (fun vs H1 q1 => ⟨q1.1, fun p hp => m _ _ (q1.2 p hp)⟩) q
theorem mo_lst {ta : TA} (h : MoA ta) : MoE (tLst ta) := fun σ H Q Q' m q => h σ H _ _ (fun vs H1 q1 => ⟨q1.1, fun p hp => m _ _ (q1.2 p hp)⟩) q
/-! isinstance of the exception that a suite holds -/
def rIsX (K : PySem.W.Frag) (cls : Value) (d : Option Addr) (a : Addr) : List V → Hp → VK → Prop := fun xs H Q => ∃ (D dd C : Addr) (fs : List (Str × V)) (b : Bool), cls = .ref D ∧ d = some dd ∧ xs = [.ref a, .ref C] ∧ H dd = some (.xd fs) ∧ ExcC K D ∧
  PySem.W.kitOne K (.ref D) (.ref C) = some b ∧ Q (.bl b) H
theorem call_isX {X : Cx} {a : Addr} {oe : Obj} {cls : Value} {d : Option Addr} {pn : List (Addr × Obj)} (hz : Zc cls d oe) (hf : ∃ vs, oe.data = .fields vs) : CallR (X.suite a ((a, oe) :: pn)) (.builtin "isinstance") (rIsX X.K cls d a) := by
  intro pins s σ H xs us Q I r h
  obtain ⟨D, dd, C, fs, b, rfl, rfl, rfl, hdd, ec, hk, q⟩ := h
  cases r with
  | cons rx rr =>
    cases rr with
    | cons rt rr2 =>
      cases rr2
      cases rx
      cases rt
      obtain ⟨hget, _⟩ := I.pin (a, oe) (List.mem_append_left _ List.mem_cons_self)
      obtain ⟨vs, hv⟩ := hf
      have hx : ObjOk X.prog X.w H s.heap dd (.xd fs) := I.hok dd _ hdd
      obtain ⟨mA, hns, _⟩ := hx
      obtain ⟨od, ho, _⟩ := lookIn_ns hns
      have J : PySem.W.InstAt s.heap a oe D (some od) := ⟨hget, hz.1, by unfold PySem.W.notCls; rw [hv] <;> rfl, by rw [hz.2]; exact ho⟩
      have hcl : (PySem.W.clsIn X.K D).isSome = true := by
        obtain ⟨cd, hc, _⟩ := PySem.W.any_some ec.hd
        rw [hc]
        rfl
      exact PySem.W.kia_one (PySem.W.kitx_exc hcl ec.hg ec.hk ec.hs ec.ha ec.hn ec.ht ec.hm) I.kIn J hk (fun z => nomatch z) fun tk => ⟨.bl b, H, I.kept (t' := tk) fun _ _ z => z, rfl, q⟩
end Bs

set_option Elab.async false
set_option linter.all false
set_option maxRecDepth 100000
set_option maxHeartbeats 2000000
/-! Owned objects: F what stands still, L what this body may change or has made. -/
namespace Bs
open PySem PySem.Spec PySem.Calls PyProof.Rows L2
structure Own (F H : Hp) (L : List (Addr × HO)) : Prop where
  sub : Same F H
  own : ∀ (i : Nat) (a : Addr) (o : HO), L[i]? = some (a, o) → H a = some o ∧ F a = none
  nd : (L.map (·.1)).Nodup
/-- just the object at a may have changed, to o; others may be new -/
structure Mut (a : Addr) (o : HO) (H H' : Hp) : Prop where
  here : H' a = some o
  keep : ∀ b u, b ≠ a → H b = some u → H' b = some u
theorem mem_of_get {L : List (Addr × HO)} {i : Nat} {a : Addr} {o : HO} (h : L[i]? = some (a, o)) : (a, o) ∈ L := List.mem_of_getElem? h
section
variable {F H H' : Hp} {L : List (Addr × HO)} {a p : Addr} {o u : HO}
theorem Own.start (H : Hp) : Own H H [] := ⟨Same.refl H, fun i a o h => by simp at h, List.nodup_nil⟩
theorem Own.take1 (h : H a = some o) : Own (fun b => if b = a then none else H b) H [(a, o)] := by
  refine ⟨fun b u hb => ?_, fun i b u hi => ?_, by simp⟩
  · by_cases e : b = a
    · rw [if_pos e] at hb; cases hb
    · rw [if_neg e] at hb; exact hb
  · cases i with
    | zero => simp at hi; obtain ⟨rfl, rfl⟩ := hi; exact ⟨h, if_pos rfl⟩
    | succ n => simp at hi
theorem Own.get (h : Own F H L) (i : Nat) (e : L[i]? = some (a, o)) : H a = some o := (h.own i a o e).1
theorem Own.gets (h : Own F H L) (e : F a = some o) : H a = some o := h.sub a o e
theorem Own.ne (h : Own F H L) (i j : Nat) {b : Addr} (e1 : L[i]? = some (a, o)) (e2 : L[j]? = some (b, u)) (hij : i ≠ j) : a ≠ b := by
  intro z
  have n := h.nd
  rw [List.nodup_iff_pairwise_ne, List.pairwise_iff_getElem] at n
  have l1 := (List.getElem?_eq_some_iff.mp e1)
  have l2 := (List.getElem?_eq_some_iff.mp e2)
  obtain ⟨h1, g1⟩ := l1
  obtain ⟨h2, g2⟩ := l2
  rcases Nat.lt_or_gt_of_ne hij with q | q
  · exact n i j (by simpa using h1) (by simpa using h2) q (by simp [g1, g2, z])
  · exact n j i (by simpa using h2) (by simpa using h1) q (by simp [g1, g2, z])
theorem Own.neF (h : Own F H L) (i : Nat) {b : Addr} (e : L[i]? = some (a, o)) (hb : F b = some u) : b ≠ a := fun z => by
  have := (h.own i a o e).2
  rw [← z, hb] at this
  cases this
theorem Own.same (h : Own F H L) (s : Same H H') : Own F H' L := ⟨h.sub.trans s, fun i a o e => ⟨s _ _ (h.own i a o e).1, (h.own i a o e).2⟩, h.nd⟩
theorem Own.new (h : Own F H L) (n : H p = none) : Own F (upd H p o) ((p, o) :: L) := by
  have np : ∀ {b : Addr} {u : HO}, H b = some u → b ≠ p := fun e => ne_of_none e n
  refine ⟨fun b u e => ?_, fun i b u e => ?_, ?_⟩
  · rw [upd_ne (np (h.sub b u e))]; exact h.sub b u e
  · cases i with
    | zero =>
      simp at e; obtain ⟨rfl, rfl⟩ := e
      refine ⟨upd_same, ?_⟩
      cases q : F p with
      | none => rfl
      | some v => exact absurd rfl (np (h.sub p v q))
    | succ i =>
      have e' : L[i]? = some (b, u) := by simpa using e
      exact ⟨by rw [upd_ne (np (h.own i b u e').1)]; exact (h.own i b u e').1, (h.own i b u e').2⟩
  · rw [List.map_cons, List.nodup_cons]
    refine ⟨fun m => ?_, h.nd⟩
    obtain ⟨⟨b, u⟩, hm, e⟩ := List.mem_map.mp m
    obtain ⟨i, hi⟩ := List.getElem?_of_mem hm
    exact np (h.own i b u hi).1 e
theorem Own.mut (h : Own F H L) (i : Nat) (e : L[i]? = some (a, u)) (m : Mut a o H H') : Own F H' (L.set i (a, o)) := by
  have hi : i < L.length := (List.getElem?_eq_some_iff.mp e).1
  refine ⟨fun b v hb => m.keep b v (h.neF i e hb) (h.sub b v hb), fun j b v hj => ?_, ?_⟩
  · by_cases hij : i = j
    · subst hij
      rw [List.getElem?_set_self hi] at hj
      cases hj
      exact ⟨m.here, (h.own i _ _ e).2⟩
    · rw [List.getElem?_set_ne hij] at hj
      exact ⟨m.keep b v (h.ne j i hj e (Ne.symm hij)) (h.own j b v hj).1, (h.own j b v hj).2⟩
  · have : (L.set i (a, o)).map (·.1) = L.map (·.1) := by
      rw [List.map_set]
      apply List.ext_getElem?
      intro j
      by_cases hij : i = j
      · subst hij
        rw [List.getElem?_set_self (by simpa using hi), List.getElem?_map, e]
        rfl
      · rw [List.getElem?_set_ne hij]
    rw [this]; exact h.nd
theorem mut_upd : Mut a o H (upd H a o) := ⟨upd_same, fun b u n e => by rw [upd_ne n]; exact e⟩
theorem Own.put (h : Own F H L) (i : Nat) (e : L[i]? = some (a, u)) : Own F (upd H a o) (L.set i (a, o)) := h.mut i e mut_upd
theorem Own.drop {x : Addr × HO} (h : Own F H (x :: L)) : Own F H L := ⟨h.sub, fun i a o e => h.own (i + 1) a o (by simpa using e), (List.nodup_cons.mp h.nd).2⟩
theorem Own.frz (h : Own F H ((p, o) :: L)) : Own (upd F p o) H L ∧ Same F (upd F p o) := by
  have hp := h.own 0 p o rfl
  refine ⟨⟨fun b u e => ?_, fun i b u e => ?_, (List.nodup_cons.mp h.nd).2⟩, fun b u e => ?_⟩
  · by_cases q : b = p
    · subst q; rw [upd_same] at e; cases e; exact hp.1
    · rw [upd_ne q] at e; exact h.sub b u e
  · have e' : ((p, o) :: L)[i + 1]? = some (b, u) := by simpa using e
    have nb : b ≠ p := h.ne (i + 1) 0 e' rfl (by omega)
    exact ⟨(h.own (i + 1) b u e').1, by rw [upd_ne nb]; exact (h.own (i + 1) b u e').2⟩
  · rw [upd_ne (ne_of_none e hp.2)]; exact e
theorem Own.fresh (h : Own F H L) (n : H p = none) : F p = none := by
  cases e : F p with
  | none => rfl
  | some u => rw [h.sub p u e] at n; cases n
theorem Own.toSame (h : Own F H L) : Same F H := h.sub
/-- what was ahead of the take is behind it, but for a -/
theorem Own.mut_of {H0 : Hp} {i : Nat} (h : Own (fun b => if b = a then none else H0 b) H L) (e : L[i]? = some (a, o)) : Mut a o H0 H := ⟨h.get i e, fun b u n hb => h.sub b u (by show (if b = a then none else H0 b) = some u; rw [if_neg n]; exact hb)⟩
/-! readings with owned objects -/
variable {Q : VK} {K : PySem.W.Frag} {A : Prop}
theorem o_tup {xs : List V} (h : Own F H L) (z : xs.length.ble 1000 = true) (k : ∀ p H', H p = none → Own F H' ((p, .tup xs) :: L) → Q (.ref p) H') : cTup Q xs H :=
  ⟨Nat.le_trans (Nat.le_of_ble_eq_true z) (by decide), fun p n => k p _ n (h.new n)⟩
theorem o_lst {xs : List V} (h : Own F H L) (z : xs.length.ble 1000 = true) (k : ∀ p H', H p = none → Own F H' ((p, .lst xs) :: L) → Q (.ref p) H') : cLst Q xs H :=
  ⟨Nat.le_trans (Nat.le_of_ble_eq_true z) (by decide), fun p n => k p _ n (h.new n)⟩
theorem o_ixL {i : Nat} {xs : List V} {k : Int} {v : V} (h : Own F H L) (e : L[i]? = some (a, .lst xs)) (g : atI xs k = some v) (q : Q v H) : rIxL K (.ref a) (.int k) H Q := r_ixL (SqL.of (h.get i e)) g q
theorem o_ixT {i : Nat} {xs : List V} {k : Int} {v : V} (h : Own F H L) (e : L[i]? = some (a, .tup xs)) (g : atI xs k = some v) (q : Q v H) : rIxT K (.ref a) (.int k) H Q := r_ixT (SqT.of (h.get i e)) g q
theorem o_setL {i j : Nat} {xs : List V} {k : Int} {v : V} {R : Hp → Prop} (h : Own F H L) (e : L[i]? = some (a, .lst xs)) (g : ixN xs.length k = some j) (q : ∀ H', Own F H' (L.set i (a, .lst (xs.set j v))) → R H') : rSetL (.ref a) (.int k) v H R :=
  r_setL (h.get i e) g (q _ (h.put i e))
theorem o_unp {i n : Nat} {xs : List V} {g : TGs} {σ : L2.St} {R : L2.St → Hp → Prop} (h : Own F H L) (e : L[i]? = some (a, .tup xs)) (z : xs.length = n) (q : g xs σ H R) : gTup K n g (.ref a) σ H R := ⟨a, xs, rfl, SqT.of (h.get i e), z, q⟩
theorem o_unpF {n : Nat} {xs : List V} {g : TGs} {σ : L2.St} {R : L2.St → Hp → Prop} (h : SqT K H a xs) (z : xs.length = n) (q : g xs σ H R) : gTup K n g (.ref a) σ H R := ⟨a, xs, rfl, h, z, q⟩
theorem r_gnil {σ : L2.St} {R : L2.St → Hp → Prop} (q : R σ H) : gNil [] σ H R := ⟨rfl, q⟩
theorem r_gcons {t : TG} {w : TGs} {v : V} {r : List V} {σ : L2.St} {R : L2.St → Hp → Prop} (q : t v σ H fun σ' H' => w r σ' H' R) : gCons t w (v :: r) σ H R := ⟨v, r, rfl, q⟩
theorem r_gname {i : Nat} {v : V} {σ : L2.St} {R : L2.St → Hp → Prop} (q : R (σ.set i (some v)) H) : gName i v σ H R := q
end
end Bs
namespace Bs
open PySem PySem.Spec PySem.Calls PyProof.Rows L2
section
variable {α : Type} {a b c d e f g h i j : α} {l : List α}
theorem g0 : (a :: l)[0]? = some a := rfl
theorem g1 : (a :: b :: l)[1]? = some b := rfl
theorem g2 : (a :: b :: c :: l)[2]? = some c := rfl
theorem g3 : (a :: b :: c :: d :: l)[3]? = some d := rfl
theorem g4 : (a :: b :: c :: d :: e :: l)[4]? = some e := rfl
theorem g5 : (a :: b :: c :: d :: e :: f :: l)[5]? = some f := rfl
theorem g6 : (a :: b :: c :: d :: e :: f :: g :: l)[6]? = some g := rfl
theorem g7 : (a :: b :: c :: d :: e :: f :: g :: h :: l)[7]? = some h := rfl
theorem g8 : (a :: b :: c :: d :: e :: f :: g :: h :: i :: l)[8]? = some i := rfl
theorem g9 : (a :: b :: c :: d :: e :: f :: g :: h :: i :: j :: l)[9]? = some j := rfl
variable {a1 a2 a3 a4 a5 a6 a7 a8 a9 a10 : α}
theorem g10 : (a :: b :: c :: d :: e :: f :: g :: h :: i :: j :: a1 :: l)[10]? = some a1 := rfl
theorem g11 : (a :: b :: c :: d :: e :: f :: g :: h :: i :: j :: a1 :: a2 :: l)[11]? = some a2 := rfl
theorem g12 : (a :: b :: c :: d :: e :: f :: g :: h :: i :: j :: a1 :: a2 :: a3 :: l)[12]? = some a3 := rfl
theorem g13 : (a :: b :: c :: d :: e :: f :: g :: h :: i :: j :: a1 :: a2 :: a3 :: a4 :: l)[13]? = some a4 := rfl
theorem g14 : (a :: b :: c :: d :: e :: f :: g :: h :: i :: j :: a1 :: a2 :: a3 :: a4 :: a5 :: l)[14]? = some a5 := rfl
theorem g15 : (a :: b :: c :: d :: e :: f :: g :: h :: i :: j :: a1 :: a2 :: a3 :: a4 :: a5 :: a6 :: l)[15]? = some a6 := rfl
theorem g16 : (a :: b :: c :: d :: e :: f :: g :: h :: i :: j :: a1 :: a2 :: a3 :: a4 :: a5 :: a6 :: a7 :: l)[16]? = some a7 := rfl
theorem g17 : (a :: b :: c :: d :: e :: f :: g :: h :: i :: j :: a1 :: a2 :: a3 :: a4 :: a5 :: a6 :: a7 :: a8 :: l)[17]? = some a8 := rfl
end
end Bs
namespace Bs
open PySem PySem.Spec PySem.Calls PyProof.Rows L2
theorem Own.toSame_of {H H' : Hp} {L : List (Addr × HO)} (h : Own H H' L) : Same H H' := h.sub
end Bs
namespace Bs
open PySem PySem.Spec PySem.Calls PyProof.Rows L2
section
variable {F H H' : Hp} {L : List (Addr × HO)} {a p : Addr} {o u : HO} {Q : VK} {K : PySem.W.Frag} {D : Ends} {σ : L2.St}
def cXd (C : Addr) (Q : XK) (vs : List V) (H1 : Hp) : Prop := ∃ v, vs = [v] ∧ ∀ d, H1 d = none → Q (.ref C) (some d) (upd H1 d (.xd [("value", v)]))
theorem r_mkX {C : Addr} {ta : TA} {Q : XK} (k : ta σ H (cXd C Q)) : tMkX C ta σ H Q := k
theorem o_xd {C : Addr} {v : V} {Q : XK} (h : Own F H L) (k : ∀ d H', H d = none → Own F H' ((d, .xd [("value", v)]) :: L) → Q (.ref C) (some d) H') : cXd C Q [v] H := ⟨v, rfl, fun d n => k d _ n (h.new n)⟩
def cSf (K : PySem.W.Frag) (f : Str) (D : Ends) (σ : L2.St) (y x : V) (H2 : Hp) : Prop := ∃ a C dx fs, x = .ref a ∧ H2 a = some (.ins C dx fs) ∧ Cls K C ∧ NoAttr K C f ∧ fs.length < 1000 ∧ D.nx σ (upd H2 a (.ins C dx (putF f y fs)))
theorem r_sfld {ta tv : TE} {f : Str} (k : tv σ H fun y H1 => ta σ H1 (cSf K f D σ y)) : sFld K ta tv f D σ H := k
theorem o_sfld {C dx : Addr} {fs : List (Str × V)} {f : Str} {y : V} {i : Nat} (h : Own F H L) (e : L[i]? = some (a, .ins C dx fs)) (cl : Cls K C) (n : NoAttr K C f) (z : fs.length.ble 900 = true) (k : ∀ H', Own F H' (L.set i (a, .ins C dx (putF f y fs))) → D.nx σ H') :
    cSf K f D σ y (.ref a) H := ⟨a, C, dx, fs, rfl, h.get i e, cl, n, by have := Nat.le_of_ble_eq_true z; omega, k _ (h.put i e)⟩
/-- a field of an owned instance, of one that stands still -/
theorem o_gfld {C dx : Addr} {fs : List (Str × V)} {f : Str} {v : V} {i : Nat} (h : Own F H L) (e : L[i]? = some (a, .ins C dx fs)) (cl : Cls K C) (n : NoAttr K C f) (l : fs.lookup f = some v) (k : Q v H) : cGf K f Q (.ref a) H := ⟨a, C, dx, fs, v, rfl, h.get i e, cl, n, l, k⟩
theorem o_gfldF {C dx : Addr} {fs : List (Str × V)} {f : Str} {v : V} (h : H a = some (.ins C dx fs)) (cl : Cls K C) (n : NoAttr K C f) (l : fs.lookup f = some v) (k : Q v H) : cGf K f Q (.ref a) H := ⟨a, C, dx, fs, v, rfl, h, cl, n, l, k⟩
end
theorem own_new {H H' : Hp} {p d : Addr} {o u : HO} {L : List (Addr × HO)} (h : Own (fun b => if b = p then none else H b) H' L) (i j : Nat) (e : L[i]? = some (d, u)) (e2 : L[j]? = some (p, o)) (hij : i ≠ j) : H d = none := by
  have n := h.ne i j e e2 hij
  have z := (h.own i d u e).2
  rw [if_neg n] at z
  exact z
section
variable {F H H' : Hp} {L : List (Addr × HO)} {a p d : Addr} {o u : HO}
/-- a further object, known to stand apart -/
theorem Own.newAt (h : Own F H L) (n : F d = none) (e : H d = some o) (ne : ∀ (i : Nat) (a : Addr) (u : HO), L[i]? = some (a, u) → d ≠ a) : Own F H ((d, o) :: L) := by
  refine ⟨h.sub, fun i b v hb => ?_, ?_⟩
  · cases i with
    | zero => simp at hb; obtain ⟨rfl, rfl⟩ := hb; exact ⟨e, n⟩
    | succ i => exact h.own i b v (by simpa using hb)
  · rw [List.map_cons, List.nodup_cons]
    refine ⟨fun m => ?_, h.nd⟩
    obtain ⟨⟨b, v⟩, hm, e2⟩ := List.mem_map.mp m
    obtain ⟨i, hi⟩ := List.getElem?_of_mem hm
    exact ne i b v hi e2.symm
theorem Own.newS (h : Own F H L) (n : H p = none) (s : Same H H') (e : H' p = some o) : Own F H' ((p, o) :: L) :=
  (h.same s).newAt (h.fresh n) e fun i b v hi z => by
    have := (h.own i b v hi).1
    rw [← z, n] at this
    cases this
theorem Own.mutnew {i : Nat} (h : Own F H L) (e : L[i]? = some (a, u)) (m : Mut a o H H') (n : H p = none) {v : HO} (ep : H' p = some v) : Own F H' ((p, v) :: L.set i (a, o)) := by
  have hi : i < L.length := (List.getElem?_eq_some_iff.mp e).1
  refine (h.mut i e m).newAt (h.fresh n) ep fun j b v hj z => ?_
  by_cases hij : i = j
  · subst hij
    rw [List.getElem?_set_self hi] at hj
    cases hj
    have := (h.own i _ _ e).1
    rw [← z, n] at this
    cases this
  · rw [List.getElem?_set_ne hij] at hj
    have := (h.own j b v hj).1
    rw [← z, n] at this
    cases this
end
end Bs
namespace Bs
open PySem PySem.Spec PySem.Calls PyProof.Rows L2
/-- new for the heap of the beginning, too -/
theorem Own.new0 {F H : Hp} {L : List (Addr × HO)} {p : Addr} {o : HO} {i : Nat} (h : Own F H L) (e : L[i]? = some (p, o)) : F p = none := (h.own i p o e).2
end Bs

set_option Elab.async false
set_option linter.all false
set_option maxRecDepth 100000
set_option maxHeartbeats 2000000
/-! repr of data: budgets; the caught exception's value. -/
namespace Bs
open PySem PySem.Spec PySem.Calls PyProof.Rows L2
/-- depth at most k, weight at most m -/
structure Rp (k m : Nat) (d : PyData) : Prop where
  sh : d.showable = true
  nd : d.hasDict = false
  dp : d.depth ≤ k
  lv : d.leavesShort 600 = true
  w : d.weight ≤ m
structure RpA (k m : Nat) (ds : List PyData) : Prop where
  sh : PyData.showableAll ds = true
  nd : PyData.hasDictAll ds = false
  dp : PyData.depthAll ds ≤ k
  lv : PyData.leavesShortAll 600 ds = true
  w : PyData.weightAll ds ≤ m
theorem Rp.sz {k m : Nat} {d : PyData} (h : Rp k m d) (hm : m ≤ 27000) : d.shown.length ≤ sizeLine := by
  have := PyData.shown_le 600 (by decide) d h.lv
  have w := h.w
  have e : sizeLine = 16777216 := by decide
  omega
theorem Rp.mono {k m k' m' : Nat} {d : PyData} (h : Rp k m d) (h1 : k ≤ k') (h2 : m ≤ m') : Rp k' m' d := ⟨h.sh, h.nd, Nat.le_trans h.dp h1, h.lv, Nat.le_trans h.w h2⟩
theorem RpA.mono {k m k' m' : Nat} {d : List PyData} (h : RpA k m d) (h1 : k ≤ k') (h2 : m ≤ m') : RpA k' m' d := ⟨h.sh, h.nd, Nat.le_trans h.dp h1, h.lv, Nat.le_trans h.w h2⟩
theorem pow_570 : (2 : Nat) ^ 1800 ≤ 10 ^ 570 := by decide +kernel
theorem rp_int {i : Int} (h : i.natAbs < 2 ^ 1800) : Rp 0 1802 (.int i) := by
  have h2 : i.natAbs.log2 < 1800 := PySem.Flt.log2_lt_of (by decide) h
  refine ⟨?_, ?_, ?_, ?_, ?_⟩
  · simp [PyData.showable]; omega
  · simp [PyData.hasDict]
  · simp [PyData.depth]
  · simp only [PyData.leavesShort, decide_eq_true_eq]
    have e := int_text_length_le10 (k := 570) (by decide) (Nat.lt_of_lt_of_le h pow_570)
    show (Str.ofString (toString i)).length ≤ 600
    rw [PySem.ofString_length]; omega
  · simp only [PyData.weight]; split <;> omega
theorem rp_intS {i : Int} (b : Nat) (h : i.natAbs < 2 ^ b) (h0 : 0 < b) (hb : b ≤ 1800) : Rp 0 (b + 2) (.int i) := by
  have h2 : i.natAbs.log2 < b := PySem.Flt.log2_lt_of h0 h
  have r := rp_int (i := i) (Nat.lt_of_lt_of_le h (Nat.pow_le_pow_right (by decide) hb))
  refine ⟨r.sh, r.nd, r.dp, r.lv, ?_⟩
  simp only [PyData.weight]; split <;> omega
theorem rp_bl {b : Bool} : Rp 0 1 (.bool b) := by
  refine ⟨?_, ?_, ?_, ?_, ?_⟩
  · simp [PyData.showable]
  · simp [PyData.hasDict]
  · simp [PyData.depth]
  · simp [PyData.leavesShort]
  · simp [PyData.weight]
theorem rp_non : Rp 0 1 .none := by
  refine ⟨?_, ?_, ?_, ?_, ?_⟩
  · simp [PyData.showable]
  · simp [PyData.hasDict]
  · simp [PyData.depth]
  · simp [PyData.leavesShort]
  · simp [PyData.weight]
theorem rpa_nil : RpA 0 0 [] := by
  refine ⟨?_, ?_, ?_, ?_, ?_⟩
  · simp [PyData.showableAll]
  · simp [PyData.hasDictAll]
  · simp [PyData.depthAll]
  · simp [PyData.leavesShortAll]
  · simp [PyData.weightAll]
theorem rpa_cons {k j m n : Nat} {d : PyData} {ds : List PyData} (h : Rp k m d) (g : RpA j n ds) : RpA (max k j) (m + n + 1) (d :: ds) := by
  refine ⟨?_, ?_, ?_, ?_, ?_⟩
  · simp [PyData.showableAll, h.sh, g.sh]
  · simp [PyData.hasDictAll, h.nd, g.nd]
  · have := h.dp; have := g.dp; simp only [PyData.depthAll]; omega
  · simp [PyData.leavesShortAll, h.lv, g.lv]
  · have := h.w; have := g.w; simp only [PyData.weightAll]; omega
theorem rp_list {k m : Nat} {ds : List PyData} (h : RpA k m ds) : Rp (k + 1) (m + 1) (.list ds) := by
  refine ⟨?_, ?_, ?_, ?_, ?_⟩
  · simp [PyData.showable, h.sh]
  · simp [PyData.hasDict, h.nd]
  · have := h.dp; simp only [PyData.depth]; omega
  · simp [PyData.leavesShort, h.lv]
  · have := h.w; simp only [PyData.weight]; omega
theorem rp_tup {k m : Nat} {ds : List PyData} (h : RpA k m ds) : Rp (k + 1) (m + 1) (.tuple ds) := by
  refine ⟨?_, ?_, ?_, ?_, ?_⟩
  · simp [PyData.showable, h.sh]
  · simp [PyData.hasDict, h.nd]
  · have := h.dp; simp only [PyData.depth]; omega
  · simp [PyData.leavesShort, h.lv]
  · have := h.w; simp only [PyData.weight]; omega
/-! budgets from above -/
def RpL (k m : Nat) (ds : List PyData) : Prop := ∀ d ∈ ds, Rp k m d
theorem rpl_nil {k m : Nat} : RpL k m [] := fun d h => by cases h
theorem rpl_cons {k m : Nat} {d : PyData} {ds : List PyData} (h : Rp k m d) (g : RpL k m ds) : RpL k m (d :: ds) := fun x hx => by
  rcases List.mem_cons.mp hx with e | e
  · rw [e]; exact h
  · exact g x e
theorem rpl_all {k m : Nat} : ∀ {ds : List PyData}, RpL k m ds → RpA k (ds.length * (m + 1)) ds
  | [], _ => rpa_nil.mono (Nat.zero_le _) (Nat.zero_le _)
  | d :: ds, h => by
    have a := rpa_cons (h d List.mem_cons_self) (rpl_all fun x hx => h x (List.mem_cons_of_mem _ hx))
    refine a.mono (by omega) ?_
    rw [List.length_cons, Nat.succ_mul]
    omega
theorem rq_len {n m : Nat} (h : Nat.ble (n + 1) m = true) : n * ((m - 1) / n - 1 + 1) + 1 ≤ m := by
  have h := Nat.le_of_ble_eq_true h
  by_cases z : n = 0
  · subst z; omega
  · have h1 : 1 ≤ (m - 1) / n := (Nat.le_div_iff_mul_le (by omega)).mpr (by omega)
    have h2 := Nat.mul_div_le (m - 1) n
    rw [Nat.sub_add_cancel h1]
    omega
theorem rq_list {k m : Nat} {ds : List PyData} (hk : Nat.ble 1 k = true) (hm : Nat.ble (ds.length + 1) m = true) (h : RpL (k - 1) ((m - 1) / ds.length - 1) ds) : Rp k m (.list ds) := by
  have := Nat.le_of_ble_eq_true hk
  exact (rp_list (rpl_all h)).mono (by omega) (rq_len hm)
theorem rq_tup {k m : Nat} {ds : List PyData} (hk : Nat.ble 1 k = true) (hm : Nat.ble (ds.length + 1) m = true) (h : RpL (k - 1) ((m - 1) / ds.length - 1) ds) : Rp k m (.tuple ds) := by
  have := Nat.le_of_ble_eq_true hk
  exact (rp_tup (rpl_all h)).mono (by omega) (rq_len hm)
theorem rq_int {k m : Nat} {i : Int} (h : i.natAbs < 2 ^ 70) (hm : Nat.ble 72 m = true) : Rp k m (.int i) := (rp_intS 70 h (by decide) (by decide)).mono (Nat.zero_le _) (Nat.le_of_ble_eq_true hm)
theorem rq_intW {k m : Nat} {i : Int} (h : i.natAbs < 2 ^ 110) (hm : Nat.ble 112 m = true) : Rp k m (.int i) := (rp_intS 110 h (by decide) (by decide)).mono (Nat.zero_le _) (Nat.le_of_ble_eq_true hm)
theorem rq_bl {k m : Nat} {b : Bool} (hm : Nat.ble 1 m = true) : Rp k m (.bool b) := rp_bl.mono (Nat.zero_le _) (Nat.le_of_ble_eq_true hm)
theorem rq_non {k m : Nat} (hm : Nat.ble 1 m = true) : Rp k m .none := rp_non.mono (Nat.zero_le _) (Nat.le_of_ble_eq_true hm)
theorem r_repr {K : PySem.W.Frag} {x : V} {d : PyData} {H : Hp} {Q : VK} (h : Dp K H x d) (rp : Rp 60 27000 d) (q : Q (.str d.shown) H) : rRepr K [x] H Q :=
  ⟨x, d, rfl, h, rp.sh, rp.nd, rp.dp, rp.sz (by decide), q⟩
/-! data of a heap -/
theorem dp_lst {K : PySem.W.Frag} {H : Hp} {a : Addr} {xs : List V} {ds : List PyData} (h : H a = some (.lst xs)) (g : DpAll K H xs ds) : Dp K H (.ref a) (.list ds) := .lst (SqL.of h) g
theorem dp_tup {K : PySem.W.Frag} {H : Hp} {a : Addr} {xs : List V} {ds : List PyData} (h : H a = some (.tup xs)) (g : DpAll K H xs ds) : Dp K H (.ref a) (.tuple ds) := .tup (SqT.of h) g
mutual
theorem dp_same {K : PySem.W.Frag} {H H' : Hp} (s : Same H H') : ∀ {v : V} {d : PyData}, Dp K H v d → Dp K H' v d
  | _, _, .non => .non
  | _, _, .bl b => .bl b
  | _, _, .int i => .int i
  | _, _, .str x => .str x
  | _, _, .lst h g => .lst (s.seq h) (dpa_same s g)
  | _, _, .tup h g => .tup (sqT_same s h) (dpa_same s g)
theorem dpa_same {K : PySem.W.Frag} {H H' : Hp} (s : Same H H') : ∀ {v : List V} {d : List PyData}, DpAll K H v d → DpAll K H' v d
  | _, _, .nil => .nil
  | _, _, .cons h g => .cons (dp_same s h) (dpa_same s g)
end
/-! the value of a caught exception -/
def tXv (K : PySem.W.Frag) (a : Addr) (cls : Value) (d : Option Addr) (f : Str) (te : TE) : TE := fun σ H Q => te σ H fun x H1 => x = .ref a ∧ ∃ (C dd : Addr) (fs : List (Str × V)) (v : V), cls = .ref C ∧ XfC K C ∧ PySem.W.findIn K (.ref C) f = some none ∧ d = some dd ∧ H1 dd = some (.xd fs) ∧ fs.lookup f = some v ∧ Q v H1
theorem pe_xv {X : Cx} {a : Addr} {oe : Obj} {cls : Value} {d : Option Addr} {pn : List (Addr × Obj)} {e : Expr} {te : TE} {pos : Pos} {n : Str} (mo : MoE te)
    (hz : Zc cls d oe) (hf : ∃ vs, oe.data = .fields vs) (he : PE (X.suite a ((a, oe) :: pn)) e te) (hb : attributeBase e n X.env (eval e X.env) = eval e X.env := by rfl) :
    PE (X.suite a ((a, oe) :: pn)) (.Attribute e n pos) (tXv X.K a cls d n te) := by
  refine ⟨fun pins s σ H Q I h => ?_⟩
  refine attr_of hb (thn (he.run pins s σ H _ I h) fun u s1 hh => ?_)
  obtain ⟨x, H1, I1, rx, ex, C, dd, fs, v, ec, T, hno, ed, ea, l, q⟩ := hh
  subst ex
  obtain rfl : u = Value.ref a := rx
  subst ec
  subst ed
  obtain ⟨ha, _⟩ := I1.pin (a, oe) (List.mem_append_left _ List.mem_cons_self)
  obtain ⟨vs, hd⟩ := hf
  have hx : ObjOk X.prog X.w H1 s1.heap dd (.xd fs) := I1.hok dd _ ea
  obtain ⟨mA, hns, hr⟩ := hx
  obtain ⟨od, ho, hl⟩ := lookIn_ns hns
  obtain ⟨u, hu, ru⟩ := RelO.some_of (v := v) (o := mA n) (by rw [← l]; exact hr n)
  have J : PySem.W.InstAt s1.heap a oe C (some od) := ⟨ha, hz.1, by unfold PySem.W.notCls; rw [hd] <;> rfl, by rw [hz.2]; exact ho⟩
  exact HandSPX.exc_get I1.kIn J T.ga T.gg T.exC (PySem.W.findObj_own T.hdC hno rfl (by rw [hl, hu])) (handed_of ru) ⟨v, H1, I1.tok _, ru, q⟩
theorem r_xv {K : PySem.W.Frag} {a C dd : Addr} {f : Str} {te : TE} {σ : L2.St} {H : Hp} {Q : VK} (k : te σ H fun x H1 => x = .ref a ∧ ∃ (D dd' : Addr) (fs : List (Str × V)) (v : V), Value.ref C = .ref D ∧ XfC K D ∧ PySem.W.findIn K (.ref D) f = some none ∧ some dd = some dd' ∧ H1 dd' = some (.xd fs) ∧ fs.lookup f = some v ∧ Q v H1) : tXv K a (.ref C) (some dd) f te σ H Q := k
end Bs
namespace Bs
open PySem PySem.Spec PySem.Calls PyProof.Rows L2
/-! properties -/
structure PrC (P : Program) (w : World) (K : PySem.W.Frag) (mg : Str → Option Value) (base : Heap) (CX : CXT) (C : Addr) (f : Str) (k : Nat) (sp : Sp) : Prop where
  cl : Cls K C
  ex : ∃ (p g : Addr) (fd : FuncData), PropOf K C f p g ∧ FnOk P w K mg base CX k g fd ["self"] sp ∧ Binds K fd ["self"] []
section
variable {X : Cx} {C : Addr} {f : Str} {j k : Nat} {sp : Sp} {e : Expr} {pos : Pos} {ta : TE}
theorem pe_wp (c : PrC X.prog X.w X.K X.mg X.base CX0 C f k sp) (hr : Room j X.A) (hj : k + 1 ≤ j) (he : PE X e ta) (hab : attributeBase e f X.env (eval e X.env) = eval e X.env := by rfl) : PE X (.Attribute e f pos) (tProp C sp [] E0 ta) := by
  obtain ⟨p, g, fd, hp, F, b⟩ := c.ex
  exact pe_prop he c.cl hp F (hr.mono hj) b .nil pass0 hab
end
def cPr (C : Addr) (sp : Sp) (E : XK) (Q : VK) (x : V) (H1 : Hp) : Prop := ∃ a dx fs, x = .ref a ∧ H1 a = some (.ins C dx fs) ∧ sp [.ref a] H1 Q E
section
variable {F H : Hp} {L : List (Addr × HO)} {C a dx : Addr} {fs : List (Str × V)} {Q : VK} {E : XK} {sp : Sp} {σ : L2.St} {i : Nat} {f : Str} {v : V}
theorem r_prop2 {ta : TE} (k : ta σ H (cPr C sp E Q)) : tProp C sp [] E ta σ H Q := k
theorem o_prop (h : Own F H L) (e : L[i]? = some (a, .ins C dx fs)) (k : sp [.ref a] H Q E) : cPr C sp E Q (.ref a) H := ⟨a, dx, fs, rfl, h.get i e, k⟩
theorem o_propF (e : H a = some (.ins C dx fs)) (k : sp [.ref a] H Q E) : cPr C sp E Q (.ref a) H := ⟨a, dx, fs, rfl, e, k⟩
theorem c_get (e : H a = some (.ins C dx fs)) (l : fs.lookup f = some v) (k : Q v H) : getSp C f [.ref a] H Q E := ⟨a, dx, fs, v, rfl, e, l, k⟩
end
/-! what a clause asks of a class -/
structure Xs (K : PySem.W.Frag) (B I : Addr) : Prop where
  exm : PySem.W.exmOne K (.ref I) (.ref B) = some true
  kit : PySem.W.kitOne K (.ref I) (.ref I) = some true
theorem r_wAs {K : PySem.W.Frag} {c cls : Value} {i : Nat} {ts : Addr → Value → Option Addr → TS} {Wout : WX} {D : Ends} {d : Option Addr} {σ : L2.St} {H : Hp} (h : PySem.W.exmOne K cls c = some true)
    (k : ∀ a, H a = none → ts a cls d { nx := fun σ' H' => D.nx (σ'.set i none) H', rt := D.rt, bk := fun σ' H' => D.bk (σ'.set i none) H', ct := fun σ' H' => D.ct (σ'.set i none) H' } (σ.set i (some (.ref a))) H) : wAs K c i ts Wout D cls d σ H :=
  ⟨true, h, fun _ => k, fun z => by cases z⟩
theorem r_isX {K : PySem.W.Frag} {C D dd a : Addr} {fs : List (Str × V)} {b : Bool} {H : Hp} {Q : VK} (e : H dd = some (.xd fs)) (ec : ExcC K D) (hk : PySem.W.kitOne K (.ref D) (.ref C) = some b) (k : Q (.bl b) H) : rIsX K (.ref D) (some dd) a [.ref a, .ref C] H Q :=
  ⟨D, dd, C, fs, b, rfl, rfl, rfl, e, ec, hk, k⟩
def cXv (K : PySem.W.Frag) (a : Addr) (cls : Value) (d : Option Addr) (f : Str) (Q : VK) (x : V) (H1 : Hp) : Prop := x = .ref a ∧ ∃ (C dd : Addr) (fs : List (Str × V)) (v : V), cls = .ref C ∧ XfC K C ∧ PySem.W.findIn K (.ref C) f = some none ∧ d = some dd ∧ H1 dd = some (.xd fs) ∧ fs.lookup f = some v ∧ Q v H1
theorem r_xv2 {K : PySem.W.Frag} {a : Addr} {cls : Value} {d : Option Addr} {f : Str} {te : TE} {σ : L2.St} {H : Hp} {Q : VK} (k : te σ H (cXv K a cls d f Q)) : tXv K a cls d f te σ H Q := k
theorem o_xv {K : PySem.W.Frag} {a C dd : Addr} {v : V} {H : Hp} {Q : VK} (e : H dd = some (.xd [("value", v)])) (T : XfC K C) (n : PySem.W.findIn K (.ref C) "value" = some none) (k : Q v H) : cXv K a (.ref C) (some dd) "value" Q (.ref a) H :=
  ⟨rfl, C, dd, _, v, rfl, T, n, rfl, e, by simp [List.lookup], k⟩
/-! loops: each turn's beginning by σ and H -/
theorem r_rng1 {ta : TA} {σ : L2.St} {H : Hp} {R : It → Hp → Prop} (k : ta σ H fun vs H1 => ∃ j : Int, vs = [.int j] ∧ -(2 ^ 62) ≤ j ∧ j < 2 ^ 62 ∧ R (Itr 0 j.toNat) H1) : iRng1 ta σ H R := k
theorem r_j {j : Int} {R : Int → Prop} (h1 : -(2 ^ 62) ≤ j) (h2 : j < 2 ^ 62) (k : R j) : ∃ i : Int, [V.int j] = [.int i] ∧ -(2 ^ 62) ≤ i ∧ i < 2 ^ 62 ∧ R i := ⟨j, rfl, h1, h2, k⟩
theorem r_for {wi : TI} {g : TG} {tb : TS} {D : Ends} {σ : L2.St} {H : Hp} (k : wi σ H fun J H1 => ∃ W : Nat → Nat → L2.St → Hp → Prop, (∃ m, W 0 m σ H1) ∧ ∀ i m σ H, W i m σ H →
  (J.stop i H ∧ D.nx σ H) ∨ (J.go i H ∧ ∃ N : L2.St → Hp → Prop, (∀ σ' H', N σ' H' → ∃ m', m' < m ∧ W (i + 1) m' σ' H') ∧ ∀ x H', J.yld i H x H' → g x σ H' fun σ2 H2 => tb { D with nx := N, ct := N, bk := D.nx } σ2 H2)) : tFor wi g tb D σ H := k
theorem r_nn {A : Prop} (k : A) : V.non = V.non ∧ A := ⟨rfl, k⟩
theorem i_refN {p : Addr} {A B : Prop} (k : A) : if (!decide (V.ref p = V.non)) = true then A else B := by rw [if_pos (by simp)]; exact k
theorem i_nonN {A B : Prop} (k : B) : if (!decide (V.non = V.non)) = true then A else B := by rw [if_neg (by simp)]; exact k
theorem i_ref {p : Addr} {A B : Prop} (k : B) : if decide (V.ref p = V.non) = true then A else B := by rw [if_neg (by simp)]; exact k
theorem i_nt {A B : Prop} (k : B) : if (!true) = true then A else B := by rw [if_neg (by decide)]; exact k
theorem i_nf {A B : Prop} (k : A) : if (!false) = true then A else B := by rw [if_pos (by decide)]; exact k
end Bs

set_option Elab.async false
set_option linter.all false
set_option maxRecDepth 100000
set_option maxHeartbeats 2000000
/-! Signs between instances of an own class, and between one and an int on either side. -/
namespace Bs
open PySem PySem.Spec PySem.Calls PyProof.Rows L2
section
variable {prog : Program} {w : World} {A : Around} {E : Value → Shared → Prop} {s : Shared} {K : PySem.W.Frag} {x C dx f g : Addr} {od : Option Obj} {ox : Obj} {nm : String} {b : Value}
theorem intBin_dn (n : String) (fn : Int → Int → Sem Fin) (r : Bool) (i : Int) (t : Tok) : GivesAt (fun s => s.heap.get? x = some (PySem.W.instObj C dx)) (Builtin.Int.intBinary n fn r ⟨[.int i t, .ref x], []⟩) (.val .notImplemented) := by
  intro prog w A R s hp h
  obtain ⟨hh, g, d, tt, os⟩ := s
  have hp' : hh.get? x = some (PySem.W.instObj C dx) := hp
  unfold Builtin.Int.intBinary
  wp_walk
  exact h
theorem intFdv_dn (i : Int) (t : Tok) : GivesAt (fun s => s.heap.get? x = some (PySem.W.instObj C dx)) (Builtin.«int.__floordiv__» ⟨[.int i t, .ref x], []⟩) (.val .notImplemented) := by
  intro prog w A R s hp h
  obtain ⟨hh, g, d, tt, os⟩ := s
  have hp' : hh.get? x = some (PySem.W.instObj C dx) := hp
  unfold Builtin.«int.__floordiv__»
  wp_walk
  exact h
/-- both of one class -/
theorem bin1_same {cd : ClassData} {rest : List Value} {Q : Value → Shared → Prop} (X : K.In s.heap) (I : PySem.W.InstAt s.heap x ox C od) (hb : PySem.W.Looks (model prog w) s.heap (typeOf b) (.ref C)) (hcd : PySem.W.clsIn K C = some cd) (hm : cd.mro = .ref C :: rest)
    (hs : PySem.W.findIn K (.ref C) (PySem.dunder nm) = some (some (.ref f))) (hf : PySem.W.isFn K (.ref f) = true) (h : wpAny (model prog w) A (call (.ref f) [.ref x, b]) (PySem.W.CmpBack Q) E s) :
    wpAny (model prog w) A (binaryOp1 nm (.ref x) b) (fun r s' => ∃ v, r = some v ∧ Q v s') E s := by
  have one := PySem.W.ksp_try X I hs hf h
  have L3 : PySem.W.Looks (model prog w) s.heap (fillsNumberSlot (.ref C) nm) true := PySem.W.fills_K X hcd hm hs
  obtain ⟨hh, g, d, tt, os⟩ := s
  unfold binaryOp1
  refine wpAny_bind (I.type.at (wpAny_bind (hb.at (wpAny_bind (L3.at ?_)))))
  simp only [beq_self_eq_true, if_true]
  ksp_lk
  refine wpAny_mono one (fun r s' hr' => ?_) fun _ _ e => e
  obtain ⟨v, rfl, hq⟩ := hr'
  ksp_lk
  exact ⟨v, rfl, hq⟩
/-- an int on the right -/
theorem bin1_left {cd : ClassData} {rest : List Value} {rc : Option Value} {Q : Value → Shared → Prop} {i : Int} {t : Tok} {fo : Value} (X : K.In s.heap) (I : PySem.W.InstAt s.heap x ox C od) (hcd : PySem.W.clsIn K C = some cd) (hm : cd.mro = .ref C :: rest)
    (hs : PySem.W.findIn K (.ref C) (PySem.dunder nm) = some (some (.ref f))) (hf : PySem.W.isFn K (.ref f) = true) (hr : PySem.W.findIn K (.ref C) (dunderR nm) = some rc) (hp : rc = none ∨ ∃ g : Addr, rc = some (.ref g)) (fi : fillsNumberSlot (.type "int") nm = pure true)
    (h2 : PySem.W.findIn K (.type "int") (dunderR nm) = some (some fo)) (hsub : PySem.W.subIn K (.type "int") (.ref C) = some false)
    (h : wpAny (model prog w) A (call (.ref f) [.ref x, .int i t]) (PySem.W.CmpBack Q) E s) : wpAny (model prog w) A (binaryOp1 nm (.ref x) (.int i t)) (fun r s' => ∃ v, r = some v ∧ Q v s') E s := by
  have one := PySem.W.ksp_try X I hs hf h
  have L1 := I.type (M := model prog w)
  have L2 : PySem.W.Looks (model prog w) s.heap (typeOf (.int i t)) (.type "int") := PySem.W.Looks.of_pure rfl
  have L3 : PySem.W.Looks (model prog w) s.heap (fillsNumberSlot (.ref C) nm) true := PySem.W.fills_K X hcd hm hs
  have L4 : PySem.W.Looks (model prog w) s.heap (fillsNumberSlot (.type "int") nm) true := PySem.W.Looks.of_pure fi
  have L5 : PySem.W.Looks (model prog w) s.heap (isSubtype (.type "int") (.ref C)) false := PySem.W.looks_subIn X hsub
  have L6 : PySem.W.Looks (model prog w) s.heap (numberSlotInPython (.ref C) nm) true := PySem.W.ksp_inPy X hs hr hp
  have L7 : PySem.W.Looks (model prog w) s.heap (numberSlotInPython (.type "int") nm) false := PySem.W.Looks.of_pure rfl
  have L8 : PySem.W.Looks (model prog w) s.heap (typeLookup (.type "int") (dunderR nm)) (some fo) := PySem.W.looks_findIn X h2
  obtain ⟨hh, g, d, tt, os⟩ := s
  have hne : (Value.ref C == Value.type "int") = false := Bool.eq_false_iff.mpr fun q => by cases beq_iff_eq.mp q
  unfold binaryOp1
  refine wpAny_bind (L1.at (wpAny_bind (L2.at (wpAny_bind (L3.at ?_)))))
  simp only [hne, Bool.false_eq_true, if_false]
  ksp_lk
  refine wpAny_mono one (fun r s' hr' => ?_) fun _ _ e => e
  obtain ⟨v, rfl, hq⟩ := hr'
  ksp_lk
  exact ⟨v, rfl, hq⟩
/-- an int on the left -/
theorem bin1_right {cd : ClassData} {rest : List Value} {Q : Value → Shared → Prop} {i : Int} {t : Tok} {id : String} {B : Builtin} (X : K.In s.heap) (I : PySem.W.InstAt s.heap x (PySem.W.instObj C dx) C od) (hcd : PySem.W.clsIn K C = some cd) (hm : cd.mro = .ref C :: rest)
    (hd : PySem.W.findIn K (.ref C) (PySem.dunder nm) = some (some (.ref g))) (hs : PySem.W.findIn K (.ref C) (dunderR nm) = some (some (.ref f))) (hf : PySem.W.isFn K (.ref f) = true) (fi : fillsNumberSlot (.type "int") nm = pure true)
    (sl : Slot "int" (dunder nm) id) (en : entryFor table id = some B) (ar : ∀ a b, argsOk id ⟨[a, b], []⟩) (dn : GivesAt (fun s => s.heap.get? x = some (PySem.W.instObj C dx)) (B ⟨[.int i t, .ref x], []⟩) (.val .notImplemented))
    (hsub : PySem.W.subIn K (.ref C) (.type "int") = some false) (h : wpAny (model prog w) A (call (.ref f) [.ref x, .int i t]) (PySem.W.CmpBack Q) E s) : wpAny (model prog w) A (binaryOp1 nm (.int i t) (.ref x)) (fun r s' => ∃ v, r = some v ∧ Q v s') E s := by
  have one := PySem.W.ksp_try X I hs hf h
  have L1 := I.type (M := model prog w)
  have L2 : PySem.W.Looks (model prog w) s.heap (typeOf (.int i t)) (.type "int") := PySem.W.Looks.of_pure rfl
  have L3 : PySem.W.Looks (model prog w) s.heap (fillsNumberSlot (.ref C) nm) true := PySem.W.fills_K X hcd hm hd
  have L4 : PySem.W.Looks (model prog w) s.heap (fillsNumberSlot (.type "int") nm) true := PySem.W.Looks.of_pure fi
  have L5 : PySem.W.Looks (model prog w) s.heap (isSubtype (.ref C) (.type "int")) false := PySem.W.looks_subIn X hsub
  have L7 : PySem.W.Looks (model prog w) s.heap (numberSlotInPython (.type "int") nm) false := PySem.W.Looks.of_pure rfl
  have two : wpAny (model prog w) A (tryMethod (.int i t) (dunder nm) (.ref x)) (fun r s' => r = none ∧ s' = s) E s := by
    refine wpAny_tryMethod_declines (typeIs_int s i t) sl ?_
    exact call_givesAt sl (typeIs_int s i t) en (ar _ _) dn I.at_ ⟨rfl, rfl, rfl⟩
  obtain ⟨hh, g, d, tt, os⟩ := s
  have hne : (Value.type "int" == Value.ref C) = false := Bool.eq_false_iff.mpr fun q => by cases beq_iff_eq.mp q
  unfold binaryOp1
  refine wpAny_bind (L2.at (wpAny_bind (L1.at (wpAny_bind (L4.at ?_)))))
  simp only [hne, Bool.false_eq_true, if_false]
  ksp_lk
  refine wpAny_mono two (fun r s' hr' => ?_) fun _ _ e => e
  obtain ⟨rfl, rfl⟩ := hr'
  ksp_lk
  refine wpAny_mono one (fun r s' hr' => ?_) fun _ _ e => e
  obtain ⟨v, rfl, hq⟩ := hr'
  ksp_lk
  exact ⟨v, rfl, hq⟩
end
end Bs
namespace Bs
open PySem PySem.Spec PySem.Calls PyProof.Rows L2
/-- a method's def of an own class, found by its name -/
structure MeC (P : Program) (w : World) (K : PySem.W.Frag) (mg : Str → Option Value) (base : Heap) (CX : CXT) (C : Addr) (m : Str) (k : Nat) (ps : List Str) (sp : Sp) (f : Addr) : Prop where
  at_ : PySem.W.findIn K (.ref C) m = some (some (.ref f))
  fn : PySem.W.isFn K (.ref f) = true
  ex : ∃ fd, FnOk P w K mg base CX k f fd ps sp ∧ Binds K fd ps []
/-- int's side of a sign -/
structure IntS (nm : String) : Prop where
  fi : fillsNumberSlot (.type "int") nm = pure true
  dn : ∃ (id : String) (B : Builtin), Slot "int" (dunder nm) id ∧ entryFor table id = some B ∧ (∀ a b, argsOk id ⟨[a, b], []⟩) ∧ ∀ (i : Int) (t : Tok) (x C dx : Addr), GivesAt (fun s => s.heap.get? x = some (PySem.W.instObj C dx)) (B ⟨[.int i t, .ref x], []⟩) (.val .notImplemented)
/-- the class's side -/
structure ClsS (K : PySem.W.Frag) (C : Addr) : Prop where
  sf : PySem.W.selfFirst K C = true
  s1 : PySem.W.subIn K (.type "int") (.ref C) = some false
  s2 : PySem.W.subIn K (.ref C) (.type "int") = some false
/-- a sign of an own class: f between, g reflected -/
structure OpS (P : Program) (w : World) (K : PySem.W.Frag) (mg : Str → Option Value) (base : Heap) (CX : CXT) (C : Addr) (nm : String) (k : Nat) (sp spR : Sp) : Prop where
  cs : ClsS K C
  is : IntS nm
  ri : ∃ fo, PySem.W.findIn K (.type "int") (dunderR nm) = some (some fo)
  ex : ∃ f g, MeC P w K mg base CX C (dunder nm) k ["self", "other"] sp f ∧ MeC P w K mg base CX C (dunderR nm) k ["self", "other"] spR g
theorem back_of {X : Cx} {pins : List (Addr × Obj)} {σ : L2.St} {Q : VK} {v : Value} {s : Shared} (h : EP X pins σ Q v s) : PySem.W.CmpBack (EP X pins σ Q) v s := by
  cases v with
  | notImplemented =>
    obtain ⟨x, H', _, r, _⟩ := h
    cases x with
    | int i => obtain ⟨t, e⟩ := r; cases e
    | str i => obtain ⟨t, e⟩ := r; cases e
    | byt i => obtain ⟨t, e⟩ := r; cases e
    | flt i => obtain ⟨t, e⟩ := r; cases e
    | _ => cases r
  | _ => exact h
section
variable {X : Cx} {CX : CXT} {C : Addr} {m : Str} {j k : Nat} {ps : List Str} {sp spR : Sp} {f : Addr} {E : XK} {nm : String}
theorem MeC.call (c : MeC X.prog X.w X.K X.mg X.base CX C m k ps sp f) (hr : Room j X.A) (hk : k ≤ j) {pins : List (Addr × Obj)} {σ : L2.St} (hx : PassesAt CX X σ E) {H : Hp} {s : Shared} {Q : VK} {us : List Value} {vs : List V} (I : Inv X pins σ H s) (r : Vals vs us) (h : sp vs H Q E) :
    wpAny (model X.prog X.w) X.A (call (.ref f) us) (EP X pins σ Q) X.xe s := by
  obtain ⟨fd, F, b⟩ := c.ex
  have l := F.len _ _ _ _ h
  have cb : Cb X.K fd ps vs.length [] (fun vs _ => vs) := ⟨fun us _ => us, by
    refine ⟨fun s us ws X l1 l2 => ?_, fun r _ => r⟩
    have e : ws = [] := List.length_eq_zero_iff.mp l2
    subst e
    have := b s us X (by simpa [l1] using l)
    simpa using this⟩
  exact go_fn (ws := []) (zs := []) (E := fun _ => E) F (hr.mono hk) cb hx I r .nil rfl rfl h
/-- x op y -/
def rOwn (C : Addr) (sp spR : Sp) (E : XK) : R2 := fun x y H Q => (∃ a dx fs, x = .ref a ∧ H a = some (.ins C dx fs) ∧ ((∃ i, y = .int i) ∨ ∃ b dx fs, y = .ref b ∧ H b = some (.ins C dx fs)) ∧ sp [x, y] H Q E) ∨
  ∃ i a dx fs, x = .int i ∧ y = .ref a ∧ H a = some (.ins C dx fs) ∧ spR [y, x] H Q E
theorem own1 (c : OpS X.prog X.w X.K X.mg X.base CX C nm k sp spR) (hr : Room j X.A) (hk : k ≤ j) {pins : List (Addr × Obj)} {σ : L2.St} (hx : PassesAt CX X σ E) {H : Hp} {s : Shared} {Q : VK} {u v : Value} {x y : V} (I : Inv X pins σ H s) (rx : RelV x u) (ry : RelV y v)
    (h : rOwn C sp spR E x y H Q) : wpAny (model X.prog X.w) X.A (binaryOp1 nm u v) (fun r s' => ∃ v, r = some v ∧ EP X pins σ Q v s') X.xe s := by
  obtain ⟨f, g, mf, mg⟩ := c.ex
  obtain ⟨cd, rest, hcd, hm⟩ := PySem.W.ksp_first c.cs.sf
  rcases h with ⟨a, dx, fs, rfl, ea, hy, q⟩ | ⟨i, a, dx, fs, rfl, rfl, ea, q⟩
  · obtain rfl : u = Value.ref a := rx
    obtain ⟨mA, O, _⟩ := ins_get I.hok ea
    obtain ⟨od, J, _⟩ := O.look
    have run : wpAny (model X.prog X.w) X.A (call (.ref f) [.ref a, v]) (PySem.W.CmpBack (EP X pins σ Q)) X.xe s :=
      wpAny_mono (mf.call (vs := [.ref a, y]) hr hk hx I (.cons rfl (.cons ry .nil)) q) (fun _ _ z => back_of z) fun _ _ z => z
    rcases hy with ⟨i, rfl⟩ | ⟨b, dy, gs, rfl, eb⟩
    · obtain ⟨t, rfl⟩ := ry
      obtain ⟨fo, hfo⟩ := c.ri
      exact bin1_left I.kIn J hcd hm mf.at_ mf.fn mg.at_ (.inr ⟨g, rfl⟩) c.is.fi hfo c.cs.s1 run
    · obtain rfl : v = Value.ref b := ry
      obtain ⟨mB, O2, _⟩ := ins_get I.hok eb
      obtain ⟨od2, J2, _⟩ := O2.look
      exact bin1_same I.kIn J J2.type hcd hm mf.at_ mf.fn run
  · obtain ⟨t, rfl⟩ := rx
    obtain rfl : v = Value.ref a := ry
    obtain ⟨mA, O, _⟩ := ins_get I.hok ea
    obtain ⟨od, J, _⟩ := O.look
    have run : wpAny (model X.prog X.w) X.A (call (.ref g) [.ref a, .int i t]) (PySem.W.CmpBack (EP X pins σ Q)) X.xe s :=
      wpAny_mono (mg.call (vs := [.ref a, .int i]) hr hk hx I (.cons rfl (.cons ⟨t, rfl⟩ .nil)) q) (fun _ _ z => back_of z) fun _ _ z => z
    obtain ⟨id, B, sl, en, ar, dn⟩ := c.is.dn
    exact bin1_right I.kIn J hcd hm mf.at_ mg.at_ mg.fn c.is.fi sl en ar (dn _ _ _ _ _) c.cs.s2 run
/-- the reading of a sign whose defs may raise: E by the slots -/
def tOwn (C : Addr) (sp spR : Sp) (E : L2.St → XK) (ta tb : TE) : TE := fun σ H Q => ta σ H fun x H1 => tb σ H1 fun y H2 => rOwn C sp spR (E σ) x y H2 Q
theorem pe_own {E : L2.St → XK} {a b : Expr} {ta tb : TE} {pos : Pos} {op : Operator} (c : OpS X.prog X.w X.K X.mg X.base CX C op.info.2 k sp spR) (hr : Room j X.A) (hk : k ≤ j) (hx : ∀ σ, PassesAt CX X σ (E σ)) (ha : PE X a ta) (hb : PE X b tb) : PE X (.BinOp a op b pos) (tOwn C sp spR E ta tb) := by
  refine ⟨fun pins s σ H Q I h => wpAny_BinOp (binT ha hb I h fun v u s2 x y H2 I2 rx ry q => ?_)⟩
  unfold binaryOp
  refine wpAny_holding (wpAny_bind (wpAny_mono (own1 c hr hk (hx σ) I2 rx ry q) (fun r s' z => ?_) fun _ _ z => z))
  obtain ⟨v', rfl, z⟩ := z
  exact wpAny_pure z
/-- no sign that sets: the class and its bases have none -/
structure NoI (K : PySem.W.Frag) (C : Addr) (nm : String) : Prop where
  ex : ∃ cd, PySem.W.clsIn K C = some cd ∧ ∀ c ∈ cd.mro, PySem.W.findIn K c (dunderI nm) = some none
theorem noI_any {K : PySem.W.Frag} {h : Heap} {M : Model} {i : Str} (X : K.In h) {F : Value → Value → Sem Bool} : ∀ {l : List Value}, (∀ c ∈ l, PySem.W.findIn K c i = some none) → PySem.W.Looks M h (l.anyM fun c => do
    let some x ← typeLookup c i | return false
    F c x) false
  | [], _ => .now
  | c :: r, e => by
    intro A Q E s k q
    have X' := X.keeps k
    rw [List.anyM_cons]
    refine wpAny_bind (wpAny_bind ((PySem.W.looks_findIn X (e c List.mem_cons_self)) A _ E s k ?_))
    refine wpAny_pure ?_
    simp only [Bool.false_eq_true, if_false]
    exact noI_any X (fun d m => e d (List.mem_cons_of_mem _ m)) A Q E s k q
theorem noI_looks {K : PySem.W.Frag} {h : Heap} {M : Model} {add : Bool} (n : NoI K C nm) (X : K.In h) : PySem.W.Looks M h (fillsInplaceSlot (.ref C) nm add) false := by
  obtain ⟨cd, e, z⟩ := n.ex
  have Lm : PySem.W.Looks M h (mroOf (.ref C)) cd.mro := (PySem.W.looks_clsIn X e).andThen (f := fun cd => pure cd.mro) .now
  intro A Q E s k q
  unfold fillsInplaceSlot
  refine wpAny_bind (Lm A _ E s k ?_)
  exact noI_any X z A Q E s k q
/-- x op= y -/
theorem ip_own {op : Operator} (c : OpS X.prog X.w X.K X.mg X.base CX C op.info.2 k sp spR) (n : NoI X.K C op.info.2) (hr : Room j X.A) (hk : k ≤ j) (hx : ∀ σ, PassesAt CX X σ E) : PIp X op (fun x y H Q => (∃ a dx fs, x = .ref a ∧ H a = some (.ins C dx fs)) ∧ rOwn C sp spR E x y H Q) := by
  intro pins s σ H x y u v Q I rx ry ⟨⟨a, dx, fs, ex, ea⟩, q⟩
  subst ex
  have one := own1 c hr hk (hx σ) I rx ry q
  obtain rfl : u = Value.ref a := rx
  obtain ⟨mA, O, _⟩ := ins_get I.hok ea
  obtain ⟨od, J, _⟩ := O.look
  have L1 := J.type (M := model X.prog X.w)
  have L2 := noI_looks (M := model X.prog X.w) (add := op == .Add) n I.kIn
  obtain ⟨hh, g, d, tt, os⟩ := s
  unfold inplaceOp
  refine wpAny_holding (wpAny_bind (L1.at (wpAny_bind (L2.at ?_))))
  simp only [Bool.false_eq_true, if_false]
  refine wpAny_bind (wpAny_mono one (fun r s' z => ?_) fun _ _ z => z)
  obtain ⟨v', rfl, z⟩ := z
  exact wpAny_pure z
/-- op x -/
def rUn (C : Addr) (sp : Sp) (E : XK) : V → Hp → VK → Prop := fun x H Q => ∃ a dx fs, x = .ref a ∧ H a = some (.ins C dx fs) ∧ sp [x] H Q E
theorem un_neg_own {f : Addr} (c : MeC X.prog X.w X.K X.mg X.base CX C "__neg__" k ["self"] sp f) (hr : Room j X.A) (hk : k ≤ j) (hx : ∀ σ, PassesAt CX X σ E) : UnR X (unaryOp .USub) (rUn C sp E) := by
  intro pins s σ H x v Q I rx ⟨a, dx, fs, ex, ea, q⟩
  subst ex
  obtain rfl : v = Value.ref a := rx
  obtain ⟨mA, O, _⟩ := ins_get I.hok ea
  obtain ⟨od, J, _⟩ := O.look
  obtain ⟨m, F⟩ := I.fr
  exact PySem.W.ksp_neg F I.ok.mod.kin J c.at_ c.fn (c.call (vs := [.ref a]) hr hk (hx σ) I (.cons rfl .nil) q)
theorem un_inv_own {f : Addr} (c : MeC X.prog X.w X.K X.mg X.base CX C "__invert__" k ["self"] sp f) (hr : Room j X.A) (hk : k ≤ j) (hx : ∀ σ, PassesAt CX X σ E) : UnR X (unaryOp .Invert) (rUn C sp E) := by
  intro pins s σ H x v Q I rx ⟨a, dx, fs, ex, ea, q⟩
  subst ex
  obtain rfl : v = Value.ref a := rx
  obtain ⟨mA, O, _⟩ := ins_get I.hok ea
  obtain ⟨od, J, _⟩ := O.look
  obtain ⟨m, F⟩ := I.fr
  exact PySem.W.ksp_inv F I.ok.mod.kin J c.at_ c.fn (c.call (vs := [.ref a]) hr hk (hx σ) I (.cons rfl .nil) q)
/-- what is never reached -/
def tDead : TS := fun _ _ _ => False
theorem ps_dead {st : Stmt} : PS X st tDead := ⟨fun _ _ _ _ _ _ h => h.elim⟩
/-! int's side of the signs -/
theorem is_add : IntS "add" := ⟨F.fills_int_add, _, _, F.slot_int_add, F.entry_int_add, F.args_int_add_2, fun _ _ _ _ _ => intBin_dn _ _ _ _ _⟩
theorem is_sub : IntS "sub" := ⟨F.fills_int_sub, _, _, F.slot_int_sub, F.entry_int_sub, F.args_int_sub_2, fun _ _ _ _ _ => intBin_dn _ _ _ _ _⟩
theorem is_mul : IntS "mul" := ⟨F.fills_int_mul, _, _, F.slot_int_mul, F.entry_int_mul, F.args_int_mul_2, fun _ _ _ _ _ => intBin_dn _ _ _ _ _⟩
theorem is_floordiv : IntS "floordiv" := ⟨F.fills_int_floordiv, _, _, F.slot_int_floordiv, F.entry_int_floordiv, F.args_int_floordiv_2, fun _ _ _ _ _ => intFdv_dn _ _⟩
theorem is_and : IntS "and" := ⟨F.fills_int_and, _, _, F.slot_int_and, F.entry_int_and, F.args_int_and_2, fun _ _ _ _ _ => intBin_dn _ _ _ _ _⟩
theorem is_or : IntS "or" := ⟨F.fills_int_or, _, _, F.slot_int_or, F.entry_int_or, F.args_int_or_2, fun _ _ _ _ _ => intBin_dn _ _ _ _ _⟩
theorem is_xor : IntS "xor" := ⟨F.fills_int_xor, _, _, F.slot_int_xor, F.entry_int_xor, F.args_int_xor_2, fun _ _ _ _ _ => intBin_dn _ _ _ _ _⟩
end
end Bs



namespace Bs
open PySem PySem.Spec PySem.Calls PyProof.Rows L2
section
variable {X : Cx} {CX : CXT} {C : Addr} {m : Str} {j k : Nat} {ps : List Str} {sp : Sp} {f : Addr} {E : XK}
theorem MeC.call1 (c : MeC X.prog X.w X.K X.mg X.base CX C m k ps sp f) (hr : Room (k + 1) X.A) {pins : List (Addr × Obj)} {σ : L2.St} (hx : PassesAt CX X σ E) {H : Hp} {s : Shared} {Q : VK} {us : List Value} {vs : List V} (I : Inv X pins σ H s) (r : Vals vs us) (h : sp vs H Q E) :
    wpAny (model X.prog X.w) X.A.in1 (PySem.call (.ref f) us) (EP X pins σ Q) X.xe s := by
  obtain ⟨fd, F, b⟩ := c.ex
  have l := F.len _ _ _ _ h
  have bt := b s us I.kIn (by rw [List.append_nil, ← r.length, l])
  rw [List.append_nil] at bt
  apply wpAny_call
  apply codeAny_mono (F.run X.A.in1 X.stack s H ⟨us, []⟩ us vs Q E hr.in1 I.env0.in1 bt r h)
  intro rs t q
  match rs, q with
  | .error er, q => exact hx pins H s er t I q
  | .ok (.ret u), q => exact I.after q
  | .ok .next, q => exact q.elim
  | .ok .brk, q => exact q.elim
  | .ok .cont, q => exact q.elim
/-- x[y] of an own class -/
def tIxOwn (C : Addr) (sp : Sp) (E : L2.St → XK) (ta tb : TE) : TE := fun σ H Q => ta σ H fun x H1 => tb σ H1 fun y H2 => ∃ a dx fs, x = .ref a ∧ H2 a = some (.ins C dx fs) ∧ sp [.ref a, y] H2 Q (E σ)
theorem pe_ixOwn {E : L2.St → XK} {e1 e2 : Expr} {ta tb : TE} {pos : Pos} (c : MeC X.prog X.w X.K X.mg X.base CX C "__getitem__" k ["self", "at"] sp f) (hf : PySem.W.fnIn X.K f = true) (hr : Room j X.A) (hk : k + 1 ≤ j) (hx : ∀ σ, PassesAt CX X σ (E σ)) (ha : PE X e1 ta) (hb : PE X e2 tb)
    (hsl : ∀ o i, subscripted e2 true o i = runValue (.builtin "lifetime.subscript" ⟨[o, i], []⟩) := by intros; with_unfolding_all rfl) : PE X (.Subscript e1 e2 pos) (tIxOwn C sp E ta tb) := by
  refine ⟨fun pins s σ H Q I h => Subscript_ (binT ha hb I h fun v u s2 x y H2 I2 rx ry q => ?_)⟩
  obtain ⟨a, dx, fs, ex, ea, q⟩ := q
  subst ex
  obtain rfl : v = Value.ref a := rx
  obtain ⟨mA, O, _⟩ := ins_get I2.hok ea
  obtain ⟨od, J, _⟩ := O.look
  obtain ⟨m, F⟩ := I2.fr
  exact PySem.W.sub_K F I2.ok.mod.kin J c.at_ hf c.fn (c.call1 (vs := [.ref a, y]) (hr.mono hk) (hx σ) I2 (.cons rfl (.cons ry .nil)) q) (hsl _ _)
end
end Bs

set_option Elab.async false
set_option linter.all false
set_option maxRecDepth 100000
set_option maxHeartbeats 2000000
/-! Signs of own classes with an int on the right alone; signs that set, by the slots. -/
namespace Bs
open PySem PySem.Spec PySem.Calls PyProof.Rows L2
/-- a sign of an own class for an int on the right; nothing reflected -/
structure OpL (P : Program) (w : World) (K : PySem.W.Frag) (mg : Str → Option Value) (base : Heap) (CX : CXT) (C : Addr) (nm : String) (k : Nat) (sp : Sp) : Prop where
  cs : ClsS K C
  fi : fillsNumberSlot (.type "int") nm = pure true
  ri : ∃ fo, PySem.W.findIn K (.type "int") (dunderR nm) = some (some fo)
  rn : PySem.W.findIn K (.ref C) (dunderR nm) = some none
  ex : ∃ f, MeC P w K mg base CX C (dunder nm) k ["self", "other"] sp f
def rOwnL (C : Addr) (sp : Sp) (E : XK) : R2 := fun x y H Q => ∃ a dx fs i, x = .ref a ∧ y = .int i ∧ H a = some (.ins C dx fs) ∧ sp [.ref a, .int i] H Q E
section
variable {X : Cx} {CX : CXT} {C : Addr} {j k : Nat} {sp spR : Sp} {E : XK} {nm : String}
theorem ownL1 (c : OpL X.prog X.w X.K X.mg X.base CX C nm k sp) (hr : Room j X.A) (hk : k ≤ j) {pins : List (Addr × Obj)} {σ : L2.St} (hx : PassesAt CX X σ E) {H : Hp} {s : Shared} {Q : VK} {u v : Value} {x y : V} (I : Inv X pins σ H s) (rx : RelV x u) (ry : RelV y v)
    (h : rOwnL C sp E x y H Q) : wpAny (model X.prog X.w) X.A (binaryOp1 nm u v) (fun r s' => ∃ v, r = some v ∧ EP X pins σ Q v s') X.xe s := by
  obtain ⟨a, dx, fs, i, rfl, rfl, ea, q⟩ := h
  obtain ⟨f, mf⟩ := c.ex
  obtain ⟨cd, rest, hcd, hm⟩ := PySem.W.ksp_first c.cs.sf
  obtain rfl : u = Value.ref a := rx
  obtain ⟨t, rfl⟩ := ry
  obtain ⟨mA, O, _⟩ := ins_get I.hok ea
  obtain ⟨od, J, _⟩ := O.look
  have run : wpAny (model X.prog X.w) X.A (call (.ref f) [.ref a, .int i t]) (PySem.W.CmpBack (EP X pins σ Q)) X.xe s :=
    wpAny_mono (mf.call (vs := [.ref a, .int i]) hr hk hx I (.cons rfl (.cons ⟨t, rfl⟩ .nil)) q) (fun _ _ z => back_of z) fun _ _ z => z
  obtain ⟨fo, hfo⟩ := c.ri
  exact bin1_left I.kIn J hcd hm mf.at_ mf.fn c.rn (.inl rfl) c.fi hfo c.cs.s1 run
def tOwnL (C : Addr) (sp : Sp) (E : L2.St → XK) (ta tb : TE) : TE := fun σ H Q => ta σ H fun x H1 => tb σ H1 fun y H2 => rOwnL C sp (E σ) x y H2 Q
theorem pe_ownL {E : L2.St → XK} {a b : Expr} {ta tb : TE} {pos : Pos} {op : Operator} (c : OpL X.prog X.w X.K X.mg X.base CX C op.info.2 k sp) (hr : Room j X.A) (hk : k ≤ j) (hx : ∀ σ, PassesAt CX X σ (E σ)) (ha : PE X a ta) (hb : PE X b tb) : PE X (.BinOp a op b pos) (tOwnL C sp E ta tb) := by
  refine ⟨fun pins s σ H Q I h => wpAny_BinOp (binT ha hb I h fun v u s2 x y H2 I2 rx ry q => ?_)⟩
  unfold binaryOp
  refine wpAny_holding (wpAny_bind (wpAny_mono (ownL1 c hr hk (hx σ) I2 rx ry q) (fun r s' z => ?_) fun _ _ z => z))
  obtain ⟨v', rfl, z⟩ := z
  exact wpAny_pure z
/-- signs that set: what they ask may hang on the slots -/
def PIpD (X : Cx) (op : Operator) (t : L2.St → TIp) : Prop :=
  ∀ (pins : List (Addr × Obj)) (s : Shared) (σ : L2.St) (H : Hp) (x y : V) (v u : Value) (Q : VK), Inv X pins σ H s → RelV x v → RelV y u → t σ x y H Q → wpAny (model X.prog X.w) X.A (inplaceOp op v u) (EP X pins σ Q) X.xe s
def tAugD (i : Nat) (te : TE) (ti : L2.St → TIp) : TS := fun D σ H => ∃ x, σ[i]? = some (some x) ∧ te σ H fun y H1 => ti σ x y H1 fun z H2 => D.nx (σ.set i (some z)) H2
theorem ps_augD {i : Nat} {x : Str} {e : Expr} {te : TE} {op : Operator} {ti : L2.St → TIp} {pos pos' : Pos} (nd : X.N.Nodup) (at_ : X.N[i]? = some x) (lx : Loc X.env.scope x) (pe : PE X e te) (po : PIpD X op ti) (fx : X.fn x = true ∨ X.env.scope.names.lookup x = some .local := by first | exact .inl rfl | exact .inr rfl | assumption) :
    PS X (.AugAssign (.Name x pos') op e pos) (tAugD i te ti) := by
  refine ⟨fun pins s σ H D I h => ?_⟩
  obtain ⟨v, ev, h⟩ := h
  obtain ⟨m, hn, hl⟩ := I.loc
  obtain ⟨u, r, l⟩ := hl i x v at_ ev (lx.elim (fun k => .inl k) fun k => .inr (.inl k))
  refine wpAny_AugAssign_Name ?_
  have both := fun (w' : Value) (s1 : Shared) (z : EP X pins σ (fun y H1 => ti σ v y H1 fun z H2 => D.nx (σ.set i (some z)) H2) w' s1) => match z with
    | ⟨y, H1, I1, r1, q1⟩ => thn (po pins s1 σ H1 v y u w' _ I1 r r1 q1) fun r' s2 (z2 : EP X pins σ (fun z H2 => D.nx (σ.set i (some z)) H2) r' s2) => match z2 with
      | ⟨zv, H2, I2, r2, q2⟩ => store_ok (M := model X.prog X.w) (A := X.A) (E := X.xe) (Q := fun _ => SP X pins D .next) I2 nd at_ lx r2 (fun s3 I3 => ⟨_, H2, I3, q2⟩) fx
  have go := thn (pe.run pins s σ H _ I h) both
  rcases l with ⟨hk, hm⟩ | ⟨hk, c, hc, hcell⟩
  · exact wpAny_loadName_local I.ok.kind hk hn hm go
  · rcases hk with hk | hk
    · exact wpAny_loadName_cell I.ok.kind hk hc hcell go
    · rcases lx with k | k <;> (rw [show X.env.scope.names.lookup x = some .free from hk] at k; cases k)
theorem inp_of {op : Operator} (n : NoI X.K C op.info.2) {pins : List (Addr × Obj)} {σ : L2.St} {H : Hp} {s : Shared} {Q : VK} {a dx : Addr} {fs : List (Str × V)} {v : Value} (I : Inv X pins σ H s) (ea : H a = some (.ins C dx fs))
    (one : wpAny (model X.prog X.w) X.A (binaryOp1 op.info.2 (.ref a) v) (fun r s' => ∃ v, r = some v ∧ EP X pins σ Q v s') X.xe s) : wpAny (model X.prog X.w) X.A (inplaceOp op (.ref a) v) (EP X pins σ Q) X.xe s := by
  obtain ⟨mA, O, _⟩ := ins_get I.hok ea
  obtain ⟨od, J, _⟩ := O.look
  have L1 := J.type (M := model X.prog X.w)
  have L2 := noI_looks (M := model X.prog X.w) (add := op == .Add) n I.kIn
  obtain ⟨hh, g, d, tt, os⟩ := s
  unfold inplaceOp
  refine wpAny_holding (wpAny_bind (L1.at (wpAny_bind (L2.at ?_))))
  simp only [Bool.false_eq_true, if_false]
  refine wpAny_bind (wpAny_mono one (fun r s' z => ?_) fun _ _ z => z)
  obtain ⟨v', rfl, z⟩ := z
  exact wpAny_pure z
def ipOwn (C : Addr) (sp spR : Sp) (E : L2.St → XK) : L2.St → TIp := fun σ x y H Q => (∃ a dx fs, x = .ref a ∧ H a = some (.ins C dx fs)) ∧ rOwn C sp spR (E σ) x y H Q
theorem ipd_own {E : L2.St → XK} {op : Operator} (c : OpS X.prog X.w X.K X.mg X.base CX C op.info.2 k sp spR) (n : NoI X.K C op.info.2) (hr : Room j X.A) (hk : k ≤ j) (hx : ∀ σ, PassesAt CX X σ (E σ)) : PIpD X op (ipOwn C sp spR E) := by
  intro pins s σ H x y u v Q I rx ry ⟨⟨a, dx, fs, ex, ea⟩, q⟩
  subst ex
  have one := own1 c hr hk (hx σ) I rx ry q
  obtain rfl : u = Value.ref a := rx
  exact inp_of n I ea one
def ipOwnL (C : Addr) (sp : Sp) (E : L2.St → XK) : L2.St → TIp := fun σ => rOwnL C sp (E σ)
theorem ipd_ownL {E : L2.St → XK} {op : Operator} (c : OpL X.prog X.w X.K X.mg X.base CX C op.info.2 k sp) (n : NoI X.K C op.info.2) (hr : Room j X.A) (hk : k ≤ j) (hx : ∀ σ, PassesAt CX X σ (E σ)) : PIpD X op (ipOwnL C sp E) := by
  intro pins s σ H x y u v Q I rx ry q
  have one := ownL1 c hr hk (hx σ) I rx ry q
  obtain ⟨a, dx, fs, i, rfl, rfl, ea, q⟩ := q
  obtain rfl : u = Value.ref a := rx
  exact inp_of n I ea one
/-! readings -/
abbrev cOwn2 (C : Addr) (sp spR : Sp) (E : XK) (x y : V) (H : Hp) (Q : VK) : Prop := rOwn C sp spR E x y H Q
variable {σ : L2.St} {H : Hp} {Q : VK} {D : Ends} {ta tb te : TE} {i : Nat} {a dx : Addr} {fs : List (Str × V)} {n : Int} {x y : V}
def cOwnL (C : Addr) (sp : Sp) (E : XK) (Q : VK) (x y : V) (H : Hp) : Prop := rOwnL C sp E x y H Q
theorem r_ownL {E : L2.St → XK} (h : ta σ H fun x H1 => tb σ H1 (cOwnL C sp (E σ) Q x)) : tOwnL C sp E ta tb σ H Q := h
theorem ownL_w (e : H a = some (.ins C dx fs)) (h : sp [.ref a, .int n] H Q E) : cOwnL C sp E Q (.ref a) (.int n) H := ⟨a, dx, fs, n, rfl, rfl, e, h⟩
theorem r_augD {ti : L2.St → TIp} (e : σ[i]? = some (some x)) (h : te σ H fun y H1 => ti σ x y H1 fun z H2 => D.nx (σ.set i (some z)) H2) : tAugD i te ti D σ H := ⟨x, e, h⟩
theorem r_ipL {E : L2.St → XK} (h : cOwnL C sp (E σ) Q x y H) : ipOwnL C sp E σ x y H Q := h
theorem r_ipO {E : L2.St → XK} (e : H a = some (.ins C dx fs)) (h : cOwn2 C sp spR (E σ) (.ref a) y H Q) : ipOwn C sp spR E σ (.ref a) y H Q := ⟨⟨a, dx, fs, rfl, e⟩, h⟩
end
end Bs

set_option Elab.async false
set_option linter.all false
set_option maxRecDepth 100000
set_option maxHeartbeats 2000000
/-! == and != between objects of an own class with an __eq__ of its own. -/
namespace Bs
open PySem PySem.Spec PySem.Calls PyProof.Rows L2
section
variable {prog : Program} {w : World} {A : Around} {R : Value → Shared → Prop} {s : Shared} {K : PySem.W.Frag} {x y C f : Addr} {ox oy : Obj} {od oe : Option Obj}
/-- object's != asks the own == -/
theorem ne_entry (X : K.In s.heap) (I : PySem.W.InstAt s.heap x ox C od) (hs : PySem.W.findIn K (.ref C) "__eq__" = some (some (.ref f))) (hf : PySem.W.isFn K (.ref f) = true) (hu : A.units < cLine) {Q : Fin → Shared → Prop}
    (h : wpAny (model prog w) A (call (.ref f) [.ref x, .ref y]) (fun v s' => ∃ b, v = .bool b ∧ Q (.done (.ret (.bool (!b)))) s') R s) : wpAny (model prog w) A (Builtin.«object.__ne__» ⟨[.ref x, .ref y], []⟩) Q R s := by
  unfold Builtin.«object.__ne__»
  repeat (first
    | (with_reducible refine wpAny_cRoomFor hu ?_)
    | (refine wpAny_bind (m := callSpecialIfBound? (.ref x) (Str.ofString "__eq__") [.ref y]) (PySem.W.ifBound_K X I hs hf (wpAny_mono h (fun r s' z => by
        obtain ⟨b, rfl, q⟩ := z
        repeat (first | exact q | exact wpAny_pure q | exact wpAny_truthy_bool q | (refine wpAny_bind (m := truthy (.bool _)) (wpAny_truthy_bool ?_)) | wp_step)) fun _ _ z => z)))
    | wp_step)
theorem ne_bound (X : K.In s.heap) (I : PySem.W.InstAt s.heap x ox C od) (hn : PySem.W.findIn K (.ref C) "__ne__" = some (some (.builtin "object.__ne__"))) {args : List Value} {Q : Option Value → Shared → Prop}
    (h : wpAny (model prog w) A (call (.builtin "object.__ne__") (.ref x :: args)) (fun v => Q (some v)) R s) : wpAny (model prog w) A (callSpecialIfBound? (.ref x) "__ne__" args) Q R s := by
  have last : wpAny (model prog w) A (call (.builtin "object.__ne__") ([.ref x] ++ args) >>= fun v => pure (some v)) Q R s := wpAny_bind (wpAny_mono h (fun _ _ z => wpAny_pure z) fun _ _ z => z)
  simp only [callSpecialIfBound?, bindSpecialIfBound?]
  refine wpAny_holding (wpAny_bind (wpAny_bind (wpAny_bind (I.type.here ((PySem.W.looks_findIn X hn).here (wpAny_bind (wpAny_askSetting (wpAny_ite ?_))))))))
  split
  · exact wpAny_bind (wpAny_of_eq (F.cmp_object.ne.bind _) (wpAny_pure (by exact last)))
  · exact wpAny_tryCatch (wpAny_bind (wpAny_of_eq (F.cmp_object.ne.bind _) (wpAny_pure (by exact last))))
theorem ne_try (X : K.In s.heap) (I : PySem.W.InstAt s.heap x ox C od) (hs : PySem.W.findIn K (.ref C) "__eq__" = some (some (.ref f))) (hf : PySem.W.isFn K (.ref f) = true) (hn : PySem.W.findIn K (.ref C) "__ne__" = some (some (.builtin "object.__ne__"))) (hm : PySem.W.mroIn K C (.type "object") = some true)
    (hu : A.units + 1 < cLine) {Q : Option Value → Shared → Prop} (h : wpAny (model prog w) A.in1 (call (.ref f) [.ref x, .ref y]) (fun v s' => ∃ b, v = .bool b ∧ Q (some (.bool (!b))) s') R s) : wpAny (model prog w) A (tryCompare (.ref x) "__ne__" (.ref y)) Q R s := by
  unfold tryCompare
  have e := ne_entry (A := A.in1) (y := y) (Q := fun r s' => ∃ b, r = .done (.ret (.bool b)) ∧ Q (some (.bool b)) s') X I hs hf hu (wpAny_mono h (fun v s' z => by obtain ⟨b, hb, q⟩ := z; exact ⟨b, hb, _, rfl, q⟩) fun _ _ z => z)
  refine wpAny_bind (ne_bound X I hn (wpAny_call (codeAny_call_builtin F.cmp_object.ne.plain F.cmpEntry_ne (PySem.W.check_slot F.cmpKind_ne F.cmpSplit_ne (I.type.andThen (PySem.W.looks_mroIn X hm)) (F.cmpArgs_ne _ _) (wpAny_mono e (fun r s' z => ?_) fun _ _ z => z)))))
  obtain ⟨b, rfl, q⟩ := z
  first | exact wpAny_pure q | exact q
theorem ne_rich (X : K.In s.heap) (I : PySem.W.InstAt s.heap x ox C od) (J : PySem.W.InstAt s.heap y oy C oe) (hs : PySem.W.findIn K (.ref C) "__eq__" = some (some (.ref f))) (hf : PySem.W.isFn K (.ref f) = true) (hn : PySem.W.findIn K (.ref C) "__ne__" = some (some (.builtin "object.__ne__"))) (hm : PySem.W.mroIn K C (.type "object") = some true)
    (hu : A.units + 1 < cLine) {Q : Value → Shared → Prop} (h : wpAny (model prog w) A.in1 (call (.ref f) [.ref x, .ref y]) (fun v s' => ∃ b, v = .bool b ∧ Q (.bool (!b)) s') R s) : wpAny (model prog w) A (richCompare .NotEq (.ref x) (.ref y)) Q R s := by
  unfold richCompare
  simp only [oneThing_ref]
  refine wpAny_holding (wpAny_bind (wpAny_cRoomFor (Nat.lt_of_succ_lt hu) (wpAny_bind (I.type.here (wpAny_bind (J.type.here ?_))))))
  rw [show (Value.ref C != Value.ref C) = false from by simp]
  simp only [Bool.false_eq_true, if_false]
  refine wpAny_bind (wpAny_pure ?_)
  simp only [Bool.false_eq_true, if_false]
  refine wpAny_bind (ne_try X I hs hf hn hm hu (wpAny_mono h (fun v s' z => ?_) fun _ _ z => z))
  obtain ⟨b, rfl, q⟩ := z
  first | exact ⟨b, rfl, wpAny_pure q⟩ | exact ⟨b, rfl, wpAny_pure (wpAny_pure q)⟩ | exact ⟨b, rfl, q⟩
end
/-- what == and != of an own class lean on -/
structure EqO (P : Program) (w : World) (K : PySem.W.Frag) (mg : Str → Option Value) (base : Heap) (C : Addr) (k : Nat) (sp : Sp) : Prop where
  nf : PySem.W.notFirst K C (.ref C) = true
  hn : PySem.W.findIn K (.ref C) "__ne__" = some (some (.builtin "object.__ne__"))
  hm : PySem.W.mroIn K C (.type "object") = some true
  ex : ∃ f, MeC P w K mg base CX0 C "__eq__" k ["self", "other"] sp f
def rEqO (C : Addr) (sp : Sp) : R2 := fun x y H Q => ∃ a b dx dy fs gs, x = .ref a ∧ y = .ref b ∧ H a = some (.ins C dx fs) ∧ H b = some (.ins C dy gs) ∧ sp [.ref a, .ref b] H Q fun _ _ _ => False
def rNeO (C : Addr) (sp : Sp) : R2 := fun x y H Q => ∃ a b dx dy fs gs, x = .ref a ∧ y = .ref b ∧ H a = some (.ins C dx fs) ∧ H b = some (.ins C dy gs) ∧ sp [.ref a, .ref b] H (fun v H' => ∃ c, v = .bl c ∧ Q (.bl (!c)) H') fun _ _ _ => False
section
variable {X : Cx} {C : Addr} {j k : Nat} {sp : Sp}
theorem op_eqO (c : EqO X.prog X.w X.K X.mg X.base C k sp) (hr : Room j X.A) (hk : k + 1 ≤ j) : OpR X (compareOp .Eq) (rEqO C sp) := by
  intro pins s σ H x y v u Q I rx ry ⟨a, b, dx, dy, fs, gs, ex, ey, ea, eb, q⟩
  subst ex ey
  obtain rfl : v = Value.ref a := rx
  obtain rfl : u = Value.ref b := ry
  obtain ⟨f, mf⟩ := c.ex
  obtain ⟨mA, O, _⟩ := ins_get I.hok ea
  obtain ⟨mB, O', _⟩ := ins_get I.hok eb
  obtain ⟨oa, J, _⟩ := O.look
  obtain ⟨ob, J', _⟩ := O'.look
  obtain ⟨m, hF⟩ := I.fr
  show wpAny (model X.prog X.w) X.A (richCompare .Eq (.ref a) (.ref b)) (EP X pins σ Q) X.xe s
  exact PySem.W.cmp_K (op := .Eq) (tb := .ref C) hr.units0 hF I.ok.mod.kin J J'.type c.nf mf.at_ mf.fn (wpAny_mono (mf.call (vs := [.ref a, .ref b]) hr (Nat.le_trans (Nat.le_succ _) hk) psE0 I (.cons rfl (.cons rfl .nil)) q) (fun _ _ z => back_of z) fun _ _ z => z)
theorem op_neO (c : EqO X.prog X.w X.K X.mg X.base C k sp) (hr : Room j X.A) (hk : k + 1 ≤ j) : OpR X (compareOp .NotEq) (rNeO C sp) := by
  intro pins s σ H x y v u Q I rx ry ⟨a, b, dx, dy, fs, gs, ex, ey, ea, eb, q⟩
  subst ex ey
  obtain rfl : v = Value.ref a := rx
  obtain rfl : u = Value.ref b := ry
  obtain ⟨f, mf⟩ := c.ex
  obtain ⟨mA, O, _⟩ := ins_get I.hok ea
  obtain ⟨mB, O', _⟩ := ins_get I.hok eb
  obtain ⟨oa, J, _⟩ := O.look
  obtain ⟨ob, J', _⟩ := O'.look
  have hu : X.A.units + 1 < cLine := hu_of hr
  show wpAny (model X.prog X.w) X.A (richCompare .NotEq (.ref a) (.ref b)) (EP X pins σ Q) X.xe s
  refine ne_rich I.kIn J J' mf.at_ mf.fn c.hn c.hm hu (wpAny_mono (mf.call1 (vs := [.ref a, .ref b]) (hr.mono hk) psE0 I (.cons rfl (.cons rfl .nil)) q) (fun r s' z => ?_) fun _ _ z => z)
  obtain ⟨x, H', I', r1, c, rfl, q1⟩ := z
  obtain rfl : r = Value.bool c := r1
  exact ⟨c, rfl, .bl (!c), H', I', rfl, q1⟩
end
end Bs

set_option Elab.async false
set_option linter.all false
set_option maxRecDepth 100000
set_option maxHeartbeats 4000000
/-! The end of a law whose def must know that no repr is under way; the head's facts. -/
namespace Bs
open PySem PySem.Spec PySem.Calls PyProof.Rows L2
theorem toV_ints : ∀ {vs : List Value} {ns : List Int}, IntsAre vs ns → vs.map toV = ns.map V.int ∧ ∀ u ∈ vs, ∀ A, OkU A u
  | _, _, .nil => ⟨rfl, fun u h => by cases h⟩
  | _, _, .cons n t h => by
    obtain ⟨e, g⟩ := toV_ints h
    refine ⟨?_, fun u hu A => ?_⟩
    · show V.int n :: _ = V.int n :: _
      rw [e]
    · rcases List.mem_cons.mp hu with q | q
      · rw [q]; exact trivial
      · exact g u q A
section
variable {P : Program} {w : World} {K : PySem.W.Frag} {mg mb : Str → Option Value} {k : Nat} {fa a : Addr} {fd : FuncData} {x : Str} {sp : Sp} {s : Shared} {vs : List Value} {ns : List Int}
theorem law_callG (X : K.In s.heap) (G : s.heap.Ns mainGlobals mg) (GB : s.heap.Ns builtinsNs mb) (bb : ∀ x : Str, x ≠ "__name__" → mb x = bootBuiltins x) (nl : s.heap.NoLimit) (ng : s.gens = #[]) (la : s.heap.get? a = some { cls := .type "list", data := .seq vs.toArray })
    (ia : IntsAre vs ns) (le : ns.length ≤ sizeLine) (rm : Room k callerA) (F : ∀ b : Heap, K.In b → b.Ns mainGlobals mg → FnG P w K mg b CX0 k fa fd [x] sp) (bi : ∀ (s : Shared) (u : Value), BindsTo s fd ⟨[u], []⟩ [(x, u)])
    (wish : ∀ H : Hp, SqL K H a (ns.map V.int) → sp [.ref a] H (fun v _ => v = .bl true) E0) :
    codeAny (model P w) callerA (.call (.ref fa) ⟨[.ref a], []⟩) (fun r t => r = .ok (.ret (.bool true)) ∧ OldK s.heap t.heap ∧ t.os = s.os ∧ AllBare t.gens) s := by
  obtain ⟨ev, eu⟩ := toV_ints ia
  have ar : ∀ b ∈ [a], ArgOb s.heap [a] b := fun b m => by
    obtain rfl := List.mem_singleton.mp m
    exact ⟨vs, by rw [ia.length]; exact le, fun u m => eu u m _, .inl la⟩
  generalize hH : argH K s.heap [a] = H
  have ok : HOk P w H s.heap := hH ▸ argH_ok ar
  have on : OnlyF H := hH ▸ argH_only ar
  have sq : SqL K H a (ns.map V.int) := ev ▸ (hH ▸ (argL X ar (List.mem_singleton_self a) la).2)
  have at_ : ∀ {b : Addr} {u : HO}, H b = some u → b = a ∧ K.lookup b = none := fun {b u} e => by
    rw [← hH] at e
    exact ⟨List.mem_singleton.mp (of_argH e).1, (of_argH e).2⟩
  have lo : ∀ {b : Addr} {o : Obj}, s.heap.get? b = some o → (b = a → K.lookup b ≠ none) → (hidT s.heap H).get? b = some o := fun {b o} e n => by
    refine hidT_get e ?_
    cases q : H b with
    | none => rfl
    | some u => exact absurd (at_ q).2 (n (at_ q).1)
  have kb : K.In (hidT s.heap H) := fun b o e => lo (X b o e) fun _ z => by rw [z] at e; cases e
  have nsb : ∀ {b : Addr} {m : Str → Option Value}, s.heap.Ns b m → (hidT s.heap H).Ns b m := by
    rintro b m ⟨o, es, p, e, d, r⟩
    refine ⟨o, es, p, lo e fun z => ?_, d, r⟩
    subst z
    rw [la] at e
    cases e
    exact nomatch d
  have md : Mod K mg (hidT s.heap H) := by
    obtain ⟨mc, c1, c2⟩ := nl
    exact ⟨kb, nsb G, ⟨mb, nsb GB, bb⟩, ⟨mc, nsb c1, c2⟩⟩
  have en : Env0 P w K mg (hidT s.heap H) callerA [] s H := ⟨rfl, md, fun b o => of_hidT, Nat.le_of_eq (hidT_size _ _), trivial, fun b m => (nomatch (show b ∈ ([] : List Addr) from m)), ok, .of_eq ng⟩
  refine codeAny_mono ((F _ kb (nsb G)).go callerA [] s H ⟨[.ref a], []⟩ [.ref a] [.ref a] _ _ rfl rm en (bi s (.ref a)) (.cons rfl .nil) (wish H sq)) ?_
  intro r t post
  match r, post with
  | .error _, p => exact p.elim
  | .ok .next, p => exact p.elim
  | .ok .brk, p => exact p.elim
  | .ok .cont, p => exact p.elim
  | .ok (.ret u), ⟨v, H', eos, br, un, ok', rv, ev⟩ =>
    have ev2 : v = .bl true := ev
    rw [ev2] at rv
    have eu2 : u = Value.bool true := rv
    refine ⟨by rw [eu2], OldK.of_keep fun b o e => ?_, eos, br⟩
    rcases on b with n | ⟨o', y, f⟩
    · exact un.keep b o e n (fun z => (nomatch (show b ∈ ([] : List Addr) from z))) (by simp)
    · have g1 := (ok b _ f).1
      have g2 := (ok' b _ (un.frzs b o' y f)).1
      rw [e] at g1
      rw [Option.some.inj g1]
      exact g2
/-- a law: F gives the written part, the function object, the promise over every base; the script's bits are told -/
theorem walk_G {l : PySem.W.OpenLaw} {n k : Nat} {q : Program} {loose : List Str} {XP : (Str → Option Value) → Heap → Prop} {YP : World → Heap → Prop} {d : DefRec} {x : Str} (mo : l.most = some n) (mo2 : n ≤ sizeLine) (nd : d.params.defaults = []) (rm : Room k callerA)
    (F : ∀ (w : World) (mg : Str → Option Value) (fa : Addr) (h : Heap), YP w h → h.Ns mainGlobals mg → mg d.name = some (.ref fa) → ∃ (K : PySem.W.Frag) (fd : FuncData) (sp : Sp), K.In h ∧ (∀ (s : Shared) (u : Value), BindsTo s fd ⟨[u], []⟩ [(x, u)]) ∧
      (∀ (H : Hp) (a : Addr) (ns : List Int), ns.length ≤ n → (∀ z ∈ ns, Builtin.Int.intBits z ≤ 1048576) → SqL K H a (ns.map V.int) → sp [.ref a] H (fun v _ => v = .bl true) E0) ∧ ∀ b : Heap, K.In b → b.Ns mainGlobals mg → FnG l.prog w K mg b CX0 k fa fd [x] sp) :
    PySem.W.WalkO q loose XP YP l.row.toRowW d [] (fun f vs => PySem.call f vs) := by
  refine Att.attach_callB mo nd fun w s₀ s mg mb fa o pm cd doc a vs ns G Y _ _ _ em la ia le bits ng => ?_
  obtain ⟨K, fd, sp, X, bi, wi, go⟩ := F w mg fa _ Y G.T.g em
  exact law_callG X G.T.g G.T.b G.T.builtins G.T.nolimit ng la ia (Nat.le_trans le mo2) rm go bi fun H S => wi H a ns le bits S
end
/-! ### the head: facts as questions to the written part -/
abbrev Qn : Type := PySem.W.Frag → Bool
def obsM (fa : List Qn) (fn : List He5.DefA) (K : PySem.W.Frag) : He.AlD := ((fa.all fun f => f K) && fn.all fun d => d.ok K, fn.map fun d => He5.fnA K (d.at_ K))
def SaysM (fa : List Qn) (fn : List He5.DefA) (K : PySem.W.Frag) : Prop := obsM fa fn K = He5.valA fn
def obsMG (n : Nat) (fa : List Qn) (fn : List He5.DefA) (g : Addr → Option Obj) : He.AlD := obsM fa fn (He.frG g (He5.asA g n))
def hookM (n : Nat) (fa : List Qn) (fn : List He5.DefA) : PySem.W.Hook where
  α := He.AlD
  obs := fun s => obsMG n fa fn s.heap.get?
  val := fun _ => He5.valA fn
  says := fun _ h => ∃ K : PySem.W.Frag, K.In h ∧ SaysM fa fn K
  of := fun _ _ e => ⟨_, He.frG_in, e⟩
  keeps := fun _ _ _ ⟨K, hK, c⟩ k => ⟨K, PySem.W.Frag.In.keeps hK k, c⟩
theorem obsMG_eq {n : Nat} {fa : List Qn} {fn : List He5.DefA} {g : Addr → Option Obj} {s : Shared} (h : ∀ a, g a = s.heap.get? a) : obsMG n fa fn g = (hookM n fa fn).obs s := by
  obtain rfl : g = s.heap.get? := funext h
  rfl
section
variable {fa : List Qn} {fn : List He5.DefA} {K : PySem.W.Frag}
theorem SaysM.q (c : SaysM fa fn K) (i : Nat) {f : Qn} (h : fa[i]? = some f := by rfl) : f K = true :=
  List.all_eq_true.mp (Bool.and_eq_true_iff.mp (congrArg (fun z : He.AlD => z.1) c : ((fa.all fun f => f K) && fn.all fun d => d.ok K) = true)).1 f (List.mem_of_getElem? h)
theorem SaysM.d (c : SaysM fa fn K) (i : Nat) {d : He5.DefA} (h : fn[i]? = some d := by rfl) : ∃ fd, FunD K d.name d.qual d.params d.body d.scope (d.dvs K) (d.kws K) (d.at_ K) fd := by
  have all := (Bool.and_eq_true_iff.mp (congrArg (fun z : He.AlD => z.1) c : ((fa.all fun f => f K) && fn.all fun d => d.ok K) = true)).2
  have vals : (fn.map fun d => He5.fnA K (d.at_ K))[i]? = (fn.map He5.DefA.val)[i]? := congrArg (fun z : He.AlD => z.2[i]?) c
  simp only [List.getElem?_map, h, Option.map_some, Option.some.injEq] at vals
  exact He5.DefA.funD vals (List.all_eq_true.mp all d (List.mem_of_getElem? h))
end
/-! questions -/
def qGlo (x : Str) : Qn := fun K => (He.Fa.glo x).ok K
def qFree (x : Str) : Qn := fun K => (He.Fa.free x).ok K
def qCls (x : Str) : Qn := fun K => (He.Fa.cls x).ok K
def qNoat (x f : Str) : Qn := fun K => (He.Fa.noat x f).ok K
def qMkr (x : Str) : Qn := fun K => (He.Fa.mkr x).ok K
def prp (K : PySem.W.Frag) (C : Addr) (f : Str) : Addr := match PySem.W.recIn K (He.ma K C f) "property" with
  | some (.ref g :: _) => g
  | _ => 0
def propB (K : PySem.W.Frag) (C : Addr) (f : Str) : Bool := decide (PySem.W.findIn K (.ref C) f = some (some (.ref (He.ma K C f)))) && (decide (PySem.W.specialIn K (.ref (He.ma K C f)) "__get__" = some (some (.builtin "property.__get__"))) &&
  (decide (PySem.W.takesIn K (.ref (He.ma K C f)) = some true) && (match PySem.W.recIn K (He.ma K C f) "property" with
    | some (.ref _ :: _) => true
    | _ => false)))
theorem ban {a b : Bool} (h : (a && b) = true) : a = true ∧ b = true := Bool.and_eq_true_iff.mp h
theorem propB_ok {K : PySem.W.Frag} {C : Addr} {f : Str} (h : propB K C f = true) : PropOf K C f (He.ma K C f) (prp K C f) := by
  obtain ⟨h1, h⟩ := ban h
  obtain ⟨h2, h⟩ := ban h
  obtain ⟨h3, h4⟩ := ban h
  refine ⟨of_decide_eq_true h1, of_decide_eq_true h2, of_decide_eq_true h3, ?_⟩
  unfold prp
  split at h4
  · rename_i g r e
    exact ⟨r, by rw [e]⟩
  · cases h4
def qProp (x f : Str) : Qn := fun K => propB K (He.ga K x) f
/-! exception classes -/
def oexB (K : PySem.W.Frag) (C : Addr) : Bool := (match K.lookup C with
  | some ⟨.type t, _, .cls cd, sl⟩ => (match cd.mro, sl.toList with
    | .ref C' :: bm, [_, _, _, _, some (.builtin n), _] => t == "type" && (C' == C && (n == "ValueError.__new__" && (!cd.hasDel && (cd.hasDict && PySem.HandSPX.refsVE bm))))
    | _, _ => false)
  | _ => false) && (decide (PySem.W.findIn K (.ref C) "__setattr__" = some (some (.builtin "object.__setattr__"))) && (decide (PySem.W.subIn K (.ref C) (.type "BaseException") = some true) && (decide (PySem.W.typeIn K (.ref C) = some (.type "type")) && PySem.W.keepIn K (.ref C))))
theorem oexB_ok {K : PySem.W.Frag} {C : Addr} (h : oexB K C = true) : OexC K C := by
  obtain ⟨h1, h⟩ := ban h
  obtain ⟨h2, h⟩ := ban h
  obtain ⟨h3, h⟩ := ban h
  obtain ⟨h4, h5⟩ := ban h
  refine ⟨?_, of_decide_eq_true h2, of_decide_eq_true h3, of_decide_eq_true h4, h5⟩
  clear h h2 h3 h4 h5
  split at h1
  · rename_i t dd cd sl e
    split at h1
    · rename_i C' bm k0 k1 k2 k3 n k5 e1 e2
      obtain ⟨c0, h1⟩ := ban h1
      obtain ⟨c1, h1⟩ := ban h1
      obtain ⟨c2, h1⟩ := ban h1
      obtain ⟨c3, h1⟩ := ban h1
      obtain ⟨c4, c5⟩ := ban h1
      obtain rfl := beq_iff_eq.mp c0
      obtain rfl := beq_iff_eq.mp c1
      obtain rfl := beq_iff_eq.mp c2
      obtain ⟨n1, n2, n3, n4, n5, n6, n7, n8, n9, n10, n11⟩ := cd
      dsimp only at e1 c3 c4
      subst e1
      have c3' : n11 = false := by simpa using c3
      subst c3' c4
      obtain ⟨l⟩ := sl
      have e2' : l = _ := e2
      subst e2'
      exact ⟨n1, _, _, _, bm, _, _, _, _, dd, k0, k1, k2, k3, k5, e, c5⟩
    · cases h1
  · cases h1
def excB (K : PySem.W.Frag) (D : Addr) : Bool := decide (PySem.W.findIn K (.ref D) "__getattribute__" = some (some (.builtin "BaseException.__getattribute__"))) && (decide (PySem.W.findIn K (.ref D) "__getattr__" = some none) && (decide (PySem.W.subIn K (.ref D) (.type "BaseException") = some true) &&
  (PySem.W.hasDictIn K D && (decide (PySem.W.findIn K (.ref D) "__class__" = some (some (.builtin "object.__class__"))) && (decide (PySem.W.specialIn K (.builtin "object.__class__") "__get__" = some (some (.builtin "getset_descriptor.__get__"))) &&
  (decide (PySem.W.takesIn K (.builtin "object.__class__") = some true) && decide (PySem.W.mroIn K D (.type "object") = some true)))))))
theorem excB_ok {K : PySem.W.Frag} {D : Addr} (h : excB K D = true) : ExcC K D := by
  obtain ⟨h1, h⟩ := ban h
  obtain ⟨h2, h⟩ := ban h
  obtain ⟨h3, h⟩ := ban h
  obtain ⟨h4, h⟩ := ban h
  obtain ⟨h5, h⟩ := ban h
  obtain ⟨h6, h⟩ := ban h
  obtain ⟨h7, h8⟩ := ban h
  exact ⟨of_decide_eq_true h1, of_decide_eq_true h2, of_decide_eq_true h3, h4, of_decide_eq_true h5, of_decide_eq_true h6, of_decide_eq_true h7, of_decide_eq_true h8⟩
def xcB (K : PySem.W.Frag) (C f : Addr) : Bool := oexB K C && (decide (PySem.W.findIn K (.ref C) "value" = some none) && (xfB K C && (excB K C && (decide (PySem.W.findIn K (.ref C) "__init__" = some (some (.ref f))) && decide (PySem.W.typeIn K (.ref f) = some (.type "function"))))))
/-- an exception class of the module whose __init__ is that of BitError -/
def qXc (x : Str) : Qn := fun K => xcB K (He.ga K x) (He.ma K (He.ga K "BitError") "__init__")
theorem xc_of {P : Program} {w : World} {K : PySem.W.Frag} {h base : Heap} {mg : Str → Option Value} {x : Str} {fd : FuncData} (X : K.In h) (G : h.Ns mainGlobals mg) (g : qGlo x K = true) (q : qXc x K = true)
    (F : FnOk P w K mg base CX0 1 (He.ma K (He.ga K "BitError") "__init__") fd ["self", "value"] (sp_excInit K)) (b : Binds K fd ["self", "value"] []) : Xc P w K mg base x (He.ga K x) := by
  obtain ⟨h1, q⟩ := ban q
  obtain ⟨h2, q⟩ := ban q
  obtain ⟨h3, q⟩ := ban q
  obtain ⟨h4, q⟩ := ban q
  obtain ⟨h5, h6⟩ := ban q
  exact ⟨He.glo_ok X G g, oexB_ok h1, of_decide_eq_true h2, xfB_ok h3, excB_ok h4, _, fd, of_decide_eq_true h5, of_decide_eq_true h6, F, b⟩
def qXs (y x : Str) : Qn := fun K => decide (PySem.W.exmOne K (.ref (He.ga K x)) (.ref (He.ga K y)) = some true) && decide (PySem.W.kitOne K (.ref (He.ga K x)) (.ref (He.ga K x)) = some true)
theorem xs_of {K : PySem.W.Frag} {x y : Str} (h : qXs y x K = true) : Xs K (He.ga K y) (He.ga K x) := ⟨of_decide_eq_true (ban h).1, of_decide_eq_true (ban h).2⟩
/-- the built-in names, in this sequence -/
def bis : List Str := ["abs", "len", "max", "min", "int", "range", "isinstance", "repr", "tuple", "sum", "enumerate", "zip", "sorted", "set", "str", "divmod", "any", "all", "list", "bool", "ValueError", "TypeError", "dict", "next"]
def qBi : Qn := fun K => bis.all fun x => qFree x K
theorem bi_of {K : PySem.W.Frag} {h : Heap} {mg : Str → Option Value} (X : K.In h) (G : h.Ns mainGlobals mg) (q : qBi K = true) : Bi mg := by
  have g : ∀ x ∈ bis, mg x = none := fun x m => He.free_ok X G (List.all_eq_true.mp q x m)
  have t : ∀ (i : Nat) (x : Str), bis[i]? = some x → mg x = none := fun i x e => g x (List.mem_of_getElem? e)
  exact ⟨t 0 _ rfl, t 1 _ rfl, t 2 _ rfl, t 3 _ rfl, t 4 _ rfl, t 5 _ rfl, t 6 _ rfl, t 7 _ rfl, t 8 _ rfl, t 9 _ rfl, t 10 _ rfl, t 11 _ rfl, t 12 _ rfl, t 13 _ rfl, t 14 _ rfl, t 15 _ rfl, t 16 _ rfl, t 17 _ rfl, t 18 _ rfl, t 19 _ rfl, t 20 _ rfl, t 21 _ rfl, t 22 _ rfl, t 23 _ rfl⟩
theorem room30 : Room 30 callerA := ⟨rfl, by decide, by decide⟩
theorem fo_of {P : Program} {w : World} {K : PySem.W.Frag} {h base : Heap} {mg : Str → Option Value} {CX : CXT} {k : Nat} {x : Str} {ps : List Str} {sp : Sp} {fd : FuncData} (X : K.In h) (G : h.Ns mainGlobals mg) (g : qGlo x K = true) (F : FnOk P w K mg base CX k (He.ga K x) fd ps sp) (kp : PySem.W.keepIn K (.ref (He.ga K x)) = true)
    (b : Binds K fd ps []) : Fo P w K mg base CX k x ps sp := ⟨_, fd, F, He.glo_ok X G g, kp, b⟩
theorem foG_of {P : Program} {w : World} {K : PySem.W.Frag} {h base : Heap} {mg : Str → Option Value} {CX : CXT} {k : Nat} {x : Str} {ps : List Str} {sp : Sp} {fd : FuncData} (X : K.In h) (G : h.Ns mainGlobals mg) (g : qGlo x K = true) (F : FnG P w K mg base CX k (He.ga K x) fd ps sp) (kp : PySem.W.keepIn K (.ref (He.ga K x)) = true)
    (b : Binds K fd ps []) : FoG P w K mg base CX k x ps sp := ⟨_, fd, F, He.glo_ok X G g, kp, b⟩
theorem prc_of {P : Program} {w : World} {K : PySem.W.Frag} {base : Heap} {mg : Str → Option Value} {CX : CXT} {k : Nat} {x f : Str} {sp : Sp} {fd : FuncData} (cl : qCls x K = true) (q : qProp x f K = true) (F : FnOk P w K mg base CX k (prp K (He.ga K x) f) fd ["self"] sp) (b : Binds K fd ["self"] []) : PrC P w K mg base CX (He.ga K x) f k sp :=
  ⟨He.cls_ok cl, _, _, fd, propB_ok q, F, b⟩
theorem vals_app : ∀ {a b : List V} {c d : List Value}, Vals a c → Vals b d → Vals (a ++ b) (c ++ d)
  | _, _, _, _, .nil, h => h
  | _, _, _, _, .cons r g, h => .cons r (vals_app g h)
/-! methods, signs -/
def qMe (x m : Str) : Qn := fun K => decide (PySem.W.findIn K (.ref (He.ga K x)) m = some (some (.ref (He.ma K (He.ga K x) m)))) && PySem.W.isFn K (.ref (He.ma K (He.ga K x) m))
theorem me_of {P : Program} {w : World} {K : PySem.W.Frag} {base : Heap} {mg : Str → Option Value} {CX : CXT} {k : Nat} {x m : Str} {ps : List Str} {sp : Sp} {fd : FuncData} (q : qMe x m K = true) (F : FnOk P w K mg base CX k (He.ma K (He.ga K x) m) fd ps sp) (b : Binds K fd ps []) :
    MeC P w K mg base CX (He.ga K x) m k ps sp (He.ma K (He.ga K x) m) := ⟨of_decide_eq_true (ban q).1, (ban q).2, fd, F, b⟩
def qMeF (x m : Str) : Qn := fun K => PySem.W.fnIn K (He.ma K (He.ga K x) m)
def qCs (x : Str) : Qn := fun K => PySem.W.selfFirst K (He.ga K x) && (decide (PySem.W.subIn K (.type "int") (.ref (He.ga K x)) = some false) && decide (PySem.W.subIn K (.ref (He.ga K x)) (.type "int") = some false))
theorem cs_of {K : PySem.W.Frag} {x : Str} (h : qCs x K = true) : ClsS K (He.ga K x) := ⟨(ban h).1, of_decide_eq_true (ban (ban h).2).1, of_decide_eq_true (ban (ban h).2).2⟩
def qRi (nm : String) : Qn := fun K => match PySem.W.findIn K (.type "int") (dunderR nm) with
  | some (some _) => true
  | _ => false
theorem ri_of {K : PySem.W.Frag} {nm : String} (h : qRi nm K = true) : ∃ fo, PySem.W.findIn K (.type "int") (dunderR nm) = some (some fo) := by
  unfold qRi at h
  split at h
  · rename_i fo e
    exact ⟨fo, e⟩
  · cases h
def qNoI (x : Str) (nm : String) : Qn := fun K => match PySem.W.clsIn K (He.ga K x) with
  | some cd => cd.mro.all fun c => decide (PySem.W.findIn K c (dunderI nm) = some none)
  | _ => false
theorem noI_of {K : PySem.W.Frag} {x : Str} {nm : String} (h : qNoI x nm K = true) : NoI K (He.ga K x) nm := by
  unfold qNoI at h
  split at h
  · rename_i cd e
    exact ⟨cd, e, fun c m => of_decide_eq_true (List.all_eq_true.mp h c m)⟩
  · cases h
end Bs

set_option Elab.async false
set_option linter.all false
set_option maxRecDepth 100000
set_option maxHeartbeats 2000000
/-! lists that grow, dicts with int keys: owned. -/
namespace Bs
open PySem PySem.Spec PySem.Calls PyProof.Rows L2
section
variable {F H : Hp} {L : List (Addr × HO)} {K : PySem.W.Frag} {a : Addr} {i : Nat} {xs : List V} {v : V} {Q : VK} {σ : L2.St} {t : TA} {D : Ends}
def cBM (K : PySem.W.Frag) (T : String) (r : V → List V → Hp → VK → Prop) (t : TA) (σ : L2.St) (Q : VK) (x : V) (H1 : Hp) : Prop := tyV K T x H1 ∧ t σ H1 fun xs H2 => r x xs H2 Q
def cAp (x : V) (vs : List V) (H : Hp) (Q : VK) : Prop := rAppend x vs H Q
theorem r_bm {T : String} {r : V → List V → Hp → VK → Prop} {to : TE} (k : to σ H (cBM K T r t σ Q)) : tBM K T r to t σ H Q := k
theorem o_bmL (h : Own F H L) (e : L[i]? = some (a, .lst xs)) (k : t σ H fun vs H2 => cAp (.ref a) vs H2 Q) : cBM K "list" rAppend t σ Q (.ref a) H := ⟨Or.inl ⟨rfl, xs, SqL.of (h.get i e)⟩, k⟩
theorem o_app (h : Own F H L) (e : L[i]? = some (a, .lst xs)) (z : xs.length < 1000000) (k : ∀ H', Own F H' (L.set i (a, .lst (xs ++ [v]))) → Q .non H') : cAp (.ref a) [v] H Q :=
  ⟨a, xs, v, rfl, rfl, h.get i e, Nat.lt_of_lt_of_le z (by decide), k _ (h.put i e)⟩
theorem o_dnew (h : Own F H L) (k : ∀ p H', H p = none → Own F H' ((p, .dK []) :: L) → Q (.ref p) H') : tDNewK σ H Q := fun p n => k p _ n (h.new n)
def cDn (Q : VK) (y x : V) (H2 : Hp) : Prop := ∃ a o, x = .ref a ∧ DGet H2 a y o ∧ Q (.bl (!o.isSome)) H2
theorem r_dnotin {ty td : TE} (k : ty σ H fun y H1 => td σ H1 (cDn Q y)) : tDNotIn ty td σ H Q := k
theorem o_dn {kvs : List (Key × V)} {n : Int} (h : Own F H L) (e : L[i]? = some (a, .dK kvs)) (q : Q (.bl (!(valV kvs (.inl n)).isSome)) H) : cDn Q (.int n) (.ref a) H := ⟨a, _, rfl, DGet.k (k := .inl n) (h.get i e), q⟩
def cDg (Q : VK) (x y : V) (H2 : Hp) : Prop := ∃ a v, x = .ref a ∧ DGet H2 a y (some v) ∧ Q v H2
theorem r_dget {ty td : TE} (k : td σ H fun x H1 => ty σ H1 (cDg Q x)) : tDGet td ty σ H Q := k
theorem o_dg {kvs : List (Key × V)} {n : Int} (h : Own F H L) (e : L[i]? = some (a, .dK kvs)) (g : valV kvs (.inl n) = some v) (q : Q v H) : cDg Q (.ref a) (.int n) H := ⟨a, v, rfl, g ▸ DGet.k (k := .inl n) (h.get i e), q⟩
theorem o_dset {kvs : List (Key × V)} {n : Int} {R : Hp → Prop} (h : Own F H L) (e : L[i]? = some (a, .dK kvs)) (z : kvs.length < 1000000) (q : ∀ H', Own F H' (L.set i (a, .dK (putK kvs (.inl n) v))) → R H') : rSetD (.ref a) (.int n) v H R :=
  ⟨a, _, rfl, DPut.k (k := .inl n) (h.get i e) (Nat.lt_of_lt_of_le z (by decide)), q _ (h.put i e)⟩
def rLenD : List V → Hp → VK → Prop := fun xs H Q => ∃ a kvs, xs = [V.ref a] ∧ H a = some (.dK kvs) ∧ Q (.int kvs.length) H
theorem cb_lenD {X : Cx} : CallR X (.builtin "len") rLenD := call_lenD
theorem o_lenD {kvs : List (Key × V)} (h : Own F H L) (e : L[i]? = some (a, .dK kvs)) (q : Q (.int kvs.length) H) : rLenD [.ref a] H Q := ⟨a, kvs, rfl, h.get i e, q⟩
end
end Bs

set_option Elab.async false
set_option linter.all false
set_option maxRecDepth 100000
set_option maxHeartbeats 2000000
/-! a list comprehension over a range, owned. -/
namespace Bs
open PySem PySem.Spec PySem.Calls PyProof.Rows L2
section
variable {F H : Hp} {L : List (Addr × HO)} {σ : L2.St} {Q : VK} {te : TE} {i : Nat}
/-- [e for x in range(n)]: f what it gives at each turn; j the slot of x -/
theorem o_lcR {n : Nat} (f : Nat → V) {j : Nat} (h : Own F H L) (hn : n ≤ 1000000) (hj : ∀ v : V, wipe ((wipe σ [j]).set j (some v)) [j] = wipe σ [j])
    (step : ∀ i D H' (R : VK), i < n → Own F H' ((D, .lst ((List.range i).map f)) :: L) → (∀ H4, Own F H4 ((D, .lst ((List.range i).map f)) :: L) → R (f i) H4) → te ((wipe σ [j]).set j (some (.int (0 + (i : Int))))) H' R)
    (k : ∀ D H', H D = none → Own F H' ((D, .lst ((List.range n).map f)) :: L) → Q (.ref D) H') :
    ∀ D, H D = none → ∃ W : Nat → Nat → Hp → Prop, (∃ m, W 0 m (upd H D (.lst []))) ∧ ∀ i m H, W i m H →
      ((Itr 0 n).stop i H ∧ Q (.ref D) H) ∨ ((Itr 0 n).go i H ∧ ∃ Nx : Hp → Prop, (∀ H', Nx H' → ∃ m', m' < m ∧ W (i + 1) m' H') ∧ ∀ x H', (Itr 0 n).yld i H x H' → gName j x (wipe σ [j]) H' fun σ2 H2 => wipe σ2 [j] = wipe σ [j] ∧ tYes σ2 H2 fun b H3 =>
        if b = true then te σ2 H3 fun y H4 => ∃ acc, H4 D = some (.lst acc) ∧ acc.length < sizeLine ∧ Nx (upd H4 D (.lst (acc ++ [y]))) else Nx H3) := by
  intro D hD
  refine ⟨fun i m H' => m = n - i ∧ i ≤ n ∧ Own F H' ((D, .lst ((List.range i).map f)) :: L), ⟨n, by simp, Nat.zero_le _, h.new hD⟩, ?_⟩
  rintro i m H1 ⟨rfl, hi, ow⟩
  by_cases hlt : i < n
  · refine .inr ⟨hlt, fun H' => Own F H' ((D, .lst ((List.range (i + 1)).map f)) :: L), fun H' o => ⟨n - (i + 1), by omega, rfl, hlt, o⟩, fun x H' y => ?_⟩
    obtain ⟨e, y⟩ := y
    subst e y
    refine ⟨hj _, ?_⟩
    simp only [tYes, if_true]
    refine step i D _ _ hlt ow fun H4 o => ?_
    refine ⟨_, o.get 0 rfl, by rw [List.length_map, List.length_range]; exact Nat.lt_of_lt_of_le hlt (Nat.le_trans hn (by decide)), ?_⟩
    rw [List.range_succ, List.map_append]
    exact o.put 0 rfl
  · have e : i = n := by omega
    subst e
    exact .inl ⟨Nat.le_refl _, k D _ hD ow⟩
end
end Bs
namespace Bs
open PySem PySem.Spec PySem.Calls PyProof.Rows L2
def cLc (g : TG) (tt : TT) (te : TE) (vs : List Nat) (σ : L2.St) (Q : VK) (J : It) (H1 : Hp) : Prop := ∀ D, H1 D = none → ∃ W : Nat → Nat → Hp → Prop, (∃ m, W 0 m (upd H1 D (.lst []))) ∧ ∀ i m H, W i m H →
  (J.stop i H ∧ Q (.ref D) H) ∨ (J.go i H ∧ ∃ Nx : Hp → Prop, (∀ H', Nx H' → ∃ m', m' < m ∧ W (i + 1) m' H') ∧ ∀ x H', J.yld i H x H' → g x (wipe σ vs) H' fun σ2 H2 => wipe σ2 vs = wipe σ vs ∧ tt σ2 H2 fun b H3 =>
    if b = true then te σ2 H3 fun y H4 => ∃ acc, H4 D = some (.lst acc) ∧ acc.length < sizeLine ∧ Nx (upd H4 D (.lst (acc ++ [y]))) else Nx H3)
theorem r_lc {wi : TI} {g : TG} {tt : TT} {te : TE} {vs : List Nat} {σ : L2.St} {H : Hp} {Q : VK} (k : wi σ H (cLc g tt te vs σ Q)) : tLc wi g tt te vs σ H Q := k
theorem c_lcR {F H : Hp} {L : List (Addr × HO)} {σ : L2.St} {Q : VK} {te : TE} {n : Nat} (f : Nat → V) {j : Nat} (h : Own F H L) (hn : n ≤ 1000000) (hj : ∀ v : V, wipe ((wipe σ [j]).set j (some v)) [j] = wipe σ [j])
    (step : ∀ i D H' (R : VK), i < n → Own F H' ((D, .lst ((List.range i).map f)) :: L) → (∀ H4, Own F H4 ((D, .lst ((List.range i).map f)) :: L) → R (f i) H4) → te ((wipe σ [j]).set j (some (.int (0 + (i : Int))))) H' R)
    (k : ∀ D H', H D = none → Own F H' ((D, .lst ((List.range n).map f)) :: L) → Q (.ref D) H') : cLc (gName j) tYes te [j] σ Q (Itr 0 n) H := o_lcR f h hn hj step k
end Bs
namespace Bs
open PySem PySem.Spec PySem.Calls PyProof.Rows L2
def cIl (K : PySem.W.Frag) (R : It → Hp → Prop) (x : V) (H1 : Hp) : Prop := ∃ a, x = .ref a ∧ (∃ xs, SqL K H1 a xs) ∧ R (Itl K a) H1
theorem r_il {K : PySem.W.Frag} {tl : TE} {σ : L2.St} {H : Hp} {R : It → Hp → Prop} (k : tl σ H (cIl K R)) : iList K tl σ H R := k
theorem o_il {K : PySem.W.Frag} {F H : Hp} {L : List (Addr × HO)} {i : Nat} {a : Addr} {xs : List V} {R : It → Hp → Prop} (h : Own F H L) (e : L[i]? = some (a, .lst xs)) (k : R (Itl K a) H) : cIl K R (.ref a) H := ⟨a, rfl, ⟨xs, SqL.of (h.get i e)⟩, k⟩
end Bs
namespace Bs
open PySem PySem.Spec PySem.Calls PyProof.Rows L2
/-- list(x), tuple(x) of a list or a tuple -/
def rLof (K : PySem.W.Frag) : List V → Hp → VK → Prop := fun xs H Q => ∃ p ys, xs = [.ref p] ∧ (SqL K H p ys ∨ SqT K H p ys) ∧ ∀ l, H l = none → Q (.ref l) (upd H l (.lst ys))
theorem cb_listof {X : Cx} : CallR X (.type "list") (rLof X.K) := call_list_of
section
variable {K : PySem.W.Frag} {F H : Hp} {L : List (Addr × HO)} {p : Addr} {ys : List V} {Q : VK}
theorem o_lofT (h : Own F H L) (s : SqT K H p ys) (k : ∀ l H', H l = none → Own F H' ((l, .lst ys) :: L) → Q (.ref l) H') : rLof K [.ref p] H Q := ⟨p, ys, rfl, .inr s, fun l n => k l _ n (h.new n)⟩
theorem o_lofL (h : Own F H L) (s : SqL K H p ys) (k : ∀ l H', H l = none → Own F H' ((l, .lst ys) :: L) → Q (.ref l) H') : rLof K [.ref p] H Q := ⟨p, ys, rfl, .inl s, fun l n => k l _ n (h.new n)⟩
end
end Bs

set_option Elab.async false
set_option linter.all false
set_option maxRecDepth 100000
set_option maxHeartbeats 2000000
/-! x[::-1]; comprehensions over anything; calls of defs that raise, by position and by name. -/
namespace Bs
open PySem PySem.Spec PySem.Calls PyProof.Rows L2
/-- [True, i] of an int -/
def tlD : V → PyData
  | .int i => .list [.bool true, .int i]
  | _ => .none
section
variable {X : Cx} {e : Expr} {st : Option Expr} {te : TE} {ts : TO} {pos p2 : Pos}
/-- x[::-1] of a list -/
def cRv (K : PySem.W.Frag) (Q : VK) (x : V) (i : Option Int) (H : Hp) : Prop := i = some (-1) ∧ ∃ a xs, x = .ref a ∧ SqL K H a xs ∧ ∀ p, H p = none → Q (.ref p) (upd H p (.lst xs.reverse))
def tRv (K : PySem.W.Frag) (te : TE) (ts : TO) : TE := fun σ H Q => te σ H fun x H1 => ts σ H1 fun i H2 => cRv K Q x i H2
theorem pe_rev {uo : UnaryOp} {se : Expr} {p5 : Pos} (he : PE X e te) (hs : PO X (some (.UnaryOp uo se p5)) ts) : PE X (.Subscript e (.Slice none none (some (.UnaryOp uo se p5)) p2) pos) (tRv X.K te ts) := by
  refine ⟨fun pins s σ H Q I h => ?_⟩
  refine Subscript_ (thn (he.run pins s σ H _ I h) fun v s1 ⟨x, H1, I1, r1, q1⟩ => ?_)
  refine wpAny_Slice ?_
  rw [evalPart_none]
  refine wpAny_pure (wpAny_pure (thn (hs.run pins s1 σ H1 _ I1 q1) fun vk s3 ⟨i, H3, I3, pk, q3⟩ => ?_))
  obtain ⟨rfl, a, xs, rfl, hx, q⟩ := q3
  cases r1
  let so : Obj := { cls := .type "slice", data := .fields #[Value.none, Value.none, vk] }
  have I4 : Inv X pins σ H3 { s3 with heap := s3.heap.push so } := I3.kept (t' := s3.toks) fun b ob z => Heap.get?_push_of_some _ z
  obtain ⟨its, r, hl, hz⟩ := I4.list hx
  have sl : ({ s3 with heap := s3.heap.push so } : Shared).heap.IsSliceOf s3.heap.objs.size .none .none vk := Heap.IsSliceOf.new ..
  have len := r.length
  refine tail_any (T := "list") (ops := [.ref a, .ref s3.heap.objs.size]) hl.isList.typeIs slot_list_getitem.lookup (wpAny_getItem_list_slice hl.isList sl .none .none pk (by decide) ?_ (by rw [List.size_toArray]; omega)) (by with_unfolding_all rfl)
  rw [PySem.W.krv_pick]
  refine ⟨.ref _, _, I4.laid (t' := s3.toks) (o := .lst xs.reverse) (fun b ob z => Heap.get?_push_of_some _ z) (Nat.le_refl _) ?_, rfl, q _ (I4.hok.fresh (Nat.le_refl _))⟩
  refine ⟨by rw [List.length_reverse]; exact hz, _, 0, r.reverse, Heap.get?_push_size _ rfl⟩
end
section
variable {K : PySem.W.Frag} {F H : Hp} {L : List (Addr × HO)} {a : Addr} {xs : List V} {Q : VK} {σ : L2.St} {te : TE} {ts : TO} {i : Nat}
theorem r_rv (k : te σ H fun x H1 => ts σ H1 fun i H2 => cRv K Q x i H2) : tRv K te ts σ H Q := k
theorem r_part {te : TE} {R : Option Int → Hp → Prop} (k : te σ H fun x H1 => ∃ i, x = .int i ∧ R (some i) H1) : tPart te σ H R := k
theorem o_rv (h : Own F H L) (s : SqL K H a xs) (k : ∀ p H', H p = none → Own F H' ((p, .lst xs.reverse) :: L) → Q (.ref p) H') : cRv K Q (.ref a) (some (-1)) H := ⟨rfl, a, xs, rfl, s, fun p n => k p _ n (h.new n)⟩
end
/-- a comprehension over anything: P holds of what is made, the turn, the items so far, the heap -/
theorem c_lcJ {te : TE} {j : Nat} {σ : L2.St} {Q : VK} {J : It} {H : Hp} (n : Nat) (hn : n ≤ 1000000) (hj : ∀ v : V, wipe ((wipe σ [j]).set j (some v)) [j] = wipe σ [j]) (Pv : Addr → Nat → List V → Hp → Prop) (h0 : ∀ D, H D = none → Pv D 0 [] (upd H D (.lst [])))
    (hgo : ∀ D i acc H, Pv D i acc H → i < n → J.go i H) (hst : ∀ D acc H, Pv D n acc H → J.stop n H)
    (step : ∀ D i acc H x H' (R : VK), i < n → acc.length = i → Pv D i acc H → J.yld i H x H' → (∀ y H4, H4 D = some (.lst acc) → Pv D (i + 1) (acc ++ [y]) (upd H4 D (.lst (acc ++ [y]))) → R y H4) → te ((wipe σ [j]).set j (some x)) H' R)
    (k : ∀ D acc H', H D = none → Pv D n acc H' → acc.length = n → Q (.ref D) H') : cLc (gName j) tYes te [j] σ Q J H := by
  intro D hD
  refine ⟨fun i m H' => m = n - i ∧ i ≤ n ∧ ∃ acc, acc.length = i ∧ Pv D i acc H', ⟨n, by simp, Nat.zero_le _, [], rfl, h0 D hD⟩, ?_⟩
  rintro i m H1 ⟨rfl, hi, acc, la, p⟩
  by_cases hlt : i < n
  · refine .inr ⟨hgo D i acc H1 p hlt, fun H' => ∃ acc, acc.length = i + 1 ∧ Pv D (i + 1) acc H', fun H' ⟨acc, la, p⟩ => ⟨n - (i + 1), by omega, rfl, hlt, acc, la, p⟩, fun x H' y => ?_⟩
    refine ⟨hj _, ?_⟩
    simp only [tYes, if_true]
    refine step D i acc H1 x H' _ hlt la p y fun y H4 eD q => ?_
    exact ⟨acc, eD, Nat.lt_of_le_of_lt (Nat.le_of_eq la) (Nat.lt_of_lt_of_le hlt (Nat.le_trans hn (by decide))), acc ++ [y], by simp; omega, q⟩
  · have e : i = n := by omega
    subst e
    exact .inl ⟨hst D acc H1 p, k D acc H1 hD p la⟩
/-- with a condition -/
theorem c_lcF {tt : TT} {te : TE} {j : Nat} {σ : L2.St} {Q : VK} {J : It} {H : Hp} (n : Nat) (hn : n ≤ 1000000) (hj : ∀ v : V, wipe ((wipe σ [j]).set j (some v)) [j] = wipe σ [j]) (Pv : Addr → Nat → List V → Hp → Prop) (h0 : ∀ D, H D = none → Pv D 0 [] (upd H D (.lst [])))
    (hgo : ∀ D i acc H, Pv D i acc H → i < n → J.go i H) (hst : ∀ D acc H, Pv D n acc H → J.stop n H)
    (step : ∀ D i acc H x H' (R : VK) (Z : Hp → Prop), i < n → acc.length ≤ i → Pv D i acc H → J.yld i H x H' → (∀ y H4, H4 D = some (.lst acc) → Pv D (i + 1) (acc ++ [y]) (upd H4 D (.lst (acc ++ [y]))) → R y H4) → (∀ H3, Pv D (i + 1) acc H3 → Z H3) →
      tt ((wipe σ [j]).set j (some x)) H' fun b H3 => if b = true then te ((wipe σ [j]).set j (some x)) H3 R else Z H3)
    (k : ∀ D acc H', H D = none → Pv D n acc H' → acc.length ≤ n → Q (.ref D) H') : cLc (gName j) tt te [j] σ Q J H := by
  intro D hD
  refine ⟨fun i m H' => m = n - i ∧ i ≤ n ∧ ∃ acc, acc.length ≤ i ∧ Pv D i acc H', ⟨n, by simp, Nat.zero_le _, [], Nat.le_refl _, h0 D hD⟩, ?_⟩
  rintro i m H1 ⟨rfl, hi, acc, la, p⟩
  by_cases hlt : i < n
  · refine .inr ⟨hgo D i acc H1 p hlt, fun H' => ∃ acc, acc.length ≤ i + 1 ∧ Pv D (i + 1) acc H', fun H' ⟨acc, la, p⟩ => ⟨n - (i + 1), by omega, rfl, hlt, acc, la, p⟩, fun x H' y => ?_⟩
    refine ⟨hj _, ?_⟩
    refine step D i acc H1 x H' _ _ hlt la p y (fun y H4 eD q => ?_) (fun H3 q => ⟨acc, by omega, q⟩)
    exact ⟨acc, eD, Nat.lt_of_le_of_lt la (Nat.lt_of_lt_of_le hlt (Nat.le_trans hn (by decide))), acc ++ [y], by simp; omega, q⟩
  · have e : i = n := by omega
    subst e
    exact .inl ⟨hst D acc H1 p, k D acc H1 hD p la⟩
section
variable {K : PySem.W.Frag} {F H : Hp} {L : List (Addr × HO)} {σ : L2.St} {Q : VK} {te : TE} {j m : Nat} {a : Addr} {xs : List V}
theorem itl_go {i : Nat} (s : SqL K H a xs) (h : i < xs.length) : (Itl K a).go i H := ⟨xs, xs[i], s, List.getElem?_eq_getElem h⟩
theorem itl_stop {xs : List V} (s : SqL K H a xs) : (Itl K a).stop xs.length H := ⟨xs, s, Nat.le_refl _⟩
theorem dpAll_app {v : V} {d : PyData} : ∀ {vs : List V} {ds : List PyData}, DpAll K H vs ds → Dp K H v d → DpAll K H (vs ++ [v]) (ds ++ [d])
  | _, _, .nil, h => .cons h .nil
  | _, _, .cons a b, h => .cons a (dpAll_app (v := v) (d := d) b h)
theorem Own.weak {F' : Hp} (s : Same F F') (h : Own F' H L) : Own F H L := ⟨s.trans h.sub, fun i a o e => ⟨(h.own i a o e).1, by
    cases z : F a with
    | none => rfl
    | some u => exact absurd (h.own i a o e).2 (by rw [s a u z]; simp)⟩, h.nd⟩
/-- a comprehension over a list whose items become data -/
theorem c_lcD (h : Own F H L) (e : L[m]? = some (a, .lst xs)) (hn : xs.length ≤ 1000) (ds : List PyData) (hd : ds.length = xs.length) (hj : ∀ v : V, wipe ((wipe σ [j]).set j (some v)) [j] = wipe σ [j])
    (step : ∀ (F' : Hp) (D : Addr) (acc : List V) (i : Nat) (x : V) (d : PyData) (H' : Hp) (R : VK), xs[i]? = some x → ds[i]? = some d → Same F F' → Own F' H' ((D, .lst acc) :: L) → (∀ F'' y H4, Same F' F'' → Own F'' H4 ((D, .lst acc) :: L) → Dp K F'' y d → R y H4) → te ((wipe σ [j]).set j (some x)) H' R)
    (k : ∀ F' D acc H', Same F F' → H D = none → Own F' H' ((D, .lst acc) :: L) → DpAll K F' acc ds → Q (.ref D) H') : cLc (gName j) tYes te [j] σ Q (Itl K a) H := by
  refine c_lcJ xs.length (by omega) hj (fun D i acc H' => ∃ F', Same F F' ∧ Own F' H' ((D, .lst acc) :: L) ∧ DpAll K F' acc (ds.take i)) (fun D nD => ⟨F, Same.refl F, h.new nD, by rw [List.take_zero]; exact .nil⟩) ?_ ?_ ?_ ?_
  · rintro D i acc H1 ⟨F', s, ow, dp⟩ hi
    exact itl_go (SqL.of (ow.get (m + 1) (by simpa using e))) hi
  · rintro D acc H1 ⟨F', s, ow, dp⟩
    exact itl_stop (SqL.of (ow.get (m + 1) (by simpa using e)))
  · rintro D i acc H1 x H2 R hi la ⟨F', s, ow, dp⟩ ⟨rfl, hy⟩ hR
    have hx := hy xs (SqL.of (ow.get (m + 1) (by simpa using e)))
    have hdi : ds[i]? = some ds[i] := by simp [hd, hi]
    refine step F' D acc i x ds[i] H2 R hx hdi s ow fun F'' y H4 s2 ow2 dp2 => ?_
    refine hR y H4 (ow2.get 0 rfl) ⟨F'', s.trans s2, ow2.put 0 rfl, ?_⟩
    rw [List.take_succ, hdi]
    exact dpAll_app (dpa_same s2 dp) dp2
  · rintro D acc H1 nD ⟨F', s, ow, dp⟩ la
    refine k F' D acc H1 s nD ow ?_
    rw [← hd, List.take_length] at dp
    exact dp
theorem c_lcM (fd : V → PyData) (h : Own F H L) (e : L[m]? = some (a, .lst xs)) (hn : xs.length ≤ 1000) (hj : ∀ v : V, wipe ((wipe σ [j]).set j (some v)) [j] = wipe σ [j])
    (step : ∀ (F' : Hp) (D : Addr) (acc : List V) (i : Nat) (x : V) (H' : Hp) (R : VK), xs[i]? = some x → Same F F' → Own F' H' ((D, .lst acc) :: L) → (∀ F'' y H4, Same F' F'' → Own F'' H4 ((D, .lst acc) :: L) → Dp K F'' y (fd x) → R y H4) → te ((wipe σ [j]).set j (some x)) H' R)
    (k : ∀ F' D acc H', Same F F' → H D = none → Own F' H' ((D, .lst acc) :: L) → DpAll K F' acc (xs.map fd) → Q (.ref D) H') : cLc (gName j) tYes te [j] σ Q (Itl K a) H := by
  refine c_lcD h e hn (xs.map fd) (by simp) hj ?_ k
  intro F' D acc i x d H' R hx hd s ow hR
  rw [List.getElem?_map, hx] at hd
  cases hd
  exact step F' D acc i x H' R hx s ow hR
end
/-! calls -/
section
variable {X : Cx} {CX : CXT} {j k : Nat} {ps ks : List Str} {sp : Sp} {x : Str} {p pos : Pos} {e : Expr} {es : List Expr} {kws : List Keyword} {t tk : TA} {gV : List V → List V → List V}
/-- a def by its name and promise, all parameters by keyword -/
structure FoK (P : Program) (w : World) (K : PySem.W.Frag) (mg : Str → Option Value) (base : Heap) (CX : CXT) (k : Nat) (x : Str) (ps : List Str) (sp : Sp) (ks : List Str) (gV : List V → List V → List V) : Prop where
  ex : ∃ (f : Addr) (fd : FuncData), FnOk P w K mg base CX k f fd ps sp ∧ mg x = some (.ref f) ∧ PySem.W.keepIn K (.ref f) = true ∧ Cb K fd ps 0 ks gV
def gPos (vs _zs : List V) : List V := vs
theorem cb_pos {K : PySem.W.Frag} {fd : FuncData} (b : Binds K fd ps []) : Cb K fd ps ps.length [] gPos := ⟨fun us _ => us, by
  refine ⟨fun s us ws X l1 l2 => ?_, fun r _ => r⟩
  have e : ws = [] := List.length_eq_zero_iff.mp l2
  subst e
  have := b s us X (by simpa using l1)
  simpa using this⟩
theorem pe_fx {E : L2.St → XK} (c : Fo X.prog X.w X.K X.mg X.base CX k x ps sp) (hr : Room j X.A) (hk : k ≤ j) (hx : ∀ σ, PassesAt CX X σ (E σ)) (ha : PA X (e :: es) t) (hg : Gl X x := by rfl)
    (hall : (backToKw pos (keywordEach [] X.env)).all (·.1.isSome) = true := by rfl) (hks : (backToKw pos (keywordEach [] X.env)).filterMap (·.1) = [] := by rfl)
    (hdb : (x == ("__debug__" : Str)) = false := by decide) (he : starEach (e :: es) X.env = (false, eval e X.env) :: starEach es X.env := by rfl)
    (hpl : ((backTo pos (starEach (e :: es) X.env)).any (·.1) || (backToKw pos (keywordEach [] X.env)).any (·.1.isNone)) = false := by rfl) :
    PE X (.Call (.Name x p) (e :: es) [] pos) (tFnS ps.length 0 sp gPos E t tNil) := by
  obtain ⟨f, fd, F, hm, kp, hb⟩ := c.ex
  exact pe_fnS F (hr.mono hk) hm kp (cb_pos hb) hx ha pk_nil hg hall hks hdb he hpl
theorem pe_fk {E : L2.St → XK} (c : FoK X.prog X.w X.K X.mg X.base CX k x ps sp ks gV) (hr : Room j X.A) (hk : k ≤ j) (hx : ∀ σ, PassesAt CX X σ (E σ)) (hkw : PK X kws tk) (hg : Gl X x := by rfl)
    (hall : (backToKw pos (keywordEach kws X.env)).all (·.1.isSome) = true := by rfl) (hks : (backToKw pos (keywordEach kws X.env)).filterMap (·.1) = ks := by rfl)
    (hdb : (x == ("__debug__" : Str)) = false := by decide) (hpl : ((backTo pos (starEach [] X.env)).any (·.1) || (backToKw pos (keywordEach kws X.env)).any (·.1.isNone)) = false := by rfl) :
    PE X (.Call (.Name x p) [] kws pos) (tFnS 0 ks.length sp gV E tNil tk) := by
  obtain ⟨f, fd, F, hm, kp, hb⟩ := c.ex
  exact pe_fnS0 F (hr.mono hk) hm kp hb hx hkw hg hall hks hdb hpl
end
section
variable {H : Hp} {Q : VK} {σ : L2.St} {n m : Nat} {sp : Sp} {gV : List V → List V → List V} {t tk : TA} {v w u : V} {vs : List V}
def cFx (n m : Nat) (sp : Sp) (gV : List V → List V → List V) (Q : VK) (E : XK) (vs zs : List V) (H : Hp) : Prop := vs.length = n ∧ zs.length = m ∧ sp (gV vs zs) H Q E
theorem r_fx {E : L2.St → XK} (k : t σ H fun vs H1 => tk σ H1 fun zs H2 => cFx n m sp gV Q (E σ) vs zs H2) : tFnS n m sp gV E t tk σ H Q := k
theorem fx_pos {E : XK} (l : vs.length = n) (k : sp (vs ++ []) H Q E) : cFx n 0 sp gPos Q E vs [] H := ⟨l, rfl, by rw [List.append_nil] at k; exact k⟩
/-- two parameters, the second one first -/
def gKB {α : Type} (_vs zs : List α) : List α := zs.reverse
theorem fx_kb2 {E : XK} (k : sp ([w, v] ++ []) H Q E) : cFx 0 2 sp gKB Q E [] [v, w] H := ⟨rfl, rfl, k⟩
end
theorem gKB_rel {vs zs : List V} {us ws : List Value} (_ : Vals vs us) (h : Vals zs ws) : Vals (gKB vs zs) (gKB us ws) := h.reverse
theorem foK_of {P : Program} {w : World} {K : PySem.W.Frag} {h base : Heap} {mg : Str → Option Value} {CX : CXT} {k : Nat} {x : Str} {ps ks : List Str} {sp : Sp} {fd : FuncData} {f : Addr} {gV : List V → List V → List V} (hm : mg x = some (.ref f)) (F : FnOk P w K mg base CX k f fd ps sp) (kp : PySem.W.keepIn K (.ref f) = true)
    (b : Cb K fd ps 0 ks gV) : FoK P w K mg base CX k x ps sp ks gV := ⟨f, fd, F, hm, kp, b⟩
end Bs
namespace Bs
section
variable {α : Type} {l : List α}
variable {x0 x1 x2 x3 x4 x5 x6 x7 x8 x9 x10 x11 x12 x13 x14 x15 x16 x17 x18 x19 x20 x21 x22 x23 x24 x25 x26 x27 x28 x29 x30 x31 x32 x33 x34 x35 x36 x37 x38 x39 x40 : α}
theorem g18 : (x0 :: x1 :: x2 :: x3 :: x4 :: x5 :: x6 :: x7 :: x8 :: x9 :: x10 :: x11 :: x12 :: x13 :: x14 :: x15 :: x16 :: x17 :: x18 :: l)[18]? = some x18 := rfl
theorem g19 : (x0 :: x1 :: x2 :: x3 :: x4 :: x5 :: x6 :: x7 :: x8 :: x9 :: x10 :: x11 :: x12 :: x13 :: x14 :: x15 :: x16 :: x17 :: x18 :: x19 :: l)[19]? = some x19 := rfl
theorem g20 : (x0 :: x1 :: x2 :: x3 :: x4 :: x5 :: x6 :: x7 :: x8 :: x9 :: x10 :: x11 :: x12 :: x13 :: x14 :: x15 :: x16 :: x17 :: x18 :: x19 :: x20 :: l)[20]? = some x20 := rfl
theorem g21 : (x0 :: x1 :: x2 :: x3 :: x4 :: x5 :: x6 :: x7 :: x8 :: x9 :: x10 :: x11 :: x12 :: x13 :: x14 :: x15 :: x16 :: x17 :: x18 :: x19 :: x20 :: x21 :: l)[21]? = some x21 := rfl
theorem g22 : (x0 :: x1 :: x2 :: x3 :: x4 :: x5 :: x6 :: x7 :: x8 :: x9 :: x10 :: x11 :: x12 :: x13 :: x14 :: x15 :: x16 :: x17 :: x18 :: x19 :: x20 :: x21 :: x22 :: l)[22]? = some x22 := rfl
theorem g23 : (x0 :: x1 :: x2 :: x3 :: x4 :: x5 :: x6 :: x7 :: x8 :: x9 :: x10 :: x11 :: x12 :: x13 :: x14 :: x15 :: x16 :: x17 :: x18 :: x19 :: x20 :: x21 :: x22 :: x23 :: l)[23]? = some x23 := rfl
theorem g24 : (x0 :: x1 :: x2 :: x3 :: x4 :: x5 :: x6 :: x7 :: x8 :: x9 :: x10 :: x11 :: x12 :: x13 :: x14 :: x15 :: x16 :: x17 :: x18 :: x19 :: x20 :: x21 :: x22 :: x23 :: x24 :: l)[24]? = some x24 := rfl
theorem g25 : (x0 :: x1 :: x2 :: x3 :: x4 :: x5 :: x6 :: x7 :: x8 :: x9 :: x10 :: x11 :: x12 :: x13 :: x14 :: x15 :: x16 :: x17 :: x18 :: x19 :: x20 :: x21 :: x22 :: x23 :: x24 :: x25 :: l)[25]? = some x25 := rfl
theorem g26 : (x0 :: x1 :: x2 :: x3 :: x4 :: x5 :: x6 :: x7 :: x8 :: x9 :: x10 :: x11 :: x12 :: x13 :: x14 :: x15 :: x16 :: x17 :: x18 :: x19 :: x20 :: x21 :: x22 :: x23 :: x24 :: x25 :: x26 :: l)[26]? = some x26 := rfl
theorem g27 : (x0 :: x1 :: x2 :: x3 :: x4 :: x5 :: x6 :: x7 :: x8 :: x9 :: x10 :: x11 :: x12 :: x13 :: x14 :: x15 :: x16 :: x17 :: x18 :: x19 :: x20 :: x21 :: x22 :: x23 :: x24 :: x25 :: x26 :: x27 :: l)[27]? = some x27 := rfl
theorem g28 : (x0 :: x1 :: x2 :: x3 :: x4 :: x5 :: x6 :: x7 :: x8 :: x9 :: x10 :: x11 :: x12 :: x13 :: x14 :: x15 :: x16 :: x17 :: x18 :: x19 :: x20 :: x21 :: x22 :: x23 :: x24 :: x25 :: x26 :: x27 :: x28 :: l)[28]? = some x28 := rfl
theorem g29 : (x0 :: x1 :: x2 :: x3 :: x4 :: x5 :: x6 :: x7 :: x8 :: x9 :: x10 :: x11 :: x12 :: x13 :: x14 :: x15 :: x16 :: x17 :: x18 :: x19 :: x20 :: x21 :: x22 :: x23 :: x24 :: x25 :: x26 :: x27 :: x28 :: x29 :: l)[29]? = some x29 := rfl
theorem g30 : (x0 :: x1 :: x2 :: x3 :: x4 :: x5 :: x6 :: x7 :: x8 :: x9 :: x10 :: x11 :: x12 :: x13 :: x14 :: x15 :: x16 :: x17 :: x18 :: x19 :: x20 :: x21 :: x22 :: x23 :: x24 :: x25 :: x26 :: x27 :: x28 :: x29 :: x30 :: l)[30]? = some x30 := rfl
theorem g31 : (x0 :: x1 :: x2 :: x3 :: x4 :: x5 :: x6 :: x7 :: x8 :: x9 :: x10 :: x11 :: x12 :: x13 :: x14 :: x15 :: x16 :: x17 :: x18 :: x19 :: x20 :: x21 :: x22 :: x23 :: x24 :: x25 :: x26 :: x27 :: x28 :: x29 :: x30 :: x31 :: l)[31]? = some x31 := rfl
theorem g32 : (x0 :: x1 :: x2 :: x3 :: x4 :: x5 :: x6 :: x7 :: x8 :: x9 :: x10 :: x11 :: x12 :: x13 :: x14 :: x15 :: x16 :: x17 :: x18 :: x19 :: x20 :: x21 :: x22 :: x23 :: x24 :: x25 :: x26 :: x27 :: x28 :: x29 :: x30 :: x31 :: x32 :: l)[32]? = some x32 := rfl
theorem g33 : (x0 :: x1 :: x2 :: x3 :: x4 :: x5 :: x6 :: x7 :: x8 :: x9 :: x10 :: x11 :: x12 :: x13 :: x14 :: x15 :: x16 :: x17 :: x18 :: x19 :: x20 :: x21 :: x22 :: x23 :: x24 :: x25 :: x26 :: x27 :: x28 :: x29 :: x30 :: x31 :: x32 :: x33 :: l)[33]? = some x33 := rfl
theorem g34 : (x0 :: x1 :: x2 :: x3 :: x4 :: x5 :: x6 :: x7 :: x8 :: x9 :: x10 :: x11 :: x12 :: x13 :: x14 :: x15 :: x16 :: x17 :: x18 :: x19 :: x20 :: x21 :: x22 :: x23 :: x24 :: x25 :: x26 :: x27 :: x28 :: x29 :: x30 :: x31 :: x32 :: x33 :: x34 :: l)[34]? = some x34 := rfl
theorem g35 : (x0 :: x1 :: x2 :: x3 :: x4 :: x5 :: x6 :: x7 :: x8 :: x9 :: x10 :: x11 :: x12 :: x13 :: x14 :: x15 :: x16 :: x17 :: x18 :: x19 :: x20 :: x21 :: x22 :: x23 :: x24 :: x25 :: x26 :: x27 :: x28 :: x29 :: x30 :: x31 :: x32 :: x33 :: x34 :: x35 :: l)[35]? = some x35 := rfl
theorem g36 : (x0 :: x1 :: x2 :: x3 :: x4 :: x5 :: x6 :: x7 :: x8 :: x9 :: x10 :: x11 :: x12 :: x13 :: x14 :: x15 :: x16 :: x17 :: x18 :: x19 :: x20 :: x21 :: x22 :: x23 :: x24 :: x25 :: x26 :: x27 :: x28 :: x29 :: x30 :: x31 :: x32 :: x33 :: x34 :: x35 :: x36 :: l)[36]? = some x36 := rfl
theorem g37 : (x0 :: x1 :: x2 :: x3 :: x4 :: x5 :: x6 :: x7 :: x8 :: x9 :: x10 :: x11 :: x12 :: x13 :: x14 :: x15 :: x16 :: x17 :: x18 :: x19 :: x20 :: x21 :: x22 :: x23 :: x24 :: x25 :: x26 :: x27 :: x28 :: x29 :: x30 :: x31 :: x32 :: x33 :: x34 :: x35 :: x36 :: x37 :: l)[37]? = some x37 := rfl
theorem g38 : (x0 :: x1 :: x2 :: x3 :: x4 :: x5 :: x6 :: x7 :: x8 :: x9 :: x10 :: x11 :: x12 :: x13 :: x14 :: x15 :: x16 :: x17 :: x18 :: x19 :: x20 :: x21 :: x22 :: x23 :: x24 :: x25 :: x26 :: x27 :: x28 :: x29 :: x30 :: x31 :: x32 :: x33 :: x34 :: x35 :: x36 :: x37 :: x38 :: l)[38]? = some x38 := rfl
theorem g39 : (x0 :: x1 :: x2 :: x3 :: x4 :: x5 :: x6 :: x7 :: x8 :: x9 :: x10 :: x11 :: x12 :: x13 :: x14 :: x15 :: x16 :: x17 :: x18 :: x19 :: x20 :: x21 :: x22 :: x23 :: x24 :: x25 :: x26 :: x27 :: x28 :: x29 :: x30 :: x31 :: x32 :: x33 :: x34 :: x35 :: x36 :: x37 :: x38 :: x39 :: l)[39]? = some x39 := rfl
theorem g40 : (x0 :: x1 :: x2 :: x3 :: x4 :: x5 :: x6 :: x7 :: x8 :: x9 :: x10 :: x11 :: x12 :: x13 :: x14 :: x15 :: x16 :: x17 :: x18 :: x19 :: x20 :: x21 :: x22 :: x23 :: x24 :: x25 :: x26 :: x27 :: x28 :: x29 :: x30 :: x31 :: x32 :: x33 :: x34 :: x35 :: x36 :: x37 :: x38 :: x39 :: x40 :: l)[40]? = some x40 := rfl
end
end Bs

set_option Elab.async false
set_option linter.all false
set_option maxRecDepth 100000
set_option maxHeartbeats 2000000
/-! truth of ints; divmod; sums. -/
namespace Bs
open PySem PySem.Spec PySem.Calls PyProof.Rows L2
def cTr (K : PySem.W.Frag) (R : Bool → Hp → Prop) (x : V) (H : Hp) : Prop := ∃ k, TruV K x H k ∧ R k H
def tTr (K : PySem.W.Frag) (ta : TE) : TT := fun σ H R => ta σ H (cTr K R)
theorem pt_tr {X : Cx} {a : Expr} {ta : TE} (ha : PE X a ta) (he : ∀ whole, isTrue a X.env whole = (do let v ← whole; standAt a.pos; holding [v] (truthy v))) : PT X a (tTr X.K ta) := pt_truth ha he
def rDvm : List V → Hp → VK → Prop := fun xs H Q => ∃ i j, xs = [.int i, .int j] ∧ CDiv i j ∧ ∀ p, H p = none → Q (.ref p) (upd H p (.tup [.int (i / j), .int (i % j)]))
theorem cb_divmod {X : Cx} : CallR X (.builtin "divmod") rDvm := call_divmod
section
variable {K : PySem.W.Frag} {F H : Hp} {L : List (Addr × HO)} {R : Bool → Hp → Prop} {ta : TE} {σ : L2.St} {Q : VK} {i j : Int} {a : Addr} {ns : List Int}
theorem r_tr (k : ta σ H (cTr K R)) : tTr K ta σ H R := k
theorem tr_int (k : R (decide (i ≠ 0)) H) : cTr K R (.int i) H := ⟨decide (i ≠ 0), by by_cases h : i = 0 <;> simp [TruV, h], k⟩
theorem o_dvm (h : Own F H L) (c : 0 < j) (c2 : j < 1073741824) (k : ∀ p H', H p = none → Own F H' ((p, .tup [.int (i / j), .int (i % j)]) :: L) → Q (.ref p) H') : rDvm [.int i, .int j] H Q := ⟨i, j, rfl, ⟨c, c2⟩, fun p n => k p _ n (h.new n)⟩
theorem r_sum (s : SqL K H a (ns.map V.int)) (k : Q (.int ns.sum) H) : rSum K [.ref a] H Q := ⟨a, ns, rfl, s, k⟩
end
end Bs

set_option Elab.async false
set_option linter.all false
set_option maxRecDepth 100000
set_option maxHeartbeats 4000000
namespace Bs
open PySem PySem.Spec PyProof.Rows L2
def top (i : Nat) : Stmt := PySem.Challenge.pw_bitsolve_k16_whole_words_as_numbers_and.main.body.getD i (.Pass ⟨0, 0, 0, 0⟩)
abbrev FnP (K : PySem.W.Frag) (x q : Str) (st : Stmt) (f : Addr) (fd : FuncData) : Prop := FunD K x q (defArgs st) (defBody st) (defScope st) [] [] f fd
end Bs

set_option hygiene false in
local macro_rules | `(tactic| walk_at "sd") => `(tactic| first
  | assumption
  | omega
  | (show _ ≠ _; omega)
  | (show _ < _; omega)
  | exact Bs.mok_l (by omega) (by omega)
  | exact Bs.mok_r (by omega) (by omega)
  | exact Bs.cpw 70 (by omega) (by omega) (by omega)
  | exact Bs.cdivw 110 (by omega) (by omega) (by decide) (by decide)
  | exact Bs.cfd 110 (by omega) (by omega) (by decide) (by decide)
  | exact Bs.cshl 70 (by omega) (by omega) (by omega)
  | decide
  | rfl)
set_option hygiene false in
local macro_rules | `(tactic| walk_at "oi") => `(tactic| first | exact Bs.g0 | exact Bs.g1 | exact Bs.g2 | exact Bs.g3 | exact Bs.g4 | exact Bs.g5 | exact Bs.g6 | exact Bs.g7 | exact Bs.g8 | exact Bs.g9 | exact Bs.g10 | exact Bs.g11 | exact Bs.g12 | exact Bs.g13 | exact Bs.g14 | exact Bs.g15 | exact Bs.g16 | exact Bs.g17)
set_option hygiene false in
local macro_rules | `(tactic| walk_at "hq") => `(tactic| first
  | assumption
  | exact L2.SqL.of (Bs.Own.get (by assumption) _ (by walk_at "oi"))
  | exact L2.SqT.of (Bs.Own.get (by assumption) _ (by walk_at "oi"))
  | exact L2.Same.seq (Bs.Own.toSame (by assumption)) (by assumption)
  | exact Bs.sqT_same (Bs.Own.toSame (by assumption)) (by assumption))
set_option hygiene false in
local macro_rules | `(tactic| walk_at "dp") => `(tactic| first
  | assumption
  | exact L2.Dp.int _
  | exact L2.Dp.bl _
  | exact L2.Dp.str _
  | exact L2.Dp.non
  | ((refine' Bs.dp_lst ?dq1 ?dq2); (case dq1 => first | assumption | exact Bs.Own.get (by assumption) _ (by walk_at "oi")); (case dq2 => walk_at "dps"))
  | ((refine' Bs.dp_tup ?dq1 ?dq2); (case dq1 => first | assumption | exact Bs.Own.get (by assumption) _ (by walk_at "oi")); (case dq2 => walk_at "dps")))
set_option hygiene false in
local macro_rules | `(tactic| walk_at "dps") => `(tactic| first
  | exact L2.DpAll.nil
  | ((apply L2.DpAll.cons); (walk_at "dp"); (walk_at "dps")))
set_option hygiene false in
local macro_rules | `(tactic| walk_at "rp") => `(tactic| first
  | assumption
  | exact Bs.rq_bl (by simp)
  | exact Bs.rq_non (by simp)
  | exact Bs.rq_int (by omega) (by simp)
  | ((apply Bs.rq_list (by simp) (by simp)); (walk_at "rps"))
  | ((apply Bs.rq_tup (by simp) (by simp)); (walk_at "rps")))
set_option hygiene false in
local macro_rules | `(tactic| walk_at "rps") => `(tactic| first
  | exact Bs.rpl_nil
  | ((apply Bs.rpl_cons); (walk_at "rp"); (walk_at "rps")))
set_option hygiene false in
local macro_rules | `(tactic| walk_at "ow") => `(tactic| (try dsimp only [Int.reduceToNat, List.set_cons_zero, List.set_cons_succ] at ow))
set_option hygiene false in
local macro_rules | `(tactic| walk_at "r1") => `(tactic| first
  | ((with_reducible refine Bs.r_nx ?_); (try dsimp only [List.set_cons_zero, List.set_cons_succ]))
  | ((with_reducible refine' Bs.r_var ?rv ?_); (case rv => exact rfl))
  | with_reducible refine Bs.r_c ?_
  | with_reducible refine Bs.r_op ?_
  | with_reducible refine Bs.r_I0 ?_
  | ((with_reducible refine Bs.r_I ?rc ?_); (case rc => walk_at "sd"))
  | with_reducible refine Bs.r_test ?_
  | with_reducible refine Bs.r_isbl ?_
  | ((with_reducible refine Bs.r_eq ?rs ?_); (case rs => rfl))
  | ((with_reducible refine Bs.r_ne ?rs ?_); (case rs => rfl))
  | with_reducible refine Bs.r_seq ?_
  | with_reducible refine Bs.r_asgN ?_
  | with_reducible refine Bs.r_par ?_
  | with_reducible refine Bs.r_pair ?_
  | with_reducible refine Bs.r_par3 ?_
  | with_reducible refine Bs.r_tri ?_
  | with_reducible refine Bs.r_ifS ?_
  | with_reducible refine Bs.r_ret ?_
  | with_reducible refine Bs.r_cons ?_
  | with_reducible refine Bs.r_nil ?_
  | with_reducible refine Bs.r_CB ?_
  | with_reducible refine Bs.r_call ?_
  | with_reducible refine Bs.r_un ?_
  | with_reducible refine Bs.r_U ?_
  | with_reducible refine Bs.r_if ?_
  | with_reducible refine Bs.r_and ?_
  | with_reducible refine Bs.r_or ?_
  | with_reducible refine Bs.r_not ?_
  | with_reducible refine Bs.r_next ?_
  | with_reducible refine Bs.r_drop ?_
  | with_reducible refine Bs.r_tup ?_
  | with_reducible refine Bs.r_lst ?_
  | with_reducible refine Bs.r_asgT ?_
  | with_reducible refine Bs.r_asgS ?_
  | with_reducible refine Bs.r_andV ?_
  | with_reducible refine Bs.r_orV ?_
  | with_reducible refine Bs.r_notV ?_
  | with_reducible refine Bs.r_tB ?_
  | with_reducible refine Bs.r_isN ?_
  | with_reducible refine Bs.r_notN ?_
  | with_reducible refine Bs.r_retN ?_
  | with_reducible refine Bs.i_tt ?_
  | with_reducible refine Bs.i_ff ?_
  | with_reducible refine Bs.r_turn ?_
  | with_reducible refine Bs.r_rt ?_
  | with_reducible refine Bs.r_bk ?_
  | with_reducible refine Bs.r_ct ?_
  | with_reducible refine Bs.r_abs ?_
  | with_reducible refine Bs.r_int1 ?_
  | with_reducible refine Bs.r_int1b ?_
  | with_reducible refine Bs.r_max2 ?_
  | with_reducible refine Bs.r_min2 ?_
  | ((with_reducible refine' Bs.r_lenL ?p1 ?_); (case p1 => walk_at "hq"))
  | ((with_reducible refine' Bs.r_lenT ?p1 ?_); (case p1 => walk_at "hq"))
  | ((with_reducible refine' Bs.r_ixL ?p1 ?p2 ?_); (case p1 => walk_at "hq"); (case p2 => first | exact rfl | assumption))
  | ((with_reducible refine' Bs.r_ixT ?p1 ?p2 ?_); (case p1 => walk_at "hq"); (case p2 => first | exact rfl | assumption))
  | with_reducible refine Bs.r_gname ?_
  | with_reducible refine Bs.r_gcons ?_
  | with_reducible refine Bs.r_gnil ?_
  | ((with_reducible refine' Bs.o_ixL ?p1 ?p2 ?p3 ?_); (case p1 => assumption); (case p2 => walk_at "oi"); (case p3 => exact rfl))
  | ((with_reducible refine' Bs.o_ixT ?p1 ?p2 ?p3 ?_); (case p1 => assumption); (case p2 => walk_at "oi"); (case p3 => exact rfl))
  | ((with_reducible refine' Bs.o_unp ?p1 ?p2 ?p3 ?_); (case p1 => assumption); (case p2 => walk_at "oi"); (case p3 => exact rfl))
  | ((with_reducible refine' Bs.o_setL ?p1 ?p2 ?p3 ?_); (case p1 => assumption); (case p2 => walk_at "oi"); (case p3 => exact rfl); intro H' ow; walk_at "ow")
  | ((with_reducible refine' Bs.o_tup ?p1 ?p2 ?_); (case p1 => assumption); (case p2 => exact rfl); intro pT H' np ow)
  | ((with_reducible refine' Bs.o_lst ?p1 ?p2 ?_); (case p1 => assumption); (case p2 => exact rfl); intro pL H' np ow)
  | with_reducible refine Bs.r_mkX ?_
  | with_reducible refine Bs.r_sfld ?_
  | with_reducible refine Bs.r_fld ?_
  | ((with_reducible refine' Bs.o_xd ?p1 ?_); (case p1 => assumption); intro dX H' nx ow)
  | ((with_reducible refine' Bs.o_sfld ?p1 ?p2 ?p3 ?p4 ?p5 ?_); (case p1 => assumption); (case p2 => walk_at "oi"); (case p3 => assumption); (case p4 => assumption); (case p5 => exact rfl); intro H' ow; walk_at "ow")
  | ((with_reducible refine' Bs.o_gfld ?p1 ?p2 ?p3 ?p4 ?p5 ?_); (case p1 => assumption); (case p2 => walk_at "oi"); (case p3 => assumption); (case p4 => assumption); (case p5 => walk_at "lk"))
  | ((with_reducible refine' Bs.o_gfldF ?p1 ?p3 ?p4 ?p5 ?_); (case p1 => assumption); (case p3 => assumption); (case p4 => assumption); (case p5 => walk_at "lk"))
  | with_reducible refine Bs.r_W2 ?_
  | with_reducible refine Bs.r_nn ?_
  | ((with_reducible refine' Bs.r_repr ?p1 ?p2 ?_); (case p1 => walk_at "dp"); (case p2 => walk_at "rp"))
  | with_reducible refine Bs.i_refN ?_
  | with_reducible refine Bs.i_nt ?_
  | with_reducible refine Bs.i_nf ?_
  | with_reducible refine Bs.i_nonN ?_
  | with_reducible refine Bs.i_ref ?_
  | with_reducible refine Bs.i_nonT ?_
  | with_reducible refine Bs.r_W1 ?_
  | with_reducible refine Bs.r_Wk ?_
  | with_reducible refine Bs.r_Wt ?_
  | with_reducible refine Bs.r_prop2 ?_
  | with_reducible refine Bs.r_xv2 ?_
  | with_reducible refine Bs.r_for ?_
  | with_reducible refine Bs.r_rng1 ?_
  | ((with_reducible refine' Bs.r_j ?p1 ?p2 ?_); (case p1 => omega); (case p2 => omega))
  | ((with_reducible refine' Bs.o_prop ?p1 ?p2 ?_); (case p1 => assumption); (case p2 => walk_at "oi"))
  | ((with_reducible refine' Bs.o_propF ?p1 ?_); (case p1 => assumption))
  | ((with_reducible refine' Bs.c_get ?p1 ?p2 ?_); (case p1 => first | assumption | exact Bs.Own.get (by assumption) _ (by walk_at "oi")); (case p2 => walk_at "lk"))
  | ((with_reducible refine' Bs.r_wAs ?p1 ?_); (case p1 => assumption); intro eX nE)
  | ((with_reducible refine' Bs.r_isX ?p1 ?p2 ?p3 ?_); (case p1 => first | assumption | exact Bs.Own.get (by assumption) _ (by walk_at "oi")); (case p2 => assumption); (case p3 => assumption))
  | ((with_reducible refine' Bs.o_xv ?p1 ?p2 ?p3 ?_); (case p1 => first | assumption | exact Bs.Own.get (by assumption) _ (by walk_at "oi")); (case p2 => assumption); (case p3 => assumption))
  | (with_reducible show ∃ _, _ ∧ _; refine ⟨_, rfl, ?_⟩)
  | (with_reducible show ∃ _, ∃ _, _ ∧ _; refine ⟨_, _, rfl, ?_⟩))
set_option hygiene false in
local macro_rules | `(tactic| walk_at "rd") => `(tactic| repeat (walk_at "r1"))
set_option hygiene false in
local macro_rules | `(tactic| walk_at "br") => `(tactic| with_reducible first
  | refine Bs.i_int (fun hc => ?_) (fun hc => ?_) | refine Bs.i_intN (fun hc => ?_) (fun hc => ?_)
  | refine Bs.i_dec (fun hc => ?_) (fun hc => ?_) | refine Bs.i_decN (fun hc => ?_) (fun hc => ?_))
set_option hygiene false in
local macro_rules | `(tactic| walk_at "go") => `(tactic| repeat' (first | walk_at "r1" | (walk_at "br" <;> first | (exfalso; omega) | exact absurd rfl hc | skip)))
set_option hygiene false in
local macro_rules | `(tactic| walk_at "s0") => `(tactic| (try dsimp only [L2.cxOf, L2.Cx.nox, L2.Cx.wish, L2.start, List.map, List.map_cons, List.map_nil, List.length_cons, List.length_nil, Nat.reduceAdd, Nat.reduceSub, List.replicate_succ, List.replicate_zero, List.replicate, List.cons_append, List.nil_append, List.append_nil]))
set_option hygiene false in
local macro_rules | `(tactic| walk_at "len") => `(tactic| first | (obtain ⟨hle, _⟩ := h; rw [hle]; rfl) | (obtain ⟨_, h⟩ := h; walk_at "len"))

namespace Bs
open PySem PySem.Spec PyProof.Rows L2
/-! the law's source of draws -/
/-- a well: its list -/
abbrev wl (x y z : Int) : HO := .lst [.int x, .int y, .int z]
structure WOk (y z : Int) : Prop where
  y0 : 0 ≤ y
  y1 : y < 2 ^ 62
  z0 : 0 ≤ z
  z1 : z ≤ 1000000
abbrev s__law_well : Stmt := top 27
theorem sc__law_well : FnScope ["_law_script", "_law_place", "_law_cell", "_law_seed"] ["_law_script", "_law_place"] (defScope s__law_well) := ⟨rfl, rfl, rfl, by decide +kernel, rfl, by decide +kernel, by decide +kernel⟩
abbrev s__law_take : Stmt := top 28
theorem sc__law_take : FnScope ["_law_well_here", "_law_many", "_law_taken", "_law_mixed"] ["_law_well_here", "_law_many"] (defScope s__law_take) := ⟨rfl, rfl, rfl, by decide +kernel, rfl, by decide +kernel, by decide +kernel⟩
section
variable {P : Program} {w : World} {K : PySem.W.Frag} {mg : Str → Option Value} {base : Heap}
def sp_well (K : PySem.W.Frag) : Sp := fun vs H Q _ => ∃ (a : Addr) (ns : List Int) (k : Nat), vs = [.ref a, .int k] ∧ SqL K H a (ns.map V.int) ∧ ns.length ≤ 63 ∧ k ≤ 63 ∧
  ∀ p x y H', H p = none → H' p = some (wl x y 0) → Same H H' → WOk y 0 → Q (.ref p) H'
theorem ok_well {f : Addr} {fd : FuncData} (F : FnP K "_law_well" "_law_well" s__law_well f fd) (B : Bi mg) : FnOk P w K mg base CX0 1 f fd ["_law_script", "_law_place"] (sp_well K) := by
  refine F.ok sc__law_well (fun vs H Q E h => ?_) (fun cdv A outer s H vs Q E hr h => ?_)
  · obtain ⟨a, ns, k, rfl, _⟩ := h
    rfl
  · obtain ⟨a, ns, k, rfl, hS, hl, hk, q⟩ := h
    have nd := sc__law_well.nd
    refine ⟨_, PSs.nox (pss_cons (ps_set (i := 2) nd rfl (Or.inl rfl) pe_int)
      (pss_cons (ps_if (pt_cmpR op_lt (pv 1) (pe_callB cb_len rfl B.len (by decide +kernel) (pa_cons (pv 0) pa_nil)) (nomark _)) (pss_one (ps_set (i := 2) nd rfl (Or.inl rfl) (pe_ix ix_list (pv 0) (pv 1) (fun _ _ => rfl)))) pss_nil)
      (pss_cons (ps_set (i := 3) nd rfl (Or.inl rfl) (pe_op op_mod (pe_callTy cb_int1 rfl B.int (by decide +kernel) (pa_cons (pe_op op_add (pe_op op_mulO (pe_callB cb_abs rfl B.abs (by decide +kernel) (pa_cons (pv 2) pa_nil)) pe_int) (pe_callTy cb_int1 rfl B.int (by decide +kernel) (pa_cons (pe_cmpR op_lt (pv 2) pe_int (nomark _)) pa_nil))) pa_nil)) pe_int))
      (pss_one (ps_ret (pe_lst (pa_cons (pe_op op_mulO (pv 2) (pe_callTy cb_int1 rfl B.int (by decide +kernel) (pa_cons (pe_cmpR op_ge (pv 2) (pe_op op_powW pe_int pe_int) (nomark _)) pa_nil))) (pa_cons (pe_op op_add (pv 3) (pe_op op_mulO pe_int (pv 1))) (pa_cons pe_int pa_nil))))))))), ?_⟩
    walk_at "s0"
    have ow := Own.start H
    walk_at "go"
    · rw [List.length_map] at hc
      refine r_ixL hS (at_map (by omega)) ?_
      walk_at "go"
      exact q pL _ _ H' np (ow.get 0 rfl) (ow.drop.toSame_of) ⟨by split <;> omega, by split <;> omega, by omega, by omega⟩
    · exact q pL _ _ H' np (ow.get 0 rfl) (ow.drop.toSame_of) ⟨by split <;> omega, by split <;> omega, by omega, by omega⟩
def sp_take : Sp := fun vs H Q _ => ∃ (a : Addr) (x y z m : Int), vs = [.ref a, .int m] ∧ H a = some (wl x y z) ∧ WOk y z ∧ z < 1000000 ∧ 1 ≤ m ∧ m < 2 ^ 100 ∧
  ∀ v x' z' H', 0 ≤ v → v < m → z ≤ z' → z' ≤ z + 1 → Mut a (wl x' y z') H H' → Q (.int v) H'
theorem ok_take {f : Addr} {fd : FuncData} (F : FnP K "_law_take" "_law_take" s__law_take f fd) (B : Bi mg) : FnOk P w K mg base CX0 1 f fd ["_law_well_here", "_law_many"] sp_take := by
  refine F.ok sc__law_take (fun vs H Q E h => ?_) (fun cdv A outer s H vs Q E hr h => ?_)
  · obtain ⟨a, x, y, z, m, rfl, _⟩ := h
    rfl
  · obtain ⟨a, x, y, z, m, rfl, ha, ⟨y0, y1, z0, z1⟩, hz, hm, hM, q⟩ := h
    have nd := sc__law_take.nd
    refine ⟨_, PSs.nox (pss_cons (ps_if (pt_cmpR op_gt (pe_ix ix_list (pv 0) pe_int (fun _ _ => rfl)) pe_int (nomark _)) (pss_cons (ps_set (i := 2) nd rfl (Or.inl rfl) (pe_op op_mod (pe_callTy cb_int1 rfl B.int (by decide +kernel) (pa_cons (pe_ix ix_list (pv 0) pe_int (fun _ _ => rfl)) pa_nil)) (pv 1)))
      (pss_cons (ps_asg (pe_op op_fdivW (pe_ix ix_list (pv 0) pe_int (fun _ _ => rfl)) (pv 1)) (pg_sub (pv 0) pe_int set_list))
      (pss_one (ps_ret (pv 2))))) pss_nil)
      (pss_cons (ps_asg (pe_op op_add (pe_ix ix_list (pv 0) pe_int (fun _ _ => rfl)) pe_int) (pg_sub (pv 0) pe_int set_list))
      (pss_cons (ps_set (i := 3) nd rfl (Or.inl rfl) (pe_op op_add (pe_op op_powW (pe_op op_add (pe_ix ix_list (pv 0) pe_int (fun _ _ => rfl)) (pe_op op_mulO pe_int (pe_ix ix_list (pv 0) pe_int (fun _ _ => rfl)))) pe_int) (pe_op op_mulO pe_int (pe_ix ix_list (pv 0) pe_int (fun _ _ => rfl)))))
      (pss_cons (ps_set (i := 3) nd rfl (Or.inl rfl) (pe_op op_add (pe_op op_mod (pe_callTy cb_int1 rfl B.int (by decide +kernel) (pa_cons (pv 3) pa_nil)) pe_int) (pe_op op_mulO pe_int (pe_ix ix_list (pv 0) pe_int (fun _ _ => rfl)))))
      (pss_cons (ps_set (i := 3) nd rfl (Or.inl rfl) (pe_op op_mod (pe_callTy cb_int1 rfl B.int (by decide +kernel) (pa_cons (pe_op op_powW (pv 3) pe_int) pa_nil)) pe_int))
      (pss_one (ps_ret (pe_op op_mod (pe_callTy cb_int1 rfl B.int (by decide +kernel) (pa_cons (pe_op op_fdivW (pv 3) pe_int) pa_nil)) (pv 1))))))))), ?_⟩
    walk_at "s0"
    have ow := Own.take1 ha
    walk_at "go"
    · exact q _ _ _ _ (Int.emod_nonneg _ (by omega)) (Int.emod_lt_of_pos _ (by omega)) (by omega) (by omega) (ow.mut_of g0)
    · exact q _ _ _ _ (Int.emod_nonneg _ (by omega)) (Int.emod_lt_of_pos _ (by omega)) (by omega) (by omega) (ow.mut_of g0)
end

/-! words: the greatest common divisor, the constructor -/
abbrev s_common_part : Stmt := top 9
theorem sc_common_part : FnScope ["one", "other"] ["one", "other"] (defScope s_common_part) := ⟨rfl, rfl, rfl, by decide +kernel, rfl, by decide +kernel, by decide +kernel⟩
abbrev s_Word___init__ : Stmt := inClass (top 17) 0
theorem sc_Word___init__ : FnScope ["self", "top", "bottom", "shared"] ["self", "top", "bottom"] (defScope s_Word___init__) := ⟨rfl, rfl, rfl, by decide +kernel, rfl, by decide +kernel, by decide +kernel⟩
abbrev s_BitError___init__ : Stmt := inClass (top 1) 0
theorem sc_BitError___init__ : FnScope ["self", "value"] ["self", "value"] (defScope s_BitError___init__) := ⟨rfl, rfl, rfl, by decide +kernel, rfl, by decide +kernel, by decide +kernel⟩
theorem gcd_step {a b : Int} (h : b ≠ 0) : Int.gcd b (a.fmod b) = Int.gcd a b := by
  rw [Int.fmod_def, Int.gcd_sub_mul_left_right, Int.gcd_comm]
theorem natAbs_fmod {a b : Int} (h : b ≠ 0) : (a.fmod b).natAbs < b.natAbs := by
  rcases Int.lt_or_gt_of_ne h with hb | hb
  · have h1 := Int.neg_fmod_neg (-a) (-b)
    rw [Int.neg_neg, Int.neg_neg] at h1
    have h2 := Int.fmod_nonneg_of_pos (-a) (show 0 < -b by omega)
    have h3 := Int.fmod_lt_of_pos (-a) (show 0 < -b by omega)
    omega
  · have h2 := Int.fmod_nonneg_of_pos a hb
    have h3 := Int.fmod_lt_of_pos a hb
    omega
/-- what a fraction is shortened by -/
def wSh (t b : Int) : Int := if b < 0 then -(Int.gcd t b : Int) else Int.gcd t b
def wT (t b : Int) : Int := t.fdiv (wSh t b)
def wB (t b : Int) : Int := b.fdiv (wSh t b)
def wOk (t b : Int) : Prop := b ≠ 0 ∧ wB t b % 2 ≠ 0
theorem wSh_ne {t b : Int} (h : b ≠ 0) : wSh t b ≠ 0 := by
  have : 0 < Int.gcd t b := Int.gcd_pos_of_ne_zero_right t h
  unfold wSh; split <;> omega
theorem gcd_le_b {t b : Int} (h : b ≠ 0) : Int.gcd t b ≤ b.natAbs := Nat.le_of_dvd (by omega) (Int.natAbs_dvd_natAbs.mpr (Int.gcd_dvd_right t b))
/-- the fields of a word -/
abbrev wfl (t b : Int) : List (Str × V) := [("kept_top", .int t), ("kept_bottom", .int b)]
theorem wk_ne : ¬ (("kept_top" : Str) = "kept_bottom") := by decide +kernel
theorem put_top (t : Int) : putF "kept_top" (V.int t) [] = [(("kept_top" : Str), V.int t)] := rfl
theorem put_bot (t b : Int) : putF "kept_bottom" (V.int b) [(("kept_top" : Str), V.int t)] = wfl t b := by
  show (if ("kept_top" : Str) = "kept_bottom" then [(("kept_top" : Str), V.int b)] else (("kept_top" : Str), V.int t) :: putF "kept_bottom" (V.int b) []) = wfl t b
  rw [if_neg wk_ne]
  rfl
theorem wfl_top (t b : Int) : (wfl t b).lookup ("kept_top" : Str) = some (.int t) := by simp [List.lookup]
theorem wfl_bot (t b : Int) : (wfl t b).lookup ("kept_bottom" : Str) = some (.int b) := by
  have : (("kept_bottom" : Str) == "kept_top") = false := by decide +kernel
  simp [List.lookup, this]
section
variable {P : Program} {w : World} {K : PySem.W.Frag} {mg : Str → Option Value} {base : Heap}
def sp_common_part : Sp := fun vs H Q _ => ∃ a b : Int, vs = [.int a, .int b] ∧ Q (.int (Int.gcd a b : Int)) H
theorem c_gcd {a b : Int} {H : Hp} {Q : VK} {E : XK} (k : Q (.int (Int.gcd a b : Int)) H) : sp_common_part ([.int a, .int b] ++ []) H Q E := ⟨a, b, rfl, k⟩
set_option hygiene false in
local macro_rules | `(tactic| walk_at "r1") => `(tactic| with_reducible refine Bs.c_gcd ?_)
set_option hygiene false in
local macro_rules | `(tactic| walk_at "lk") => `(tactic| first
  | exact Bs.wfl_top _ _
  | exact Bs.wfl_bot _ _)
theorem ok_common_part {f : Addr} {fd : FuncData} (F : FnP K "common_part" "common_part" s_common_part f fd) (B : Bi mg) : FnOk P w K mg base CX0 1 f fd ["one", "other"] sp_common_part := by
  refine F.ok sc_common_part (fun vs H Q E h => ?_) (fun cdv A outer s H vs Q E hr h => ?_)
  · obtain ⟨a, b, rfl, _⟩ := h
    rfl
  · obtain ⟨a, b, rfl, k⟩ := h
    have nd := sc_common_part.nd
    refine ⟨_, PSs.nox (pss_cons (ps_while PassesOwn.never (pt_cmpR op_ne (pv 1) pe_int (nomark _)) (pss_one (ps_par (i := 0) (j := 1) rfl nd rfl rfl (by decide) rfl rfl (pa_cons (pv 1) (pa_cons (pe_op op_modN (pv 0) (pv 1)) pa_nil)) rfl)))
      (pss_one (ps_ret (pe_callB cb_abs rfl B.abs (by decide +kernel) (pa_cons (pv 0) pa_nil))))), ?_⟩
    walk_at "s0"
    walk_at "go"
    refine r_while (fun m σ H' => ∃ x y : Int, σ = [some (.int x), some (.int y)] ∧ H' = H ∧ m = y.natAbs ∧ Int.gcd x y = Int.gcd a b) b.natAbs ⟨a, b, rfl, rfl, rfl, rfl⟩ ?_
    rintro m σ H' ⟨x, y, rfl, rfl, rfl, hg⟩
    walk_at "go"
    · exact ⟨_, natAbs_fmod hc, _, _, rfl, rfl, rfl, (gcd_step hc).trans hg⟩
    · subst hc
      rw [Int.gcd_zero_right] at hg
      rw [hg]
      exact k
theorem ok_excInit {f : Addr} {fd : FuncData} (F : FnP K "__init__" "BitError.__init__" s_BitError___init__ f fd) : FnOk P w K mg base CX0 1 f fd ["self", "value"] (sp_excInit K) := by
  refine F.ok sc_BitError___init__ (fun vs H Q E h => ?_) (fun cdv A outer s H vs Q E hr h => ?_)
  · obtain ⟨a, C, v, rfl, _⟩ := h
    rfl
  · obtain ⟨a, C, v, rfl, T, nv, ha, k⟩ := h
    refine ⟨_, PSs.nox (pss_one (ps_ost (pv 0) (pv 1))), ?_⟩
    exact ⟨v, rfl, .ref a, rfl, a, C, rfl, T, nv, .inl ⟨ha, fun dx h1 h2 => k dx h1 h2⟩⟩
/-- Word.__init__: C the class, I that of InvalidWord -/
def sp_Word_init (C I : Addr) : Sp := fun vs H Q E => ∃ (p dx : Addr) (t b : Int), vs = [.ref p, .int t, .int b] ∧ H p = some (.ins C dx []) ∧ b.natAbs < 2 ^ 8000 ∧
  (wOk t b → ∀ H', Mut p (.ins C dx (wfl (wT t b) (wB t b))) H H' → Q .non H') ∧
  (¬ wOk t b → ∀ d q H', Same H H' → H d = none → H q = none → H' d = some (.xd [("value", .ref q)]) → H' q = some (.tup [.int t, .int b]) → E (.ref I) (some d) H')
theorem own_back {H H' : Hp} {p : Addr} {o : HO} {L : List (Addr × HO)} {i : Nat} (hp : H p = some o) (h : Own (fun b => if b = p then none else H b) H' L) (e : L[i]? = some (p, o)) : Same H H' := fun b u hb => by
  by_cases z : b = p
  · subst z; rw [hp] at hb; cases hb; exact h.get i e
  · exact h.sub b u (by show (if b = p then none else H b) = some u; rw [if_neg z]; exact hb)
theorem ok_Word_init {f C I : Addr} {fd : FuncData} {dvs : List V} (F : FunD K "__init__" "Word.__init__" (defArgs s_Word___init__) (defBody s_Word___init__) (defScope s_Word___init__) dvs [] f fd) (B : Bi mg) (cl : Cls K C) (nT : NoAttr K C "kept_top") (nB : NoAttr K C "kept_bottom")
    (c_common_part : Fo P w K mg base CX0 1 "common_part" ["one", "other"] sp_common_part) (x_InvalidWord : Xc P w K mg base "InvalidWord" I) : FnOk P w K mg base (L2.CX P w) 4 f fd ["self", "top", "bottom"] (sp_Word_init C I) := by
  refine F.ok sc_Word___init__ (fun vs H Q E h => ?_) (fun cdv A outer s H vs Q E hr h => ?_)
  · obtain ⟨p, dx, t, b, rfl, _⟩ := h
    rfl
  · obtain ⟨p, dx, t, b, rfl, hp, hb, k1, k2⟩ := h
    have nd := sc_Word___init__.nd
    refine ⟨_, pss_cons (ps_if (pt_cmpR op_eq (pv 2) pe_int (nomark _)) (pss_one (ps_rx rfl (takes_of rfl rfl rfl rfl) x_InvalidWord hr (by decide) (pa_cons (pe_tup (pa_cons (pv 1) (pa_cons (pv 2) pa_nil))) pa_nil) (mo_cons (mo_tup (mo_cons mo_var (mo_cons mo_var mo_nil))) mo_nil))) pss_nil)
      (pss_cons (ps_set (i := 3) nd rfl (Or.inl rfl) (pe_fo c_common_part hr (by decide) (pa_cons (pv 1) (pa_cons (pv 2) pa_nil))))
      (pss_cons (ps_if (pt_cmpR op_lt (pv 2) pe_int (nomark _)) (pss_one (ps_set (i := 3) nd rfl (Or.inl rfl) (pe_un un_neg (pv 3)))) pss_nil)
      (pss_cons (ps_if (pt_cmpR op_eq (pe_op op_mod (pe_op op_fdivF (pv 2) (pv 3)) pe_int) pe_int (nomark _)) (pss_one (ps_rx rfl (takes_of rfl rfl rfl rfl) x_InvalidWord hr (by decide) (pa_cons (pe_tup (pa_cons (pv 1) (pa_cons (pv 2) pa_nil))) pa_nil) (mo_cons (mo_tup (mo_cons mo_var (mo_cons mo_var mo_nil))) mo_nil))) pss_nil)
      (pss_cons (ps_fld (pv 0) (pe_op op_fdivF (pv 1) (pv 3)) rfl)
      (pss_one (ps_fld (pv 0) (pe_op op_fdivF (pv 2) (pv 3)) rfl)))))), ?_⟩
    walk_at "s0"
    have ow := Own.take1 hp
    by_cases hb0 : b = 0
    · subst hb0
      walk_at "go"
      exact k2 (fun z => z.1 rfl) dX pT H' (own_back hp ow g2) (own_new ow 0 2 rfl rfl (by decide)) np (ow.get 0 rfl) (ow.get 1 rfl)
    have hg : 0 < Int.gcd t b := Int.gcd_pos_of_ne_zero_right t hb0
    have hle := gcd_le_b (t := t) hb0
    have c1 : CFd 0 (-(Int.gcd t b : Int)) := cfd 8000 (by omega) (Nat.lt_of_le_of_lt (by omega) hb) (by decide) (by decide)
    have c2 : CFd 0 (Int.gcd t b : Int) := cfd 8000 (by omega) (Nat.lt_of_le_of_lt (by omega) hb) (by decide) (by decide)
    walk_at "go"
    · have e : wB t b = b.fdiv (-(Int.gcd t b : Int)) := by unfold wB wSh; rw [if_pos (by omega)]
      exact k2 (fun z => z.2 (by rw [e]; exact hc)) dX pT H' (own_back hp ow g2) (own_new ow 0 2 rfl rfl (by decide)) np (ow.get 0 rfl) (ow.get 1 rfl)
    · have e : wB t b = b.fdiv (-(Int.gcd t b : Int)) := by unfold wB wSh; rw [if_pos (by omega)]
      have e2 : wT t b = t.fdiv (-(Int.gcd t b : Int)) := by unfold wT wSh; rw [if_pos (by omega)]
      rw [put_top, put_bot, ← e, ← e2] at ow
      exact k1 ⟨hb0, by rw [e]; exact hc⟩ H' (ow.mut_of g0)
    · have e : wB t b = b.fdiv (Int.gcd t b : Int) := by unfold wB wSh; rw [if_neg (by omega)]
      exact k2 (fun z => z.2 (by rw [e]; exact hc)) dX pT H' (own_back hp ow g2) (own_new ow 0 2 rfl rfl (by decide)) np (ow.get 0 rfl) (ow.get 1 rfl)
    · have e : wB t b = b.fdiv (Int.gcd t b : Int) := by unfold wB wSh; rw [if_neg (by omega)]
      have e2 : wT t b = t.fdiv (Int.gcd t b : Int) := by unfold wT wSh; rw [if_neg (by omega)]
      rw [put_top, put_bot, ← e, ← e2] at ow
      exact k1 ⟨hb0, by rw [e]; exact hc⟩ H' (ow.mut_of g0)
end
theorem wSh_dt {t b : Int} : wSh t b ∣ t := by
  have g : (Int.gcd t b : Int) ∣ t := Int.gcd_dvd_left t b
  unfold wSh
  split
  · exact Int.neg_dvd.mpr g
  · exact g
theorem wSh_db {t b : Int} : wSh t b ∣ b := by
  have g : (Int.gcd t b : Int) ∣ b := Int.gcd_dvd_right t b
  unfold wSh
  split
  · exact Int.neg_dvd.mpr g
  · exact g
theorem wT_mul {t b : Int} : wT t b * wSh t b = t := Int.fdiv_mul_cancel wSh_dt
theorem wB_mul {t b : Int} : wB t b * wSh t b = b := Int.fdiv_mul_cancel wSh_db
theorem le_of_mul {x s t : Int} (h : x * s = t) (hs : s ≠ 0) : x.natAbs ≤ t.natAbs := by
  rw [← h, Int.natAbs_mul]
  exact Nat.le_mul_of_pos_right _ (by omega)
theorem wT_le {t b : Int} (h : b ≠ 0) : (wT t b).natAbs ≤ t.natAbs := le_of_mul wT_mul (wSh_ne h)
theorem wB_le {t b : Int} (h : b ≠ 0) : (wB t b).natAbs ≤ b.natAbs := le_of_mul wB_mul (wSh_ne h)
theorem wSh_one {t : Int} : wSh t 1 = 1 := by
  unfold wSh
  rw [if_neg (by decide), Int.gcd_one_right]
  rfl
theorem wT_one {t : Int} : wT t 1 = t := by
  have := wT_mul (t := t) (b := 1)
  rw [wSh_one, Int.mul_one] at this
  exact this
theorem wB_one {t : Int} : wB t 1 = 1 := by
  have := wB_mul (t := t) (b := 1)
  rw [wSh_one, Int.mul_one] at this
  exact this
theorem wOk_one {t : Int} : wOk t 1 := ⟨by decide, by rw [wB_one]; decide⟩

set_option hygiene false in
local macro_rules | `(tactic| walk_at "r1") => `(tactic| with_reducible refine Bs.c_gcd ?_)
set_option hygiene false in
local macro_rules | `(tactic| walk_at "lk") => `(tactic| first
  | exact Bs.wfl_top _ _
  | exact Bs.wfl_bot _ _)
/-! fractions in lowest terms, plain -/
theorem wSh_pos {t b : Int} (h : b ≠ 0) : 0 < wSh t b ↔ 0 < b := by
  have := Int.gcd_pos_of_ne_zero_right t h
  unfold wSh; split <;> omega
theorem nm_pos {t b : Int} (h : b ≠ 0) : 0 < wB t b := by
  have e := wB_mul (t := t) (b := b)
  have s := wSh_pos (t := t) h
  rcases Int.lt_or_gt_of_ne h with g | g
  · have s2 : wSh t b < 0 := by have := wSh_ne (t := t) h; omega
    rcases Int.lt_trichotomy (wB t b) 0 with q | q | q
    · have := Int.mul_pos_of_neg_of_neg q s2; omega
    · rw [q, Int.zero_mul] at e; omega
    · exact q
  · have s2 : 0 < wSh t b := s.mpr g
    rcases Int.lt_trichotomy (wB t b) 0 with q | q | q
    · have := Int.mul_neg_of_neg_of_pos q s2; omega
    · rw [q, Int.zero_mul] at e; omega
    · exact q
theorem wSh_abs {t b : Int} : (wSh t b).natAbs = Int.gcd t b := by unfold wSh; split <;> omega
theorem nm_co {t b : Int} (h : b ≠ 0) : Int.gcd (wT t b) (wB t b) = 1 := by
  have g : Int.gcd (wT t b * wSh t b) (wB t b * wSh t b) = Int.gcd (wT t b) (wB t b) * (wSh t b).natAbs := Int.gcd_mul_right ..
  rw [wT_mul, wB_mul, wSh_abs] at g
  have p := Int.gcd_pos_of_ne_zero_right t h
  exact Nat.eq_of_mul_eq_mul_right p (by omega)
theorem nm_cross {p q : Int} : wT p q * q = p * wB p q := by
  have e1 := wT_mul (t := p) (b := q)
  have e2 := wB_mul (t := p) (b := q)
  calc wT p q * q = wT p q * (wB p q * wSh p q) := by rw [e2]
    _ = (wT p q * wSh p q) * wB p q := by ac_rfl
    _ = p * wB p q := by rw [e1]
theorem co_dvd {a b c : Int} (g : Int.gcd b a = 1) (h : b ∣ a * c) : b ∣ c := by
  have h1 : b.natAbs ∣ a.natAbs * c.natAbs := by rw [← Int.natAbs_mul]; exact Int.natAbs_dvd_natAbs.mpr h
  exact Int.natAbs_dvd_natAbs.mp (Nat.Coprime.dvd_of_dvd_mul_left g h1)
theorem lw_unique {a b c d : Int} (hb : 0 < b) (hd : 0 < d) (g1 : Int.gcd a b = 1) (g2 : Int.gcd c d = 1) (h : a * d = c * b) : a = c ∧ b = d := by
  have d1 : b ∣ d := by
    have : b ∣ a * d := ⟨c, by rw [h, Int.mul_comm]⟩
    exact co_dvd (by rw [Int.gcd_comm]; exact g1) this
  have d2 : d ∣ b := by
    have : d ∣ c * b := ⟨a, by rw [← h, Int.mul_comm]⟩
    exact co_dvd (by rw [Int.gcd_comm]; exact g2) this
  have e : b = d := Int.dvd_antisymm (by omega) (by omega) d1 d2
  subst e
  exact ⟨Int.eq_of_mul_eq_mul_right (by omega) h, rfl⟩
theorem nm_eq {p q p' q' : Int} (h : q ≠ 0) (h' : q' ≠ 0) (e : p * q' = p' * q) : wT p q = wT p' q' ∧ wB p q = wB p' q' := by
  refine lw_unique (nm_pos h) (nm_pos h') (nm_co h) (nm_co h') ?_
  have c1 := nm_cross (p := p) (q := q)
  have c2 := nm_cross (p := p') (q := q')
  -- (T B') q q' = (T q) (B' q') = (p B) (B' q') = p q' B B' = p' q B B' = (T' q') B q
  have k : (wT p q * wB p' q') * (q * q') = (wT p' q' * wB p q) * (q * q') := by
    calc (wT p q * wB p' q') * (q * q') = (wT p q * q) * (wB p' q' * q') := by ac_rfl
      _ = (p * wB p q) * (wB p' q' * q') := by rw [c1]
      _ = (p * q') * (wB p q * wB p' q') := by ac_rfl
      _ = (p' * q) * (wB p q * wB p' q') := by rw [e]
      _ = (p' * wB p' q') * (wB p q * q) := by ac_rfl
      _ = (wT p' q' * q') * (wB p q * q) := by rw [c2]
      _ = (wT p' q' * wB p q) * (q * q') := by ac_rfl
  exact Int.eq_of_mul_eq_mul_right (Int.mul_ne_zero h h') k
theorem ok_odd {t b : Int} (h : b % 2 = 1) : wOk t b := by
  have hb : b ≠ 0 := by intro z; subst z; cases h
  refine ⟨hb, fun z => ?_⟩
  have e := wB_mul (t := t) (b := b)
  have : b % 2 = 0 := by rw [← e, Int.mul_emod, z, Int.zero_mul]; rfl
  omega
theorem odd_nm {t b : Int} (h : wOk t b) : wB t b % 2 = 1 := by have := h.2; omega
theorem odd_mul {a b : Int} (h : a % 2 = 1) (g : b % 2 = 1) : (a * b) % 2 = 1 := by rw [Int.mul_emod, h, g]; rfl
theorem ne_odd {a : Int} (h : a % 2 = 1) : a ≠ 0 := fun z => by subst z; cases h
theorem mulB {x y : Int} (A B : Nat) (hx : x.natAbs ≤ A) (hy : y.natAbs ≤ B) : (x * y).natAbs ≤ A * B := by
  rw [Int.natAbs_mul]; exact Nat.mul_le_mul hx hy
theorem mulW {x y : Int} (m n : Nat) (hx : x.natAbs < 2 ^ m) (hy : y.natAbs < 2 ^ n) : (x * y).natAbs < 2 ^ (m + n) := by
  rw [Int.natAbs_mul, Nat.pow_add]
  exact Nat.mul_lt_mul'' hx hy
theorem addW {x y : Int} (n : Nat) (hx : x.natAbs < 2 ^ n) (hy : y.natAbs < 2 ^ n) : (x + y).natAbs < 2 ^ (n + 1) := by
  rw [Nat.pow_succ]; omega
theorem subW {x y : Int} (n : Nat) (hx : x.natAbs < 2 ^ n) (hy : y.natAbs < 2 ^ n) : (x - y).natAbs < 2 ^ (n + 1) := by
  rw [Nat.pow_succ]; omega

/-! making words -/
def gId : {α : Type} → List α → List α → List α := fun vs _ => vs
def gFlip : {α : Type} → List α → List α → List α := fun vs zs => match vs, zs with
  | x :: _, b :: t :: _ => [x, t, b]
  | _, _ => []
def gKw1 : {α : Type} → List α → List α → List α → List α := fun vs ds zs => vs ++ zs ++ ds
def gPo1 : {α : Type} → List α → List α → List α → List α := fun vs ds _ => vs ++ ds
/-- the class Word as the text's top leaves it -/
structure WordC (P : Program) (w : World) (K : PySem.W.Frag) (mg : Str → Option Value) (base : Heap) (C I : Addr) : Prop where
  cl : Cls K C
  nT : NoAttr K C "kept_top"
  nB : NoAttr K C "kept_bottom"
  gC : mg "Word" = some (.ref C)
  ex : ∃ (f : Addr) (fd : FuncData), Mk K C f ∧ FnOk P w K mg base (L2.CX P w) 4 f fd ["self", "top", "bottom"] (sp_Word_init C I) ∧ Cb K fd ["self", "top", "bottom"] 3 [] gId ∧
    Cb K fd ["self", "top", "bottom"] 2 [] (fun vs zs => gPo1 vs [.int 1] zs) ∧ Cb K fd ["self", "top", "bottom"] 1 ["bottom", "top"] gFlip ∧ Cb K fd ["self", "top", "bottom"] 1 ["top"] (fun vs zs => gKw1 vs [.int 1] zs)
def cW (C I : Addr) (Q : VK) (E : XK) (t b : Int) (H : Hp) : Prop := b.natAbs < 2 ^ 8000 ∧ (wOk t b → ∀ p dx H', H p = none → Same H H' → H' p = some (.ins C dx (wfl (wT t b) (wB t b))) → Q (.ref p) H') ∧
  (¬ wOk t b → ∀ d q H', Same H H' → H d = none → H q = none → H' d = some (.xd [("value", .ref q)]) → H' q = some (.tup [.int t, .int b]) → E (.ref I) (some d) H')
theorem cW_init {C I : Addr} {Q : VK} {E : XK} {t b : Int} {H : Hp} (h : cW C I Q E t b H) (x dx : Addr) (n1 : H x = none) (n2 : H dx = none) (ne : dx ≠ x) :
    sp_Word_init C I [.ref x, .int t, .int b] (upd (upd H dx (.own x)) x (.ins C dx [])) (fun v H3 => v = .non ∧ Q (.ref x) H3) E := by
  obtain ⟨hb, k1, k2⟩ := h
  have s1 : Same H (upd (upd H dx (.own x)) x (.ins C dx [])) := fun c o e => by rw [upd_ne (ne_of_none e n1), upd_ne (ne_of_none e n2)]; exact e
  refine ⟨x, dx, t, b, rfl, upd_same, hb, fun v H' m => ⟨rfl, k1 v x dx H' n1 (fun c o e => m.keep c o (ne_of_none e n1) (s1 c o e)) m.here⟩, fun v d q H' s nd nq h1 h2 => k2 v d q H' (s1.trans s) (s1.free nd) (s1.free nq) h1 h2⟩
/-- readings: Word(t, b), Word(t), Word(bottom=b, top=t), Word(top=t) -/
abbrev tW2 (C I : Addr) (E : L2.St → XK) (ta : TA) : TE := tMkS C 2 0 (sp_Word_init C I) gId E ta tNil
abbrev tW1 (C I : Addr) (E : L2.St → XK) (ta : TA) : TE := tMkS C 1 0 (sp_Word_init C I) (fun vs zs => gPo1 vs [.int 1] zs) E ta tNil
abbrev tWk (C I : Addr) (E : L2.St → XK) (tk : TA) : TE := tMkS C 0 2 (sp_Word_init C I) gFlip E tNil tk
abbrev tWt (C I : Addr) (E : L2.St → XK) (tk : TA) : TE := tMkS C 0 1 (sp_Word_init C I) (fun vs zs => gKw1 vs [.int 1] zs) E tNil tk
def cMk (C : Addr) (n m : Nat) (sp : Sp) (gV : List V → List V → List V) (Q : VK) (E : XK) (vs zs : List V) (H : Hp) : Prop := vs.length = n ∧ zs.length = m ∧
  ∀ x dx, H x = none → H dx = none → dx ≠ x → sp (gV (.ref x :: vs) zs) (upd (upd H dx (.own x)) x (.ins C dx [])) (fun v H3 => v = .non ∧ Q (.ref x) H3) E
theorem cMk_2 {C I : Addr} {Q : VK} {E : XK} {t b : Int} {H : Hp} (h : cW C I Q E t b H) : cMk C 2 0 (sp_Word_init C I) gId Q E [.int t, .int b] [] H := ⟨rfl, rfl, fun x dx n1 n2 ne => cW_init h x dx n1 n2 ne⟩
theorem cMk_1 {C I : Addr} {Q : VK} {E : XK} {t : Int} {H : Hp} (h : cW C I Q E t 1 H) : cMk C 1 0 (sp_Word_init C I) (fun vs zs => gPo1 vs [.int 1] zs) Q E [.int t] [] H := ⟨rfl, rfl, fun x dx n1 n2 ne => cW_init h x dx n1 n2 ne⟩
theorem cMk_k {C I : Addr} {Q : VK} {E : XK} {t b : Int} {H : Hp} (h : cW C I Q E t b H) : cMk C 0 2 (sp_Word_init C I) gFlip Q E [] [.int b, .int t] H := ⟨rfl, rfl, fun x dx n1 n2 ne => cW_init h x dx n1 n2 ne⟩
theorem cMk_t {C I : Addr} {Q : VK} {E : XK} {t : Int} {H : Hp} (h : cW C I Q E t 1 H) : cMk C 0 1 (sp_Word_init C I) (fun vs zs => gKw1 vs [.int 1] zs) Q E [] [.int t] H := ⟨rfl, rfl, fun x dx n1 n2 ne => cW_init h x dx n1 n2 ne⟩
section
variable {X : Cx} {C I : Addr} {j : Nat} {E : L2.St → XK} {p pos : Pos} {ta tk : TA}
theorem pe_W2 {e1 e2 : Expr} (c : WordC X.prog X.w X.K X.mg X.base C I) (hr : Room j X.A) (hj : 5 ≤ j) (hx : ∀ σ, PassesAt (L2.CX X.prog X.w) X σ (E σ)) (ha : PA X [e1, e2] ta) (hg : Gl X "Word" := by rfl)
    (hall : (backToKw pos (keywordEach [] X.env)).all (·.1.isSome) = true := by rfl) (hks : (backToKw pos (keywordEach [] X.env)).filterMap (·.1) = [] := by rfl)
    (he : starEach [e1, e2] X.env = (false, eval e1 X.env) :: starEach [e2] X.env := by rfl)
    (hpl : ((backTo pos (starEach [e1, e2] X.env)).any (·.1) || (backToKw pos (keywordEach [] X.env)).any (·.1.isNone)) = false := by rfl) : PE X (.Call (.Name "Word" p) [e1, e2] [] pos) (tW2 C I E ta) := by
  obtain ⟨f, fd, M, F, b3, b2, bk, bt⟩ := c.ex
  exact pe_mkS (n := 2) M F (hr.mono hj) c.gC b3 hx ha pk_nil hg hall hks (by decide) he hpl
theorem pe_W1 {e1 : Expr} (c : WordC X.prog X.w X.K X.mg X.base C I) (hr : Room j X.A) (hj : 5 ≤ j) (hx : ∀ σ, PassesAt (L2.CX X.prog X.w) X σ (E σ)) (ha : PA X [e1] ta) (hg : Gl X "Word" := by rfl)
    (hall : (backToKw pos (keywordEach [] X.env)).all (·.1.isSome) = true := by rfl) (hks : (backToKw pos (keywordEach [] X.env)).filterMap (·.1) = [] := by rfl)
    (he : starEach [e1] X.env = (false, eval e1 X.env) :: starEach [] X.env := by rfl)
    (hpl : ((backTo pos (starEach [e1] X.env)).any (·.1) || (backToKw pos (keywordEach [] X.env)).any (·.1.isNone)) = false := by rfl) : PE X (.Call (.Name "Word" p) [e1] [] pos) (tW1 C I E ta) := by
  obtain ⟨f, fd, M, F, b3, b2, bk, bt⟩ := c.ex
  exact pe_mkS (n := 1) M F (hr.mono hj) c.gC b2 hx ha pk_nil hg hall hks (by decide) he hpl
theorem pe_Wk {e1 e2 : Expr} {k1 k2 : Pos} (c : WordC X.prog X.w X.K X.mg X.base C I) (hr : Room j X.A) (hj : 5 ≤ j) (hx : ∀ σ, PassesAt (L2.CX X.prog X.w) X σ (E σ)) (ha : PK X [⟨some "bottom", e1, k1⟩, ⟨some "top", e2, k2⟩] tk) (hg : Gl X "Word" := by rfl)
    (hall : (backToKw pos (keywordEach [⟨some "bottom", e1, k1⟩, ⟨some "top", e2, k2⟩] X.env)).all (·.1.isSome) = true := by rfl) (hks : (backToKw pos (keywordEach [⟨some "bottom", e1, k1⟩, ⟨some "top", e2, k2⟩] X.env)).filterMap (·.1) = ([("bottom" : Str), "top"] : List Str) := by rfl)
    (hpl : ((backTo pos (starEach [] X.env)).any (·.1) || (backToKw pos (keywordEach [⟨some "bottom", e1, k1⟩, ⟨some "top", e2, k2⟩] X.env)).any (·.1.isNone)) = false := by rfl) : PE X (.Call (.Name "Word" p) [] [⟨some "bottom", e1, k1⟩, ⟨some "top", e2, k2⟩] pos) (tWk C I E tk) := by
  obtain ⟨f, fd, M, F, b3, b2, bk, bt⟩ := c.ex
  exact pe_mkS0 M F (hr.mono hj) c.gC bk hx ha hg hall hks (by decide) hpl
theorem pe_Wt {e1 : Expr} {k1 : Pos} (c : WordC X.prog X.w X.K X.mg X.base C I) (hr : Room j X.A) (hj : 5 ≤ j) (hx : ∀ σ, PassesAt (L2.CX X.prog X.w) X σ (E σ)) (ha : PK X [⟨some "top", e1, k1⟩] tk) (hg : Gl X "Word" := by rfl)
    (hall : (backToKw pos (keywordEach [⟨some "top", e1, k1⟩] X.env)).all (·.1.isSome) = true := by rfl) (hks : (backToKw pos (keywordEach [⟨some "top", e1, k1⟩] X.env)).filterMap (·.1) = ([("top" : Str)] : List Str) := by rfl)
    (hpl : ((backTo pos (starEach [] X.env)).any (·.1) || (backToKw pos (keywordEach [⟨some "top", e1, k1⟩] X.env)).any (·.1.isNone)) = false := by rfl) : PE X (.Call (.Name "Word" p) [] [⟨some "top", e1, k1⟩] pos) (tWt C I E tk) := by
  obtain ⟨f, fd, M, F, b3, b2, bk, bt⟩ := c.ex
  exact pe_mkS0 M F (hr.mono hj) c.gC bt hx ha hg hall hks (by decide) hpl
end
section
variable {F H : Hp} {L : List (Addr × HO)} {C I : Addr} {Q : VK} {E : XK} {t b : Int} {σ : L2.St}
theorem r_W2 {E : L2.St → XK} {ta : TA} (k : ta σ H fun vs H1 => cMk C 2 0 (sp_Word_init C I) gId Q (E σ) vs [] H1) : tW2 C I E ta σ H Q := k
theorem r_W1 {E : L2.St → XK} {ta : TA} (k : ta σ H fun vs H1 => cMk C 1 0 (sp_Word_init C I) (fun vs zs => gPo1 vs [.int 1] zs) Q (E σ) vs [] H1) : tW1 C I E ta σ H Q := k
theorem r_Wk {E : L2.St → XK} {ta : TA} (k : ta σ H fun zs H1 => cMk C 0 2 (sp_Word_init C I) gFlip Q (E σ) [] zs H1) : tWk C I E ta σ H Q := k
theorem r_Wt {E : L2.St → XK} {ta : TA} (k : ta σ H fun zs H1 => cMk C 0 1 (sp_Word_init C I) (fun vs zs => gKw1 vs [.int 1] zs) Q (E σ) [] zs H1) : tWt C I E ta σ H Q := k
theorem o_W (h : Own F H L) (hb : b.natAbs < 2 ^ 8000) (hv : wOk t b) (k : ∀ p dx H', H p = none → Own F H' ((p, .ins C dx (wfl (wT t b) (wB t b))) :: L) → Q (.ref p) H') : cW C I Q E t b H :=
  ⟨hb, fun _ p dx H' n s e => k p dx H' n ((h.newS n s e)), fun z => absurd hv z⟩
theorem o_WX (h : Own F H L) (hb : b.natAbs < 2 ^ 8000) (k : wOk t b → ∀ p dx H', H p = none → Own F H' ((p, .ins C dx (wfl (wT t b) (wB t b))) :: L) → Q (.ref p) H')
    (k2 : ¬ wOk t b → ∀ d q H', Own F H' ((d, .xd [("value", .ref q)]) :: (q, .tup [.int t, .int b]) :: L) → E (.ref I) (some d) H') : cW C I Q E t b H :=
  ⟨hb, fun v p dx H' n s e => k v p dx H' n ((h.newS n s e)), fun v d q H' s n1 n2 e1 e2 => k2 v d q H' (by
    have nq : d ≠ q := ne_of e1 e2 (fun z => by cases z)
    have w1 := h.newS n2 s e2
    exact w1.newAt (h.fresh n1) e1 (fun i a o e z => by
      cases i with
      | zero => simp at e; exact nq (z.trans e.1.symm)
      | succ i =>
        have := (h.own i a o (by simpa using e)).1
        rw [← z, n1] at this
        cases this))⟩
end
set_option hygiene false in
local macro_rules | `(tactic| walk_at "r1") => `(tactic| first
  | with_reducible refine Bs.cMk_2 ?_
  | with_reducible refine Bs.cMk_1 ?_
  | with_reducible refine Bs.cMk_k ?_
  | with_reducible refine Bs.cMk_t ?_
  | ((with_reducible refine' Bs.o_W ?p1 ?p2 ?p3 ?_); (case p1 => assumption); (case p2 => first | assumption | omega); (case p3 => first | assumption | exact Bs.wOk_one | exact Bs.ok_odd (by first | assumption | omega)); intro pW dW H' np ow; (try simp only [Bs.wT_one, Bs.wB_one] at ow))
  | ((with_reducible refine' Bs.o_WX ?p1 ?p2 ?_ ?_); (case p1 => assumption); (case p2 => first | assumption | omega); (all_goals first | (intro wok pW dW H' np ow) | (intro nwok dX pT H' ow))))

/-! drawn numbers; fractions that are words, plain -/
theorem c_take {F H : Hp} {L : List (Addr × HO)} {i : Nat} {a : Addr} {x y z m : Int} {Q : VK} {E : XK} (h : Own F H L) (e : L[i]? = some (a, wl x y z)) (wk : WOk y z) (hz : z < 1000000) (hm : 1 ≤ m) (hM : m < 2 ^ 100)
    (k : ∀ v x' z' H', 0 ≤ v → v < m → z ≤ z' → z' ≤ z + 1 → WOk y z' → Own F H' (L.set i (a, wl x' y z')) → Q (.int v) H') : sp_take ([.ref a, .int m] ++ []) H Q E :=
  ⟨a, x, y, z, m, rfl, h.get i e, wk, hz, hm, hM, fun v x' z' H' h1 h2 h3 h4 m' => k v x' z' H' h1 h2 h3 h4 ⟨wk.y0, wk.y1, by have := wk.z0; omega, by omega⟩ (h.mut i e m')⟩
/-- a fraction that is a word -/
structure PairOk (t b : Int) : Prop where
  ex : ∃ t' b' s : Int, t = t' * s ∧ b = b' * s ∧ b' % 2 = 1 ∧ s ≠ 0
  t1 : t.natAbs ≤ 1000
  b1 : b.natAbs ≤ 31
theorem PairOk.ne {t b : Int} (h : PairOk t b) : b ≠ 0 := by
  obtain ⟨t', b', s, e1, e2, e3, e4⟩ := h.ex
  rw [e2]
  exact Int.mul_ne_zero (by omega) e4
theorem PairOk.ok {t b : Int} (h : PairOk t b) : wOk t b := by
  have hb := h.ne
  refine ⟨hb, fun hz => ?_⟩
  obtain ⟨t', b', s, e1, e2, e3, e4⟩ := h.ex
  have hs : wSh t b ≠ 0 := wSh_ne hb
  -- s divides what is shared
  have d1 : s ∣ wSh t b := by
    have g : (s : Int) ∣ (Int.gcd t b : Int) := Int.dvd_coe_gcd ⟨t', by rw [e1, Int.mul_comm]⟩ ⟨b', by rw [e2, Int.mul_comm]⟩
    unfold wSh
    split
    · exact Int.dvd_neg.mpr g
    · exact g
  have d2 : wSh t b ∣ b := by
    have g : (Int.gcd t b : Int) ∣ b := Int.gcd_dvd_right t b
    unfold wSh
    split
    · exact Int.neg_dvd.mpr g
    · exact g
  have e5 : wB t b * wSh t b = b := Int.fdiv_mul_cancel d2
  obtain ⟨q, hq⟩ := d1
  have e6 : wB t b * q = b' := by
    have : (wB t b * q) * s = b' * s := by rw [Int.mul_assoc, Int.mul_comm q s, ← hq, e5, e2]
    exact Int.eq_of_mul_eq_mul_right e4 this
  have : b' % 2 = 0 := by
    rw [← e6, Int.mul_emod, hz, Int.zero_mul]
    rfl
  omega
set_option hygiene false in
local macro_rules | `(tactic| walk_at "r1") => `(tactic| ((with_reducible refine' Bs.c_take ?p1 ?p2 ?p3 ?p4 ?p5 ?p6 ?_); (case p1 => assumption); (case p2 => walk_at "oi"); (case p3 => assumption); (case p4 => omega); (case p5 => omega); (case p6 => omega); intro vw xw zw H' v0 v1 z0 z1 wk ow; walk_at "ow"))

/-! top and bottom -/
abbrev s_Word_top : Stmt := inClass (top 17) 1
theorem sc_Word_top : FnScope ["self"] ["self"] (defScope s_Word_top) := ⟨rfl, rfl, rfl, by decide +kernel, rfl, by decide +kernel, by decide +kernel⟩
abbrev s_Word_bottom : Stmt := inClass (top 17) 2
theorem sc_Word_bottom : FnScope ["self"] ["self"] (defScope s_Word_bottom) := ⟨rfl, rfl, rfl, by decide +kernel, rfl, by decide +kernel, by decide +kernel⟩
section
variable {P : Program} {w : World} {K : PySem.W.Frag} {mg : Str → Option Value} {base : Heap}
theorem ok_Word_top {C : Addr} {f : Addr} {fd : FuncData} (F : FnP K "top" "Word.top" s_Word_top f fd) (cl : Cls K C) (n : NoAttr K C "kept_top") : FnOk P w K mg base CX0 1 f fd ["self"] (getSp C "kept_top") := by
  refine F.ok sc_Word_top (fun vs H Q E h => ?_) (fun cdv A outer s H vs Q E hr h => ?_)
  · obtain ⟨a, dx, fs, v, rfl, _⟩ := h
    rfl
  · obtain ⟨a, dx, fs, v, rfl, e, l, q⟩ := h
    refine ⟨_, PSs.nox (pss_one (ps_ret (pe_fld (pv 0) rfl))), ?_⟩
    exact ⟨.ref a, rfl, a, C, dx, fs, v, rfl, e, cl, n, l, q⟩
theorem ok_Word_bottom {C : Addr} {f : Addr} {fd : FuncData} (F : FnP K "bottom" "Word.bottom" s_Word_bottom f fd) (cl : Cls K C) (n : NoAttr K C "kept_bottom") : FnOk P w K mg base CX0 1 f fd ["self"] (getSp C "kept_bottom") := by
  refine F.ok sc_Word_bottom (fun vs H Q E h => ?_) (fun cdv A outer s H vs Q E hr h => ?_)
  · obtain ⟨a, dx, fs, v, rfl, _⟩ := h
    rfl
  · obtain ⟨a, dx, fs, v, rfl, e, l, q⟩ := h
    refine ⟨_, PSs.nox (pss_one (ps_ret (pe_fld (pv 0) rfl))), ?_⟩
    exact ⟨.ref a, rfl, a, C, dx, fs, v, rfl, e, cl, n, l, q⟩
end

/-! halves of a fraction: lead and span, plain -/
/-- the next half -/
def hv (b x : Int) : Int := (x - x % 2 * b) / 2
def hvs (b : Int) : Nat → Int → Int
  | 0, x => x
  | k + 1, x => hvs b k (hv b x)
theorem hvs_succ (b : Int) : ∀ (k : Nat) (x : Int), hvs b (k + 1) x = hv b (hvs b k x)
  | 0, _ => rfl
  | k + 1, x => hvs_succ b k (hv b x)
theorem hvs_add (b : Int) : ∀ (j k : Nat) (x : Int), hvs b (j + k) x = hvs b j (hvs b k x)
  | j, 0, x => rfl
  | j, k + 1, x => hvs_add b j k (hv b x)
/-- within the cycle -/
def In (b x : Int) : Prop := -b ≤ x ∧ x ≤ 0
section
variable {b x y : Int}
theorem hv2 (ob : b % 2 = 1) : 2 * hv b x = x - x % 2 * b := by
  unfold hv
  rcases Int.emod_two_eq x with h | h <;> rw [h] <;> omega
theorem in_hv (ob : b % 2 = 1) (h : In b x) : In b (hv b x) := by
  have e := hv2 (x := x) ob
  obtain ⟨h1, h2⟩ := h
  rcases Int.emod_two_eq x with p | p <;> rw [p] at e <;> constructor <;> omega
theorem hv_inj (ob : b % 2 = 1) (pb : 0 < b) (hx : In b x) (hy : In b y) (e : hv b x = hv b y) : x = y := by
  have e1 := hv2 (x := x) ob
  have e2 := hv2 (x := y) ob
  obtain ⟨h1, h2⟩ := hx
  obtain ⟨h3, h4⟩ := hy
  rcases Int.emod_two_eq x with p | p <;> rcases Int.emod_two_eq y with q | q <;> rw [p] at e1 <;> rw [q] at e2 <;> omega
theorem in_hvs (ob : b % 2 = 1) : ∀ (k : Nat) {x : Int}, In b x → In b (hvs b k x)
  | 0, _, h => h
  | k + 1, _, h => in_hvs ob k (in_hv ob h)
theorem hvs_inj (ob : b % 2 = 1) (pb : 0 < b) : ∀ (k : Nat) {x y : Int}, In b x → In b y → hvs b k x = hvs b k y → x = y
  | 0, _, _, _, _, e => e
  | k + 1, _, _, hx, hy, e => hv_inj ob pb hx hy (hvs_inj ob pb k (in_hv ob hx) (in_hv ob hy) e)
/-- how far from the cycle -/
def far (b x : Int) : Nat := if 0 < x then x.natAbs else if x < -b then x.natAbs else 0
theorem far_hv (ob : b % 2 = 1) (pb : 0 < b) (h : ¬ In b x) : far b (hv b x) < far b x := by
  have e := hv2 (x := x) ob
  have h' : 0 < x ∨ x < -b := by unfold In at h; omega
  unfold far
  rcases Int.emod_two_eq x with p | p <;> rw [p] at e <;> rcases h' with q | q
  · rw [if_pos q]; split
    · omega
    · split <;> omega
  · rw [if_neg (show ¬ 0 < x by omega), if_pos q]; split
    · omega
    · split <;> omega
  · rw [if_pos q]; split
    · omega
    · split <;> omega
  · rw [if_neg (show ¬ 0 < x by omega), if_pos q]; split
    · omega
    · split <;> omega
end
theorem least_of {p : Nat → Prop} {n : Nat} (h : p n) : ∃ m, p m ∧ ∀ k, k < m → ¬ p k := by
  induction n using Nat.strongRecOn with
  | ind n ih =>
    by_cases z : ∃ k, k < n ∧ p k
    · obtain ⟨k, hk, pk⟩ := z
      exact ih k hk pk
    · exact ⟨n, h, fun k hk pk => z ⟨k, hk, pk⟩⟩
theorem php : ∀ (n : Nat) (f : Nat → Nat), (∀ i, i ≤ n → f i < n) → ∃ i j, i < j ∧ j ≤ n ∧ f i = f j
  | 0, f, h => absurd (h 0 (Nat.le_refl _)) (Nat.not_lt_zero _)
  | n + 1, f, h => by
    by_cases z : ∃ i, i ≤ n ∧ f i = f (n + 1)
    · obtain ⟨i, hi, e⟩ := z
      exact ⟨i, n + 1, by omega, Nat.le_refl _, e⟩
    · have ne : ∀ i, i ≤ n → f i ≠ f (n + 1) := fun i hi e => z ⟨i, hi, e⟩
      have bound : ∀ i, i ≤ n → (if f i = n then f (n + 1) else f i) < n := by
        intro i hi
        have h1 := h i (by omega)
        have h2 := h (n + 1) (Nat.le_refl _)
        have h3 := ne i hi
        split <;> omega
      obtain ⟨i, j, hij, hj, e⟩ := php n (fun i => if f i = n then f (n + 1) else f i) bound
      have h3 := ne i (by omega)
      have h4 := ne j hj
      refine ⟨i, j, hij, by omega, ?_⟩
      by_cases a : f i = n <;> by_cases c : f j = n <;> simp only [a, c, if_true, if_false] at e <;> omega
/-- the least place of the cycle -/
structure IsLead (b x : Int) (n : Nat) : Prop where
  is : In b (hvs b n x)
  no : ∀ k, k < n → ¬ In b (hvs b k x)
/-- the order of 2 -/
structure IsSpan (b : Int) (p : Nat) : Prop where
  pos : 1 ≤ p
  dv : b ∣ 2 ^ p - 1
  no : ∀ q, 1 ≤ q → q < p → ¬ b ∣ 2 ^ q - 1
section
variable {b x y : Int}
theorem lead_ex (ob : b % 2 = 1) (pb : 0 < b) : ∀ x, ∃ n, In b (hvs b n x) := by
  intro x
  generalize e : far b x = m
  induction m using Nat.strongRecOn generalizing x with
  | ind m ih =>
    by_cases h : In b x
    · exact ⟨0, h⟩
    · have l := far_hv ob pb h
      obtain ⟨n, hn⟩ := ih _ (by rw [← e]; exact l) (hv b x) rfl
      exact ⟨n + 1, hn⟩
theorem isLead_ex (ob : b % 2 = 1) (pb : 0 < b) (x : Int) : ∃ n, IsLead b x n := by
  obtain ⟨n, hn⟩ := lead_ex ob pb x
  obtain ⟨m, h1, h2⟩ := least_of (p := fun n => In b (hvs b n x)) hn
  exact ⟨m, h1, h2⟩
theorem odd_dvd2 (ob : b % 2 = 1) (h : b ∣ 2 * x) : b ∣ x := by
  obtain ⟨k, e⟩ := h
  have : (b * k) % 2 = 0 := by rw [← e]; omega
  rw [Int.mul_emod, ob, Int.one_mul, Int.emod_emod] at this
  refine ⟨k / 2, ?_⟩
  have k2 : k = 2 * (k / 2) := by omega
  rw [k2, ← Int.mul_assoc, Int.mul_comm b 2, Int.mul_assoc] at e
  omega
theorem odd_dvdp (ob : b % 2 = 1) : ∀ (i : Nat) {x : Int}, b ∣ 2 ^ i * x → b ∣ x
  | 0, x, h => by simpa using h
  | i + 1, x, h => by
    rw [Int.pow_succ, Int.mul_assoc, Int.mul_left_comm] at h
    exact odd_dvdp ob i (odd_dvd2 ob h)
theorem isSpan_ex (ob : b % 2 = 1) (pb : 0 < b) : ∃ p, IsSpan b p := by
  have bd : ∀ i, i ≤ b.toNat → ((2 : Int) ^ i % b).toNat < b.toNat := fun i _ => by
    have h1 := Int.emod_nonneg ((2 : Int) ^ i) (show b ≠ 0 by omega)
    have h2 := Int.emod_lt_of_pos ((2 : Int) ^ i) pb
    omega
  obtain ⟨i, j, hij, _, e⟩ := php b.toNat _ bd
  have h1 := Int.emod_nonneg ((2 : Int) ^ i) (show b ≠ 0 by omega)
  have h2 := Int.emod_nonneg ((2 : Int) ^ j) (show b ≠ 0 by omega)
  have e2 : (2 : Int) ^ j % b = 2 ^ i % b := by omega
  have d : b ∣ 2 ^ j - 2 ^ i := Int.dvd_of_emod_eq_zero (Int.emod_eq_emod_iff_emod_sub_eq_zero.mp e2)
  have s : (2 : Int) ^ j - 2 ^ i = 2 ^ i * (2 ^ (j - i) - 1) := by
    rw [Int.mul_sub, ← Int.pow_add, Int.mul_one]
    congr 2
    omega
  rw [s] at d
  have d2 := odd_dvdp ob i d
  obtain ⟨m, hm, no⟩ := least_of (p := fun p => 1 ≤ p ∧ b ∣ 2 ^ p - 1) (n := j - i) ⟨by omega, d2⟩
  exact ⟨m, hm.1, hm.2, fun q h1 h2 h3 => no q h2 ⟨h1, h3⟩⟩
/-- 2 ^ k times the k-th half is the fraction's top, but for multiples of the bottom -/
theorem hvs_dvd (ob : b % 2 = 1) : ∀ (k : Nat) (x : Int), b ∣ 2 ^ k * hvs b k x - x
  | 0, x => by simp [hvs]
  | k + 1, x => by
    obtain ⟨c, e⟩ := hvs_dvd ob k (hv b x)
    have e2 := hv2 (x := x) ob
    show b ∣ 2 ^ (k + 1) * hvs b k (hv b x) - x
    refine ⟨2 * c - x % 2, ?_⟩
    rw [Int.pow_succ]
    grind
end
section
variable {b x : Int} {L p : Nat}
theorem dv_x (ob : b % 2 = 1) (g : Int.gcd x b = 1) {m : Int} (h : b ∣ m * hvs b L x) : b ∣ m := by
  obtain ⟨c, e⟩ := hvs_dvd ob L x
  obtain ⟨d, e2⟩ := h
  have : b ∣ x * m := ⟨2 ^ L * d - c * m, by grind⟩
  exact co_dvd (by rw [Int.gcd_comm]; exact g) this
theorem not_dv (ob : b % 2 = 1) (g : Int.gcd x b = 1) (h : b ∣ hvs b L x) : b ∣ 1 := dv_x (L := L) ob g (by rw [Int.one_mul]; exact h)
theorem per (ob : b % 2 = 1) (pb : 0 < b) (g : Int.gcd x b = 1) (hL : IsLead b x L) (hp : IsSpan b p) : hvs b (L + p) x = hvs b L x := by
  rw [Nat.add_comm, hvs_add]
  generalize hy : hvs b L x = y
  have iy : In b y := by rw [← hy]; exact hL.is
  have ih := in_hvs ob p iy
  obtain ⟨c, e⟩ := hvs_dvd ob p y
  obtain ⟨d, e2⟩ := hp.dv
  have dv : b ∣ hvs b p y - y := ⟨c - d * hvs b p y, by grind⟩
  obtain ⟨k, ek⟩ := dv
  obtain ⟨a1, a2⟩ := iy
  obtain ⟨a3, a4⟩ := ih
  have kk : k = 0 ∨ k = 1 ∨ k = -1 := by
    have h1 : b * k ≤ b * 1 := by omega
    have h2 : b * (-1) ≤ b * k := by omega
    have := Int.le_of_mul_le_mul_left h1 pb
    have := Int.le_of_mul_le_mul_left h2 pb
    omega
  rcases kk with rfl | rfl | rfl
  · omega
  · have y0 : y = -b := by omega
    have : b ∣ 1 := not_dv (L := L) ob g (by rw [hy, y0]; exact ⟨-1, by omega⟩)
    have b1 : b = 1 := Int.eq_one_of_dvd_one (by omega) this
    subst b1
    have h0 : hvs 1 p y = 0 := by omega
    have fx : ∀ (n : Nat), hvs 1 n (-1) = -1 := fun n => by
      induction n with
      | zero => rfl
      | succ n ih => exact ih
    rw [y0] at h0
    have := fx p
    omega
  · have y0 : y = 0 := by omega
    have : b ∣ 1 := not_dv (L := L) ob g (by rw [hy, y0]; exact ⟨0, by omega⟩)
    have b1 : b = 1 := Int.eq_one_of_dvd_one (by omega) this
    subst b1
    have h0 : hvs 1 p y = -1 := by omega
    have fx : ∀ (n : Nat), hvs 1 n 0 = 0 := fun n => by
      induction n with
      | zero => rfl
      | succ n ih => exact ih
    rw [y0] at h0
    have := fx p
    omega
theorem min_per (ob : b % 2 = 1) (g : Int.gcd x b = 1) (hp : IsSpan b p) {q : Nat} (h1 : 1 ≤ q) (h2 : q < p) : hvs b q (hvs b L x) ≠ hvs b L x := by
  intro e
  obtain ⟨c, e1⟩ := hvs_dvd ob q (hvs b L x)
  rw [e] at e1
  exact hp.no q h1 h2 (dv_x (L := L) ob g ⟨c, by grind⟩)
theorem far_lt (ob : b % 2 = 1) (pb : 0 < b) (x : Int) : ∀ (j i : Nat), i < j → (∀ k, k < j → ¬ In b (hvs b k x)) → far b (hvs b j x) < far b (hvs b i x)
  | 0, i, h, _ => by omega
  | j + 1, i, h, no => by
    have l := far_hv ob pb (no j (by omega))
    rw [hvs_succ]
    by_cases z : i = j
    · rw [z]; exact l
    · exact Nat.lt_trans l (far_lt ob pb x j i (by omega) fun k hk => no k (by omega))
theorem far_le (ob : b % 2 = 1) (pb : 0 < b) (hL : IsLead b x L) {i j : Nat} (h : i < j) (hj : j < L) : hvs b i x ≠ hvs b j x := by
  intro e
  have := far_lt ob pb x j i h fun k hk => hL.no k (by omega)
  rw [e] at this
  omega
theorem distinct (ob : b % 2 = 1) (pb : 0 < b) (g : Int.gcd x b = 1) (hL : IsLead b x L) (hp : IsSpan b p) {i j : Nat} (h : i < j) (hj : j < L + p) : hvs b i x ≠ hvs b j x := by
  intro e
  have inL : ∀ k, L ≤ k → In b (hvs b k x) := fun k hk => by
    rw [show k = (k - L) + L by omega, hvs_add]
    exact in_hvs ob _ hL.is
  by_cases h1 : j < L
  · exact far_le ob pb hL h h1 e
  · by_cases h2 : i < L
    · exact hL.no i h2 (by rw [e]; exact inL j (by omega))
    · rw [show i = (i - L) + L by omega, show j = (i - L) + ((j - i) + L) by omega, hvs_add, hvs_add b (i - L), hvs_add b (j - i)] at e
      have := hvs_inj ob pb (i - L) hL.is (in_hvs ob (j - i) hL.is) e
      exact min_per (L := L) ob g hp (q := j - i) (by omega) (by omega) this.symm
end


/-! leads and spans as the program finds them -/
abbrev s_lead_of : Stmt := top 12
theorem sc_lead_of : FnScope ["top", "bottom", "found"] ["top", "bottom"] (defScope s_lead_of) := ⟨rfl, rfl, rfl, by decide +kernel, rfl, by decide +kernel, by decide +kernel⟩
abbrev s_span_of : Stmt := top 13
theorem sc_span_of : FnScope ["bottom", "found", "power"] ["bottom"] (defScope s_span_of) := ⟨rfl, rfl, rfl, by decide +kernel, rfl, by decide +kernel, by decide +kernel⟩
theorem band1 (x : Int) : Builtin.bitAnd x 1 = x % 2 := by
  have := PySem.W.kbt_mask x 1
  simpa using this
theorem bandK (x : Int) (k : Nat) : Builtin.bitAnd x (2 ^ k - 1) = x % 2 ^ k := PySem.W.kbt_mask x k
theorem mok_and1 {x j : Int} : IntMulOk (Builtin.bitAnd x 1) j := by
  rw [band1]
  exact mok_l (by omega) (by omega)
theorem hv_prog {b x : Int} : (x - Builtin.bitAnd x 1 * b) / 2 ^ (1 : Int).toNat = hv b x := by
  rw [band1]
  rfl
def sp_lead : Sp := fun vs H Q _ => ∃ t b : Int, vs = [.int t, .int b] ∧ 0 < b ∧ b % 2 = 1 ∧ ∀ n : Nat, IsLead b t n → Q (.int n) H
def sp_span : Sp := fun vs H Q _ => ∃ b : Int, vs = [.int b] ∧ 0 < b ∧ b % 2 = 1 ∧ ∀ n : Nat, IsSpan b n → Q (.int n) H
set_option hygiene false in
local macro_rules | `(tactic| walk_at "sd") => `(tactic| first
  | exact Bs.mok_and1
  | (show _ ≤ _; omega))
section
variable {P : Program} {w : World} {K : PySem.W.Frag} {mg : Str → Option Value} {base : Heap}
theorem ok_lead_of {f : Addr} {fd : FuncData} (F : FnP K "lead_of" "lead_of" s_lead_of f fd) (B : Bi mg) : FnOk P w K mg base CX0 1 f fd ["top", "bottom"] sp_lead := by
  refine F.ok sc_lead_of (fun vs H Q E h => ?_) (fun cdv A outer s H vs Q E hr h => ?_)
  · obtain ⟨t, b, rfl, _⟩ := h
    rfl
  · obtain ⟨t, b, rfl, pb, ob, q⟩ := h
    have nd := sc_lead_of.nd
    refine ⟨_, PSs.nox (pss_cons (ps_set (i := 2) nd rfl (Or.inl rfl) pe_int)
      (pss_cons (ps_while PassesOwn.never (PW.pt (pw_or (pt_cmpR op_gt (pv 0) pe_int (nomark _)) (pw_or1 (pt_cmpR op_lt (pv 0) (pe_un un_neg (pv 1)) (nomark _))))) (pss_cons (ps_set (i := 0) nd rfl (Or.inl rfl) (pe_op op_shr (pe_op op_sub (pv 0) (pe_op op_mulO (pe_op op_and (pv 0) pe_int) (pv 1))) pe_int))
      (pss_one (ps_set (i := 2) nd rfl (Or.inl rfl) (pe_op op_add (pv 2) pe_int)))))
      (pss_one (ps_ret (pv 2))))), ?_⟩
    walk_at "s0"
    walk_at "go"
    refine r_while (fun m σ H' => ∃ n : Nat, σ = [some (.int (hvs b n t)), some (.int b), some (.int n)] ∧ H' = H ∧ m = far b (hvs b n t) ∧ ∀ k, k < n → ¬ In b (hvs b k t)) _ ⟨0, rfl, rfl, rfl, fun k h => by omega⟩ ?_
    rintro m σ H' ⟨n, rfl, rfl, rfl, no⟩
    have step : ¬ In b (hvs b n t) → ∃ m', m' < far b (hvs b n t) ∧ ∃ k : Nat, [some (V.int ((hvs b n t - Builtin.bitAnd (hvs b n t) 1 * b) / 2 ^ (1 : Int).toNat)), some (V.int b), some (V.int (n + 1))] = [some (V.int (hvs b k t)), some (V.int b), some (V.int k)] ∧ H' = H' ∧ m' = far b (hvs b k t) ∧ ∀ j, j < k → ¬ In b (hvs b j t) := by
      intro h
      refine ⟨_, far_hv ob pb h, n + 1, ?_, rfl, by rw [hvs_succ], fun j hj => ?_⟩
      · rw [hv_prog, hvs_succ]
        rfl
      · by_cases z : j = n
        · rw [z]; exact h
        · exact no j (by omega)
    walk_at "go"
    · exact step (fun z => by have := z.2; omega)
    · exact step (fun z => by have := z.1; omega)
    · exact q n ⟨⟨by omega, by omega⟩, no⟩
theorem ok_span_of {f : Addr} {fd : FuncData} (F : FnP K "span_of" "span_of" s_span_of f fd) (B : Bi mg) : FnOk P w K mg base CX0 1 f fd ["bottom"] sp_span := by
  refine F.ok sc_span_of (fun vs H Q E h => ?_) (fun cdv A outer s H vs Q E hr h => ?_)
  · obtain ⟨b, rfl, _⟩ := h
    rfl
  · obtain ⟨b, rfl, pb, ob, q⟩ := h
    have nd := sc_span_of.nd
    refine ⟨_, PSs.nox (pss_cons (ps_par (i := 1) (j := 2) rfl nd rfl rfl (by decide) rfl rfl (pa_cons pe_int (pa_cons (pe_op op_mod pe_int (pv 0)) pa_nil)) rfl)
      (pss_cons (ps_while PassesOwn.never (pt_cmpR op_ne (pv 2) (pe_op op_mod pe_int (pv 0)) (nomark _)) (pss_one (ps_par (i := 1) (j := 2) rfl nd rfl rfl (by decide) rfl rfl (pa_cons (pe_op op_add (pv 1) pe_int) (pa_cons (pe_op op_mod (pe_op op_mulO pe_int (pv 2)) (pv 0)) pa_nil)) rfl)))
      (pss_one (ps_ret (pv 1))))), ?_⟩
    walk_at "s0"
    obtain ⟨p, hp⟩ := isSpan_ex ob pb
    walk_at "go"
    refine r_while (fun m σ H' => ∃ n : Nat, σ = [some (.int b), some (.int n), some (.int (2 ^ n % b))] ∧ H' = H ∧ m = p - n ∧ 1 ≤ n ∧ n ≤ p) _ ⟨1, by rw [Int.pow_one]; rfl, rfl, rfl, Nat.le_refl _, hp.pos⟩ ?_
    rintro m σ H' ⟨n, rfl, rfl, rfl, n1, np⟩
    walk_at "go"
    · have ne : n ≠ p := fun z => hc (by rw [z]; exact Int.emod_eq_emod_iff_emod_sub_eq_zero.mpr (Int.emod_eq_zero_of_dvd hp.dv))
      refine ⟨_, by omega, n + 1, ?_, rfl, rfl, by omega, by omega⟩
      have e : (2 * (2 ^ n % b)) % b = 2 ^ (n + 1) % b := by rw [Int.pow_succ, Int.mul_comm (2 ^ n) 2, Int.mul_emod, Int.emod_emod, ← Int.mul_emod]
      rw [e]
      rfl
    · have d : b ∣ 2 ^ n - 1 := Int.dvd_of_emod_eq_zero (Int.emod_eq_emod_iff_emod_sub_eq_zero.mp hc)
      have e : n = p := by
        by_cases z : n < p
        · exact absurd d (hp.no n n1 z)
        · omega
      exact q n (e ▸ hp)
end

/-! the low bits as the program finds them -/
abbrev s_inverse_low : Stmt := top 10
theorem sc_inverse_low : FnScope ["bottom", "width", "found", "known"] ["bottom", "width"] (defScope s_inverse_low) := ⟨rfl, rfl, rfl, by decide +kernel, rfl, by decide +kernel, by decide +kernel⟩
abbrev s_low_of : Stmt := top 11
theorem sc_low_of : FnScope ["top", "bottom", "width"] ["top", "bottom", "width"] (defScope s_low_of) := ⟨rfl, rfl, rfl, by decide +kernel, rfl, by decide +kernel, by decide +kernel⟩
theorem two_pow_pos (k : Nat) : (0 : Int) < 2 ^ k := Int.pow_pos (by decide)
theorem abs_emod {x : Int} {k : Nat} : (x % 2 ^ k).natAbs < 2 ^ k := by
  have h1 := Int.emod_nonneg x (show (2 : Int) ^ k ≠ 0 from Int.ne_of_gt (two_pow_pos k))
  have h2 := Int.emod_lt_of_pos x (two_pow_pos k)
  have h3 : ((2 ^ k : Nat) : Int) = 2 ^ k := by simp
  omega
/-- a step: twice as many bits of the inverse are right -/
theorem inv_step {b f : Int} {k : Nat} (h : (2 : Int) ^ k ∣ b * f - 1) : (2 : Int) ^ (2 * k) ∣ b * ((f * (2 - b * f)) % 2 ^ (2 * k)) - 1 := by
  obtain ⟨c, e⟩ := h
  have d : (2 : Int) ^ (2 * k) ∣ b * (f * (2 - b * f)) - 1 := ⟨-(c * c), by
    have e2 : (2 : Int) ^ (2 * k) = 2 ^ k * 2 ^ k := by rw [← Int.pow_add]; congr 1; omega
    rw [e2]
    grind⟩
  obtain ⟨g, e3⟩ := d
  have m := Int.emod_add_mul_ediv (f * (2 - b * f)) (2 ^ (2 * k))
  exact ⟨g - b * (f * (2 - b * f) / 2 ^ (2 * k)), by grind⟩
theorem dv_low {a : Int} {j k : Nat} (h : j ≤ k) (d : (2 : Int) ^ k ∣ a) : (2 : Int) ^ j ∣ a := by
  obtain ⟨c, e⟩ := d
  refine ⟨2 ^ (k - j) * c, ?_⟩
  rw [e, ← Int.mul_assoc, ← Int.pow_add]
  congr 2
  omega
theorem dv_emod {b f : Int} {k : Nat} (h : (2 : Int) ^ k ∣ b * f - 1) : (2 : Int) ^ k ∣ b * (f % 2 ^ k) - 1 := by
  obtain ⟨c, e⟩ := h
  have m := Int.emod_add_mul_ediv f (2 ^ k)
  exact ⟨c - b * (f / 2 ^ k), by grind⟩
/-- the inverse below 2 ^ n -/
structure IsInv (b r : Int) (n : Nat) : Prop where
  r0 : 0 ≤ r
  r1 : r < 2 ^ n
  dv : (2 : Int) ^ n ∣ b * r - 1
def sp_inv : Sp := fun vs H Q _ => ∃ (b : Int) (n : Nat), vs = [.int b, .int n] ∧ b % 2 = 1 ∧ b.natAbs < 2 ^ 100000 ∧ n ≤ 1000000 ∧ ∀ r H', Same H H' → IsInv b r n → Q (.int r) H'
/-- the low bits of a fraction -/
structure IsLow (t b r : Int) (n : Nat) : Prop where
  r0 : 0 ≤ r
  r1 : r < 2 ^ n
  dv : (2 : Int) ^ n ∣ b * r - t
def sp_lowof : Sp := fun vs H Q _ => ∃ (t b : Int) (n : Nat), vs = [.int t, .int b, .int n] ∧ b % 2 = 1 ∧ b.natAbs < 2 ^ 100000 ∧ t.natAbs < 2 ^ 1000000 ∧ n ≤ 1000000 ∧ ∀ r H', Same H H' → IsLow t b r n → Q (.int r) H'
theorem c_inv {F : Hp} {L : List (Addr × HO)} {b : Int} {n : Nat} {H : Hp} {Q : VK} {E : XK} (h : Own F H L) (ob : b % 2 = 1) (hb : b.natAbs < 2 ^ 100000) (hn : n ≤ 1000000) (k : ∀ r H', IsInv b r n → Own F H' L → Q (.int r) H') : sp_inv ([.int b, .int n] ++ []) H Q E := ⟨b, n, rfl, ob, hb, hn, fun r H' s i => k r H' i (h.same s)⟩
theorem cshl1 {j : Int} (h0 : 0 ≤ j) (hj : j ≤ 4000000) : CShl 1 j := cshl 1 h0 (by decide) (by omega)
theorem tn_cast (n : Nat) : ((n : Int)).toNat = n := by omega
set_option hygiene false in
local macro_rules | `(tactic| walk_at "sd") => `(tactic| exact Bs.cshl1 (by omega) (by omega))
section
variable {P : Program} {w : World} {K : PySem.W.Frag} {mg : Str → Option Value} {base : Heap}
theorem ok_inverse_low {f : Addr} {fd : FuncData} (F : FnP K "inverse_low" "inverse_low" s_inverse_low f fd) (B : Bi mg) : FnOk P w K mg base CX0 1 f fd ["bottom", "width"] sp_inv := by
  refine F.ok sc_inverse_low (fun vs H Q E h => ?_) (fun cdv A outer s H vs Q E hr h => ?_)
  · obtain ⟨b, n, rfl, _⟩ := h
    rfl
  · obtain ⟨b, n, rfl, ob, hb, hn, q⟩ := h
    have nd := sc_inverse_low.nd
    refine ⟨_, PSs.nox (pss_cons (ps_asg (pe_tup (pa_cons pe_int (pa_cons pe_int pa_nil))) (pg_tup rfl (pgs_cons (pg_name (i := 2) nd rfl (.inl rfl)) (pgs_cons (pg_name (i := 3) nd rfl (.inl rfl)) pgs_nil))))
      (pss_cons (ps_while PassesOwn.never (pt_cmpR op_lt (pv 3) (pv 1) (nomark _)) (pss_cons (ps_set (i := 3) nd rfl (Or.inl rfl) (pe_op op_mulO pe_int (pv 3)))
      (pss_one (ps_set (i := 2) nd rfl (Or.inl rfl) (pe_op op_and (pe_op op_mulO (pv 2) (pe_op op_sub pe_int (pe_op op_mulO (pv 0) (pv 2)))) (pe_op op_sub (pe_op op_shlW pe_int (pv 3)) pe_int))))))
      (pss_one (ps_ret (pe_op op_and (pv 2) (pe_op op_sub (pe_op op_shlW pe_int (pv 1)) pe_int)))))), ?_⟩
    walk_at "s0"
    have ow := Own.start H
    walk_at "go"
    refine r_while (fun m σ H' => ∃ (k : Nat) (g : Int), σ = [some (.int b), some (.int n), some (.int g), some (.int k)] ∧ Same H H' ∧ m = 2000001 - k ∧ 1 ≤ k ∧ k ≤ 2000000 ∧ g.natAbs < 2 ^ k ∧ (2 : Int) ^ k ∣ b * g - 1) _ ⟨1, 1, rfl, ow.toSame_of, rfl, by decide, by decide, by decide, ⟨b / 2, by omega⟩⟩ ?_
    rintro m σ H' ⟨k, g, rfl, sm, rfl, k1, k2, hg, dv⟩
    have c1 : IntMulOk b g := mok_w 100000 2000000 hb (Nat.lt_of_lt_of_le hg (Nat.pow_le_pow_right (by decide) k2)) (by decide)
    have hbg : (b * g).natAbs < 2 ^ (100000 + k) := mulW 100000 k hb hg
    have h2 : (2 - b * g).natAbs < 2 ^ (2100002) := by
      have e : 2 ^ (100000 + k) ≤ 2 ^ 2100000 := Nat.pow_le_pow_right (by decide) (by omega)
      have : 4 * 2 ^ 2100000 = 2 ^ 2100002 := by rw [show 2100002 = 2100000 + 2 by rfl, Nat.pow_add]; omega
      have p := Nat.pow_pos (n := 2100000) (show 0 < 2 by decide)
      generalize 2 ^ 2100000 = z at *
      generalize 2 ^ (100000 + k) = y at *
      generalize 2 ^ 2100002 = x at *
      omega
    have c2 : IntMulOk g (2 - b * g) := mok_w 2000000 2100002 (Nat.lt_of_lt_of_le hg (Nat.pow_le_pow_right (by decide) k2)) h2 (by decide)
    walk_at "go"
    · refine ⟨2000001 - 2 * k, by omega, 2 * k, (g * (2 - b * g)) % 2 ^ (2 * k), ?_, sm, rfl, by omega, by omega, abs_emod, inv_step dv⟩
      rw [Int.one_mul, bandK, show (2 * (k : Int)).toNat = 2 * k by omega]
      rfl
    · rw [Int.one_mul, bandK, tn_cast]
      have le : n ≤ k := by omega
      exact q _ _ sm ⟨Int.emod_nonneg _ (Int.ne_of_gt (two_pow_pos n)), Int.emod_lt_of_pos _ (two_pow_pos n), dv_emod (dv_low le dv)⟩
set_option hygiene false in
local macro_rules | `(tactic| walk_at "r1") => `(tactic| ((with_reducible refine' Bs.c_inv ?p1 ?p2 ?p3 ?p4 ?_); (case p1 => assumption); (case p2 => assumption); (case p3 => assumption); (case p4 => omega); intro rI H' ri ow))
theorem low_mul {t b r : Int} {n : Nat} (h : IsInv b r n) : IsLow t b ((t * r) % 2 ^ n) n := by
  obtain ⟨c, e⟩ := h.dv
  have m := Int.emod_add_mul_ediv (t * r) (2 ^ n)
  exact ⟨Int.emod_nonneg _ (Int.ne_of_gt (two_pow_pos n)), Int.emod_lt_of_pos _ (two_pow_pos n), ⟨t * c - b * (t * r / 2 ^ n), by grind⟩⟩
theorem ok_low_of {f : Addr} {fd : FuncData} (F : FnP K "low_of" "low_of" s_low_of f fd) (B : Bi mg) (c_inverse_low : Fo P w K mg base CX0 1 "inverse_low" ["bottom", "width"] sp_inv) : FnOk P w K mg base CX0 2 f fd ["top", "bottom", "width"] sp_lowof := by
  refine F.ok sc_low_of (fun vs H Q E h => ?_) (fun cdv A outer s H vs Q E hr h => ?_)
  · obtain ⟨t, b, n, rfl, _⟩ := h
    rfl
  · obtain ⟨t, b, n, rfl, ob, hb, ht, hn, q⟩ := h
    have nd := sc_low_of.nd
    refine ⟨_, PSs.nox (pss_one (ps_ret (pe_op op_and (pe_op op_mulO (pv 0) (pe_fo c_inverse_low hr (by decide) (pa_cons (pv 1) (pa_cons (pv 2) pa_nil)))) (pe_op op_sub (pe_op op_shlW pe_int (pv 2)) pe_int)))), ?_⟩
    walk_at "s0"
    have ow := Own.start H
    walk_at "go"
    have c1 : IntMulOk t rI := mok_w 1000000 1000000 ht (Nat.lt_of_lt_of_le (show rI.natAbs < 2 ^ n by
      have h3 : ((2 ^ n : Nat) : Int) = 2 ^ n := by simp
      have := ri.r0; have := ri.r1; omega) (Nat.pow_le_pow_right (by decide) hn)) (by decide)
    walk_at "go"
    rw [Int.one_mul, bandK, tn_cast]
    exact q _ _ ow.toSame_of (low_mul ri)
end

set_option hygiene false in
local macro_rules | `(tactic| walk_at "r1") => `(tactic| ((with_reducible refine' Bs.c_inv ?p1 ?p2 ?p3 ?p4 ?_); (case p1 => assumption); (case p2 => assumption); (case p3 => assumption); (case p4 => omega); intro rI H' ri ow))
/-! bits of fractions, plain -/
/-- the number of the first n bits -/
def lowS (b : Int) : Nat → Int → Int
  | 0, _ => 0
  | n + 1, t => t % 2 + 2 * lowS b n (hv b t)
theorem lowS_eq {b : Int} (ob : b % 2 = 1) : ∀ (n : Nat) (t : Int), t = b * lowS b n t + 2 ^ n * hvs b n t
  | 0, t => by simp [lowS, hvs]
  | n + 1, t => by
    have e := lowS_eq ob n (hv b t)
    have e2 := hv2 (x := t) ob
    show t = b * (t % 2 + 2 * lowS b n (hv b t)) + 2 ^ (n + 1) * hvs b n (hv b t)
    rw [Int.pow_succ]
    grind
theorem lowS_bd (b : Int) : ∀ (n : Nat) (t : Int), 0 ≤ lowS b n t ∧ lowS b n t < 2 ^ n
  | 0, t => by simp [lowS]
  | n + 1, t => by
    have h := lowS_bd b n (hv b t)
    have p := Int.emod_two_eq t
    show 0 ≤ t % 2 + 2 * lowS b n (hv b t) ∧ t % 2 + 2 * lowS b n (hv b t) < 2 ^ (n + 1)
    rw [Int.pow_succ]
    omega
theorem lowS_succ (b : Int) : ∀ (n : Nat) (t : Int), lowS b (n + 1) t = lowS b n t + 2 ^ n * (hvs b n t % 2)
  | 0, t => by simp [lowS, hvs]
  | n + 1, t => by
    have e := lowS_succ b n (hv b t)
    show t % 2 + 2 * lowS b (n + 1) (hv b t) = (t % 2 + 2 * lowS b n (hv b t)) + 2 ^ (n + 1) * (hvs b n (hv b t) % 2)
    rw [Int.pow_succ]
    grind
theorem dv_odd {b : Int} (ob : b % 2 = 1) : ∀ (n : Nat) {x : Int}, (2 : Int) ^ n ∣ b * x → (2 : Int) ^ n ∣ x
  | 0, x, _ => by simp
  | n + 1, x, h => by
    have h2 : (2 : Int) ∣ b * x := by
      obtain ⟨c, e⟩ := h
      exact ⟨2 ^ n * c, by rw [e, Int.pow_succ]; grind⟩
    have x2 : x % 2 = 0 := by
      have := Int.emod_eq_zero_of_dvd h2
      rw [Int.mul_emod, ob, Int.one_mul, Int.emod_emod] at this
      exact this
    obtain ⟨y, ey⟩ := Int.dvd_of_emod_eq_zero x2
    obtain ⟨c, e⟩ := h
    have : (2 : Int) ^ n ∣ b * y := ⟨c, by
      rw [ey, Int.pow_succ] at e
      have : 2 * (b * y) = 2 * (2 ^ n * c) := by grind
      omega⟩
    obtain ⟨d, ed⟩ := dv_odd ob n this
    exact ⟨d, by rw [ey, ed, Int.pow_succ]; grind⟩
theorem low_is {t b r : Int} {n : Nat} (ob : b % 2 = 1) (h : IsLow t b r n) : r = lowS b n t := by
  have e := lowS_eq ob n t
  have bd := lowS_bd b n t
  obtain ⟨c, ec⟩ := h.dv
  have d : (2 : Int) ^ n ∣ b * (r - lowS b n t) := ⟨c + hvs b n t, by grind⟩
  obtain ⟨k, ek⟩ := dv_odd ob n d
  have p := two_pow_pos n
  have r0 := h.r0
  have r1 := h.r1
  generalize hz : (2 : Int) ^ n = z at *
  have kk : k = 0 := by
    have h1 : z * k < z * 1 := by omega
    have h2 : z * (-1) < z * k := by omega
    have := Int.lt_of_mul_lt_mul_left h1 (by omega)
    have := Int.lt_of_mul_lt_mul_left h2 (by omega)
    omega
  subst kk
  omega
theorem low_bit {t b r : Int} {n : Nat} (ob : b % 2 = 1) (h : IsLow t b r (n + 1)) : r / 2 ^ n = hvs b n t % 2 := by
  rw [low_is ob h, lowS_succ]
  have bd := lowS_bd b n t
  rw [Int.add_mul_ediv_left _ _ (Int.ne_of_gt (two_pow_pos n)), Int.ediv_eq_zero_of_lt bd.1 bd.2, Int.zero_add]
theorem hvs_cyc {b y : Int} {p : Nat} (h : hvs b p y = y) : ∀ m : Nat, hvs b (m * p) y = y
  | 0 => by rw [Nat.zero_mul]; rfl
  | m + 1 => by rw [Nat.succ_mul, hvs_add, h, hvs_cyc h m]
theorem hvs_place {b x : Int} {L p : Nat} (ob : b % 2 = 1) (pb : 0 < b) (g : Int.gcd x b = 1) (hL : IsLead b x L) (hp : IsSpan b p) {i : Nat} (h : L ≤ i) : hvs b i x = hvs b (L + (i - L) % p) x := by
  have e := per ob pb g hL hp
  rw [Nat.add_comm, hvs_add] at e
  have m := Nat.mod_add_div (i - L) p
  have c := hvs_cyc e ((i - L) / p)
  rw [show i = (i - L) % p + (((i - L) / p) * p + L) by rw [Nat.mul_comm] at m; omega, hvs_add, hvs_add, c]
  rw [show L + ((i - L) % p + (((i - L) / p) * p + L) - L) % p = (i - L) % p + L by
    rw [show (i - L) % p + (((i - L) / p) * p + L) - L = (i - L) % p + ((i - L) / p) * p by omega, Nat.add_mul_mod_self_right, Nat.mod_mod]
    omega, hvs_add]

/-! the signs of words -/
abbrev s_fraction_of : Stmt := top 14
theorem sc_fraction_of : FnScope ["thing"] ["thing"] (defScope s_fraction_of) := ⟨rfl, rfl, rfl, by decide +kernel, rfl, by decide +kernel, by decide +kernel⟩
abbrev s_Word___add__ : Stmt := inClass (top 17) 8
theorem sc_Word___add__ : FnScope ["self", "other", "twin"] ["self", "other"] (defScope s_Word___add__) := ⟨rfl, rfl, rfl, by decide +kernel, rfl, by decide +kernel, by decide +kernel⟩
abbrev s_Word___radd__ : Stmt := inClass (top 17) 9
theorem sc_Word___radd__ : FnScope ["self", "other", "twin"] ["self", "other"] (defScope s_Word___radd__) := ⟨rfl, rfl, rfl, by decide +kernel, rfl, by decide +kernel, by decide +kernel⟩
abbrev s_Word___sub__ : Stmt := inClass (top 17) 10
theorem sc_Word___sub__ : FnScope ["self", "other", "twin"] ["self", "other"] (defScope s_Word___sub__) := ⟨rfl, rfl, rfl, by decide +kernel, rfl, by decide +kernel, by decide +kernel⟩
abbrev s_Word___rsub__ : Stmt := inClass (top 17) 11
theorem sc_Word___rsub__ : FnScope ["self", "other", "twin"] ["self", "other"] (defScope s_Word___rsub__) := ⟨rfl, rfl, rfl, by decide +kernel, rfl, by decide +kernel, by decide +kernel⟩
abbrev s_Word___mul__ : Stmt := inClass (top 17) 12
theorem sc_Word___mul__ : FnScope ["self", "other", "twin"] ["self", "other"] (defScope s_Word___mul__) := ⟨rfl, rfl, rfl, by decide +kernel, rfl, by decide +kernel, by decide +kernel⟩
abbrev s_Word___rmul__ : Stmt := inClass (top 17) 13
theorem sc_Word___rmul__ : FnScope ["self", "other", "twin"] ["self", "other"] (defScope s_Word___rmul__) := ⟨rfl, rfl, rfl, by decide +kernel, rfl, by decide +kernel, by decide +kernel⟩
abbrev s_Word___neg__ : Stmt := inClass (top 17) 22
theorem sc_Word___neg__ : FnScope ["self"] ["self"] (defScope s_Word___neg__) := ⟨rfl, rfl, rfl, by decide +kernel, rfl, by decide +kernel, by decide +kernel⟩
abbrev s_Word___invert__ : Stmt := inClass (top 17) 23
theorem sc_Word___invert__ : FnScope ["self"] ["self"] (defScope s_Word___invert__) := ⟨rfl, rfl, rfl, by decide +kernel, rfl, by decide +kernel, by decide +kernel⟩
/-- a word or an int, as a fraction -/
def Th (C : Addr) (H : Hp) (y : V) (u v : Int) : Prop := (y = .int u ∧ v = 1) ∨ ∃ b dx, y = .ref b ∧ H b = some (.ins C dx (wfl u v))
theorem Th.same {C : Addr} {H H' : Hp} {y : V} {u v : Int} (h : Th C H y u v) (s : Same H H') : Th C H' y u v := by
  rcases h with h | ⟨b, dx, e, q⟩
  · exact .inl h
  · exact .inr ⟨b, dx, e, s _ _ q⟩
/-- what isinstance asks -/
structure WTy (K : PySem.W.Frag) (C : Addr) : Prop where
  cl : Cls K C
  ha : PySem.W.findIn K (.ref C) "__class__" = some (some (.builtin "object.__class__"))
  hn : PySem.W.specialIn K (.builtin "object.__class__") "__get__" = some (some (.builtin "getset_descriptor.__get__"))
  ht : PySem.W.takesIn K (.builtin "object.__class__") = some true
  hm : PySem.W.mroIn K C (.type "object") = some true
  k1 : PySem.W.kitOne K (.ref C) (.ref C) = some true
  k2 : PySem.W.kitOne K (.type "int") (.ref C) = some false
  k3 : PySem.W.kitOne K (.type "int") (.type "int") = some true
section
variable {K : PySem.W.Frag} {F H : Hp} {L : List (Addr × HO)} {C a b dx : Addr} {Q : VK} {E : XK} {fs gs : List (Str × V)} {i t v : Int} {x y : V} {sp spR : Sp}
theorem r_isiW (ty : WTy K C) (e : H a = some (.ins C dx fs)) (k : Q (.bl true) H) : rIsi K [.ref a, .ref C] H Q := ⟨_, _, _, _, true, rfl, .own C, .base (.ins e ty.cl ty.ha ty.hn ty.ht ty.hm), ty.k1, k⟩
theorem r_isiI (ty : WTy K C) (k : Q (.bl false) H) : rIsi K [.int i, .ref C] H Q := ⟨_, _, _, _, false, rfl, .own C, .base (.int i), ty.k2, k⟩
theorem r_isiN (ty : WTy K C) (k : Q (.bl true) H) : rIsi K [.int i, .ty "int"] H Q := ⟨_, _, _, _, true, rfl, .ty _, .base (.int i), ty.k3, k⟩
def cOwn (C : Addr) (sp spR : Sp) (E : XK) (x y : V) (H : Hp) (Q : VK) : Prop := rOwn C sp spR E x y H Q
theorem r_own {E : L2.St → XK} {ta tb : TE} {σ : L2.St} (k : ta σ H fun x H1 => tb σ H1 fun y H2 => cOwn C sp spR (E σ) x y H2 Q) : tOwn C sp spR E ta tb σ H Q := k
theorem own_ww (e1 : H a = some (.ins C dx fs)) {dy : Addr} (e2 : H b = some (.ins C dy gs)) (k : sp [.ref a, .ref b] H Q E) : cOwn C sp spR E (.ref a) (.ref b) H Q := .inl ⟨a, dx, fs, rfl, e1, .inr ⟨b, dy, gs, rfl, e2⟩, k⟩
theorem own_wi (e1 : H a = some (.ins C dx fs)) (k : sp [.ref a, .int i] H Q E) : cOwn C sp spR E (.ref a) (.int i) H Q := .inl ⟨a, dx, fs, rfl, e1, .inl ⟨i, rfl⟩, k⟩
theorem own_iw (e1 : H a = some (.ins C dx fs)) (k : spR [.ref a, .int i] H Q E) : cOwn C sp spR E (.int i) (.ref a) H Q := .inr ⟨i, a, dx, fs, rfl, rfl, e1, k⟩
end
def sp_frac (C : Addr) : Sp := fun vs H Q _ => ∃ (y : V) (u v : Int), vs = [y] ∧ Th C H y u v ∧ ∀ p H', H p = none → Same H H' → H' p = some (.tup [.int u, .int v]) → Q (.ref p) H'
/-- what a sign between words gives -/
def sp_bin (C : Addr) (N D : Int → Int → Int → Int → Int) : Sp := fun vs H Q _ => ∃ (a dx : Addr) (t b : Int) (y : V) (u v : Int), vs = [.ref a, y] ∧ H a = some (.ins C dx (wfl t b)) ∧ Th C H y u v ∧ (t.natAbs < 2 ^ 3900 ∧ b.natAbs < 2 ^ 3900 ∧ u.natAbs < 2 ^ 3900 ∧ v.natAbs < 2 ^ 3900) ∧ b % 2 = 1 ∧ v % 2 = 1 ∧
  ∀ p d H', H p = none → Same H H' → H' p = some (.ins C d (wfl (wT (N t b u v) (D t b u v)) (wB (N t b u v) (D t b u v)))) → Q (.ref p) H'
def sp_un (C : Addr) (N : Int → Int → Int) : Sp := fun vs H Q _ => ∃ (a dx : Addr) (t b : Int), vs = [.ref a] ∧ H a = some (.ins C dx (wfl t b)) ∧ b.natAbs < 2 ^ 3900 ∧ b % 2 = 1 ∧
  ∀ p d H', H p = none → Same H H' → H' p = some (.ins C d (wfl (wT (N t b) b) (wB (N t b) b))) → Q (.ref p) H'
section
variable {F H : Hp} {L : List (Addr × HO)} {C a dx : Addr} {t b u v : Int} {y : V} {Q : VK} {E : XK} {N D : Int → Int → Int → Int → Int} {M : Int → Int → Int}
theorem c_frac (h : Own F H L) (th : Th C H y u v) (k : ∀ p H', H p = none → Own F H' ((p, .tup [.int u, .int v]) :: L) → Q (.ref p) H') : sp_frac C ([y] ++ []) H Q E := ⟨y, u, v, rfl, th, fun p H' n s e => k p H' n (h.newS n s e)⟩
theorem c_bin (h : Own F H L) (e : H a = some (.ins C dx (wfl t b))) (th : Th C H y u v) (bd : t.natAbs < 2 ^ 3900 ∧ b.natAbs < 2 ^ 3900 ∧ u.natAbs < 2 ^ 3900 ∧ v.natAbs < 2 ^ 3900) (ob : b % 2 = 1) (ov : v % 2 = 1)
    (k : ∀ p d H', H p = none → Own F H' ((p, .ins C d (wfl (wT (N t b u v) (D t b u v)) (wB (N t b u v) (D t b u v)))) :: L) → Q (.ref p) H') : sp_bin C N D [.ref a, y] H Q E := ⟨a, dx, t, b, y, u, v, rfl, e, th, bd, ob, ov, fun p d H' n s e => k p d H' n (h.newS n s e)⟩
theorem c_un (h : Own F H L) (e : H a = some (.ins C dx (wfl t b))) (bd : b.natAbs < 2 ^ 3900) (ob : b % 2 = 1) (k : ∀ p d H', H p = none → Own F H' ((p, .ins C d (wfl (wT (M t b) b) (wB (M t b) b))) :: L) → Q (.ref p) H') : sp_un C M [.ref a] H Q E := ⟨a, dx, t, b, rfl, e, bd, ob, fun p d H' n s e => k p d H' n (h.newS n s e)⟩
def cUn (C : Addr) (sp : Sp) (E : XK) (Q : VK) (x : V) (H : Hp) : Prop := rUn C sp E x H Q
theorem r_unO {sp : Sp} {ta : TE} {σ : L2.St} (k : ta σ H (cUn C sp E Q)) : tUn (rUn C sp E) ta σ H Q := k
theorem un_w {sp : Sp} {fs : List (Str × V)} (e : H a = some (.ins C dx fs)) (k : sp [.ref a] H Q E) : cUn C sp E Q (.ref a) H := ⟨a, dx, fs, rfl, e, k⟩
end
set_option hygiene false in
local macro_rules | `(tactic| walk_at "hx") => `(tactic| first | assumption | exact Bs.Own.get (by assumption) _ (by walk_at "oi") | exact Bs.Own.gets (by assumption) (by assumption))
set_option hygiene false in
local macro_rules | `(tactic| walk_at "th") => `(tactic| first | assumption | exact Bs.Th.same (by assumption) (Bs.Own.toSame (by assumption)) | exact Or.inl ⟨rfl, rfl⟩ | exact Or.inr ⟨_, _, rfl, by walk_at "hx"⟩)
set_option hygiene false in
local macro_rules | `(tactic| walk_at "r1") => `(tactic| first
  | ((with_reducible refine' Bs.r_isiW ?p1 ?p2 ?_); (case p1 => assumption); (case p2 => walk_at "hx"))
  | ((with_reducible refine' Bs.r_isiI ?p1 ?_); (case p1 => assumption))
  | ((with_reducible refine' Bs.r_isiN ?p1 ?_); (case p1 => assumption))
  | with_reducible refine Bs.r_own ?_
  | with_reducible refine Bs.r_unO ?_
  | ((with_reducible refine' Bs.un_w ?p1 ?_); (case p1 => walk_at "hx"))
  | ((with_reducible refine' Bs.own_ww ?p1 ?p2 ?_); (case p1 => walk_at "hx"); (case p2 => walk_at "hx"))
  | ((with_reducible refine' Bs.own_wi ?p1 ?_); (case p1 => walk_at "hx"))
  | ((with_reducible refine' Bs.own_iw ?p1 ?_); (case p1 => walk_at "hx"))
  | ((with_reducible refine' Bs.c_frac ?p1 ?p2 ?_); (case p1 => assumption); (case p2 => walk_at "th"); intro pT H' np ow)
  | ((with_reducible refine' Bs.o_gfldF ?p1 ?p3 ?p4 ?p5 ?_); (case p1 => walk_at "hx"); (case p3 => assumption); (case p4 => assumption); (case p5 => walk_at "lk")))
set_option hygiene false in
local macro_rules | `(tactic| walk_at "sd") => `(tactic| exact Bs.mok_w 3900 3900 (by assumption) (by assumption) (by decide))
section
variable {P : Program} {w : World} {K : PySem.W.Frag} {mg : Str → Option Value} {base : Heap} {C I f : Addr} {fd : FuncData}
theorem ok_fraction_of (F : FnP K "fraction_of" "fraction_of" s_fraction_of f fd) (B : Bi mg) (ty : WTy K C) (g_Word : mg "Word" = some (.ref C)) (nT : NoAttr K C "kept_top") (nB : NoAttr K C "kept_bottom") : FnOk P w K mg base CX0 1 f fd ["thing"] (sp_frac C) := by
  refine F.ok sc_fraction_of (fun vs H Q E h => ?_) (fun cdv A outer s H vs Q E hr h => ?_)
  · obtain ⟨y, u, v, rfl, _⟩ := h
    rfl
  · obtain ⟨y, u, v, rfl, th, q⟩ := h
    have nd := sc_fraction_of.nd
    have cl := ty.cl
    refine ⟨_, PSs.nox (pss_cons (ps_if (pt_val (pe_callB call_isi rfl B.isinstance (by decide +kernel) (pa_cons (pv 0) (pa_cons (pe_glob (v := .ref _) rfl g_Word rfl) pa_nil)))) (pss_one (ps_ret (pe_tup (pa_cons (pe_fld (pv 0) rfl) (pa_cons (pe_fld (pv 0) rfl) pa_nil))))) pss_nil)
      (pss_cons (ps_if (pt_val (pe_callB call_isi rfl B.isinstance (by decide +kernel) (pa_cons (pv 0) (pa_cons (pe_bltn (v := .ty "int") rfl B.int (by decide +kernel) rfl) pa_nil)))) (pss_one (ps_ret (pe_tup (pa_cons (pv 0) (pa_cons pe_int pa_nil))))) pss_nil)
      (pss_one (ps_ret pe_non)))), ?_⟩
    walk_at "s0"
    have ow := Own.start H
    rcases th with ⟨rfl, rfl⟩ | ⟨a, dx, rfl, ea⟩
    · walk_at "go"
      exact q pT H' np ow.drop.toSame_of (ow.get 0 rfl)
    · walk_at "go"
      exact q pT H' np ow.drop.toSame_of (ow.get 0 rfl)
theorem ok_Word___add__ (F : FnP K "__add__" "Word.__add__" s_Word___add__ f fd) (B : Bi mg) (c_Word : WordC P w K mg base C I) (c_fraction_of : Fo P w K mg base CX0 1 "fraction_of" ["thing"] (sp_frac C)) : FnOk P w K mg base CX0 6 f fd ["self", "other"] (sp_bin C (fun t b u v => t * v + u * b) (fun t b u v => b * v)) := by
  refine F.ok sc_Word___add__ (fun vs H Q E h => ?_) (fun cdv A outer s H vs Q E hr h => ?_)
  · obtain ⟨a, dx, t, b, y, u, v, rfl, _⟩ := h
    rfl
  · obtain ⟨a, dx, t, b, y, u, v, rfl, ea, th, ⟨b1, b2, b3, b4⟩, ob, ov, q⟩ := h
    have nd := sc_Word___add__.nd
    have cl := c_Word.cl
    have nT := c_Word.nT
    have nB := c_Word.nB
    refine ⟨_, PSs.nox (pss_cons (ps_set (i := 2) nd rfl (Or.inl rfl) (pe_fo c_fraction_of hr (by decide) (pa_cons (pv 1) pa_nil)))
      (pss_cons (ps_if (pt_cmpR op_isN (pv 2) pe_non (nomark _)) (pss_one ps_dead) pss_nil)
      (pss_one (ps_ret (pe_W2 c_Word hr (by decide) (fun _ => psL0) (pa_cons (pe_op op_add (pe_op op_mulO (pe_fld (pv 0) rfl) (pe_ix ix_tup (pv 2) pe_int (fun _ _ => rfl))) (pe_op op_mulO (pe_ix ix_tup (pv 2) pe_int (fun _ _ => rfl)) (pe_fld (pv 0) rfl))) (pa_cons (pe_op op_mulO (pe_fld (pv 0) rfl) (pe_ix ix_tup (pv 2) pe_int (fun _ _ => rfl))) pa_nil))))))), ?_⟩
    walk_at "s0"
    have ow := Own.start H
    have wok : wOk (t * v + u * b) (b * v) := ok_odd (odd_mul ob ov)
    have wbd : (b * v).natAbs < 2 ^ 8000 := Nat.lt_of_lt_of_le (mulW 3900 3900 b2 b4) (Nat.pow_le_pow_right (by decide) (by decide))
    walk_at "go"
    exact q pW _ H' (ow.new0 g0) ow.toSame_of (ow.get 0 rfl)
theorem ok_Word___radd__ (F : FnP K "__radd__" "Word.__radd__" s_Word___radd__ f fd) (B : Bi mg) (c_Word : WordC P w K mg base C I) (c_fraction_of : Fo P w K mg base CX0 1 "fraction_of" ["thing"] (sp_frac C)) : FnOk P w K mg base CX0 6 f fd ["self", "other"] (sp_bin C (fun t b u v => t * v + u * b) (fun t b u v => b * v)) := by
  refine F.ok sc_Word___radd__ (fun vs H Q E h => ?_) (fun cdv A outer s H vs Q E hr h => ?_)
  · obtain ⟨a, dx, t, b, y, u, v, rfl, _⟩ := h
    rfl
  · obtain ⟨a, dx, t, b, y, u, v, rfl, ea, th, ⟨b1, b2, b3, b4⟩, ob, ov, q⟩ := h
    have nd := sc_Word___radd__.nd
    have cl := c_Word.cl
    have nT := c_Word.nT
    have nB := c_Word.nB
    refine ⟨_, PSs.nox (pss_cons (ps_set (i := 2) nd rfl (Or.inl rfl) (pe_fo c_fraction_of hr (by decide) (pa_cons (pv 1) pa_nil)))
      (pss_cons (ps_if (pt_cmpR op_isN (pv 2) pe_non (nomark _)) (pss_one ps_dead) pss_nil)
      (pss_one (ps_ret (pe_W2 c_Word hr (by decide) (fun _ => psL0) (pa_cons (pe_op op_add (pe_op op_mulO (pe_fld (pv 0) rfl) (pe_ix ix_tup (pv 2) pe_int (fun _ _ => rfl))) (pe_op op_mulO (pe_ix ix_tup (pv 2) pe_int (fun _ _ => rfl)) (pe_fld (pv 0) rfl))) (pa_cons (pe_op op_mulO (pe_fld (pv 0) rfl) (pe_ix ix_tup (pv 2) pe_int (fun _ _ => rfl))) pa_nil))))))), ?_⟩
    walk_at "s0"
    have ow := Own.start H
    have wok : wOk (t * v + u * b) (b * v) := ok_odd (odd_mul ob ov)
    have wbd : (b * v).natAbs < 2 ^ 8000 := Nat.lt_of_lt_of_le (mulW 3900 3900 b2 b4) (Nat.pow_le_pow_right (by decide) (by decide))
    walk_at "go"
    exact q pW _ H' (ow.new0 g0) ow.toSame_of (ow.get 0 rfl)
theorem ok_Word___sub__ (F : FnP K "__sub__" "Word.__sub__" s_Word___sub__ f fd) (B : Bi mg) (c_Word : WordC P w K mg base C I) (c_fraction_of : Fo P w K mg base CX0 1 "fraction_of" ["thing"] (sp_frac C)) : FnOk P w K mg base CX0 6 f fd ["self", "other"] (sp_bin C (fun t b u v => t * v - u * b) (fun t b u v => b * v)) := by
  refine F.ok sc_Word___sub__ (fun vs H Q E h => ?_) (fun cdv A outer s H vs Q E hr h => ?_)
  · obtain ⟨a, dx, t, b, y, u, v, rfl, _⟩ := h
    rfl
  · obtain ⟨a, dx, t, b, y, u, v, rfl, ea, th, ⟨b1, b2, b3, b4⟩, ob, ov, q⟩ := h
    have nd := sc_Word___sub__.nd
    have cl := c_Word.cl
    have nT := c_Word.nT
    have nB := c_Word.nB
    refine ⟨_, PSs.nox (pss_cons (ps_set (i := 2) nd rfl (Or.inl rfl) (pe_fo c_fraction_of hr (by decide) (pa_cons (pv 1) pa_nil)))
      (pss_cons (ps_if (pt_cmpR op_isN (pv 2) pe_non (nomark _)) (pss_one ps_dead) pss_nil)
      (pss_one (ps_ret (pe_W2 c_Word hr (by decide) (fun _ => psL0) (pa_cons (pe_op op_sub (pe_op op_mulO (pe_fld (pv 0) rfl) (pe_ix ix_tup (pv 2) pe_int (fun _ _ => rfl))) (pe_op op_mulO (pe_ix ix_tup (pv 2) pe_int (fun _ _ => rfl)) (pe_fld (pv 0) rfl))) (pa_cons (pe_op op_mulO (pe_fld (pv 0) rfl) (pe_ix ix_tup (pv 2) pe_int (fun _ _ => rfl))) pa_nil))))))), ?_⟩
    walk_at "s0"
    have ow := Own.start H
    have wok : wOk (t * v - u * b) (b * v) := ok_odd (odd_mul ob ov)
    have wbd : (b * v).natAbs < 2 ^ 8000 := Nat.lt_of_lt_of_le (mulW 3900 3900 b2 b4) (Nat.pow_le_pow_right (by decide) (by decide))
    walk_at "go"
    exact q pW _ H' (ow.new0 g0) ow.toSame_of (ow.get 0 rfl)
theorem ok_Word___rsub__ (F : FnP K "__rsub__" "Word.__rsub__" s_Word___rsub__ f fd) (B : Bi mg) (c_Word : WordC P w K mg base C I) (c_fraction_of : Fo P w K mg base CX0 1 "fraction_of" ["thing"] (sp_frac C)) : FnOk P w K mg base CX0 6 f fd ["self", "other"] (sp_bin C (fun t b u v => u * b - t * v) (fun t b u v => b * v)) := by
  refine F.ok sc_Word___rsub__ (fun vs H Q E h => ?_) (fun cdv A outer s H vs Q E hr h => ?_)
  · obtain ⟨a, dx, t, b, y, u, v, rfl, _⟩ := h
    rfl
  · obtain ⟨a, dx, t, b, y, u, v, rfl, ea, th, ⟨b1, b2, b3, b4⟩, ob, ov, q⟩ := h
    have nd := sc_Word___rsub__.nd
    have cl := c_Word.cl
    have nT := c_Word.nT
    have nB := c_Word.nB
    refine ⟨_, PSs.nox (pss_cons (ps_set (i := 2) nd rfl (Or.inl rfl) (pe_fo c_fraction_of hr (by decide) (pa_cons (pv 1) pa_nil)))
      (pss_cons (ps_if (pt_cmpR op_isN (pv 2) pe_non (nomark _)) (pss_one ps_dead) pss_nil)
      (pss_one (ps_ret (pe_W2 c_Word hr (by decide) (fun _ => psL0) (pa_cons (pe_op op_sub (pe_op op_mulO (pe_ix ix_tup (pv 2) pe_int (fun _ _ => rfl)) (pe_fld (pv 0) rfl)) (pe_op op_mulO (pe_fld (pv 0) rfl) (pe_ix ix_tup (pv 2) pe_int (fun _ _ => rfl)))) (pa_cons (pe_op op_mulO (pe_fld (pv 0) rfl) (pe_ix ix_tup (pv 2) pe_int (fun _ _ => rfl))) pa_nil))))))), ?_⟩
    walk_at "s0"
    have ow := Own.start H
    have wok : wOk (u * b - t * v) (b * v) := ok_odd (odd_mul ob ov)
    have wbd : (b * v).natAbs < 2 ^ 8000 := Nat.lt_of_lt_of_le (mulW 3900 3900 b2 b4) (Nat.pow_le_pow_right (by decide) (by decide))
    walk_at "go"
    exact q pW _ H' (ow.new0 g0) ow.toSame_of (ow.get 0 rfl)
theorem ok_Word___mul__ (F : FnP K "__mul__" "Word.__mul__" s_Word___mul__ f fd) (B : Bi mg) (c_Word : WordC P w K mg base C I) (c_fraction_of : Fo P w K mg base CX0 1 "fraction_of" ["thing"] (sp_frac C)) : FnOk P w K mg base CX0 6 f fd ["self", "other"] (sp_bin C (fun t b u v => t * u) (fun t b u v => b * v)) := by
  refine F.ok sc_Word___mul__ (fun vs H Q E h => ?_) (fun cdv A outer s H vs Q E hr h => ?_)
  · obtain ⟨a, dx, t, b, y, u, v, rfl, _⟩ := h
    rfl
  · obtain ⟨a, dx, t, b, y, u, v, rfl, ea, th, ⟨b1, b2, b3, b4⟩, ob, ov, q⟩ := h
    have nd := sc_Word___mul__.nd
    have cl := c_Word.cl
    have nT := c_Word.nT
    have nB := c_Word.nB
    refine ⟨_, PSs.nox (pss_cons (ps_set (i := 2) nd rfl (Or.inl rfl) (pe_fo c_fraction_of hr (by decide) (pa_cons (pv 1) pa_nil)))
      (pss_cons (ps_if (pt_cmpR op_isN (pv 2) pe_non (nomark _)) (pss_one ps_dead) pss_nil)
      (pss_one (ps_ret (pe_W2 c_Word hr (by decide) (fun _ => psL0) (pa_cons (pe_op op_mulO (pe_fld (pv 0) rfl) (pe_ix ix_tup (pv 2) pe_int (fun _ _ => rfl))) (pa_cons (pe_op op_mulO (pe_fld (pv 0) rfl) (pe_ix ix_tup (pv 2) pe_int (fun _ _ => rfl))) pa_nil))))))), ?_⟩
    walk_at "s0"
    have ow := Own.start H
    have wok : wOk (t * u) (b * v) := ok_odd (odd_mul ob ov)
    have wbd : (b * v).natAbs < 2 ^ 8000 := Nat.lt_of_lt_of_le (mulW 3900 3900 b2 b4) (Nat.pow_le_pow_right (by decide) (by decide))
    walk_at "go"
    exact q pW _ H' (ow.new0 g0) ow.toSame_of (ow.get 0 rfl)
theorem ok_Word___rmul__ (F : FnP K "__rmul__" "Word.__rmul__" s_Word___rmul__ f fd) (B : Bi mg) (c_Word : WordC P w K mg base C I) (c_fraction_of : Fo P w K mg base CX0 1 "fraction_of" ["thing"] (sp_frac C)) : FnOk P w K mg base CX0 6 f fd ["self", "other"] (sp_bin C (fun t b u v => t * u) (fun t b u v => b * v)) := by
  refine F.ok sc_Word___rmul__ (fun vs H Q E h => ?_) (fun cdv A outer s H vs Q E hr h => ?_)
  · obtain ⟨a, dx, t, b, y, u, v, rfl, _⟩ := h
    rfl
  · obtain ⟨a, dx, t, b, y, u, v, rfl, ea, th, ⟨b1, b2, b3, b4⟩, ob, ov, q⟩ := h
    have nd := sc_Word___rmul__.nd
    have cl := c_Word.cl
    have nT := c_Word.nT
    have nB := c_Word.nB
    refine ⟨_, PSs.nox (pss_cons (ps_set (i := 2) nd rfl (Or.inl rfl) (pe_fo c_fraction_of hr (by decide) (pa_cons (pv 1) pa_nil)))
      (pss_cons (ps_if (pt_cmpR op_isN (pv 2) pe_non (nomark _)) (pss_one ps_dead) pss_nil)
      (pss_one (ps_ret (pe_W2 c_Word hr (by decide) (fun _ => psL0) (pa_cons (pe_op op_mulO (pe_fld (pv 0) rfl) (pe_ix ix_tup (pv 2) pe_int (fun _ _ => rfl))) (pa_cons (pe_op op_mulO (pe_fld (pv 0) rfl) (pe_ix ix_tup (pv 2) pe_int (fun _ _ => rfl))) pa_nil))))))), ?_⟩
    walk_at "s0"
    have ow := Own.start H
    have wok : wOk (t * u) (b * v) := ok_odd (odd_mul ob ov)
    have wbd : (b * v).natAbs < 2 ^ 8000 := Nat.lt_of_lt_of_le (mulW 3900 3900 b2 b4) (Nat.pow_le_pow_right (by decide) (by decide))
    walk_at "go"
    exact q pW _ H' (ow.new0 g0) ow.toSame_of (ow.get 0 rfl)
theorem ok_Word___neg__ (F : FnP K "__neg__" "Word.__neg__" s_Word___neg__ f fd) (B : Bi mg) (c_Word : WordC P w K mg base C I) : FnOk P w K mg base CX0 6 f fd ["self"] (sp_un C (fun t b => -t)) := by
  refine F.ok sc_Word___neg__ (fun vs H Q E h => ?_) (fun cdv A outer s H vs Q E hr h => ?_)
  · obtain ⟨a, dx, t, b, rfl, _⟩ := h
    rfl
  · obtain ⟨a, dx, t, b, rfl, ea, b2, ob, q⟩ := h
    have nd := sc_Word___neg__.nd
    have cl := c_Word.cl
    have nT := c_Word.nT
    have nB := c_Word.nB
    refine ⟨_, PSs.nox (pss_one (ps_ret (pe_W2 c_Word hr (by decide) (fun _ => psL0) (pa_cons (pe_un un_neg (pe_fld (pv 0) rfl)) (pa_cons (pe_fld (pv 0) rfl) pa_nil))))), ?_⟩
    walk_at "s0"
    have ow := Own.start H
    have wok : wOk (-t) b := ok_odd ob
    have wbd : b.natAbs < 2 ^ 8000 := Nat.lt_of_lt_of_le b2 (Nat.pow_le_pow_right (by decide) (by decide))
    walk_at "go"
    exact q pW _ H' (ow.new0 g0) ow.toSame_of (ow.get 0 rfl)
theorem ok_Word___invert__ (F : FnP K "__invert__" "Word.__invert__" s_Word___invert__ f fd) (B : Bi mg) (c_Word : WordC P w K mg base C I) : FnOk P w K mg base CX0 6 f fd ["self"] (sp_un C (fun t b => -t - b)) := by
  refine F.ok sc_Word___invert__ (fun vs H Q E h => ?_) (fun cdv A outer s H vs Q E hr h => ?_)
  · obtain ⟨a, dx, t, b, rfl, _⟩ := h
    rfl
  · obtain ⟨a, dx, t, b, rfl, ea, b2, ob, q⟩ := h
    have nd := sc_Word___invert__.nd
    have cl := c_Word.cl
    have nT := c_Word.nT
    have nB := c_Word.nB
    refine ⟨_, PSs.nox (pss_one (ps_ret (pe_W2 c_Word hr (by decide) (fun _ => psL0) (pa_cons (pe_op op_sub (pe_un un_neg (pe_fld (pv 0) rfl)) (pe_fld (pv 0) rfl)) (pa_cons (pe_fld (pv 0) rfl) pa_nil))))), ?_⟩
    walk_at "s0"
    have ow := Own.start H
    have wok : wOk (-t - b) b := ok_odd ob
    have wbd : b.natAbs < 2 ^ 8000 := Nat.lt_of_lt_of_le b2 (Nat.pow_le_pow_right (by decide) (by decide))
    walk_at "go"
    exact q pW _ H' (ow.new0 g0) ow.toSame_of (ow.get 0 rfl)
end
abbrev SA (P : Program) (w : World) (K : PySem.W.Frag) (mg : Str → Option Value) (base : Heap) (C : Addr) : Prop := OpS P w K mg base CX0 C "add" 6 (sp_bin C (fun t b u v => t * v + u * b) (fun t b u v => b * v)) (sp_bin C (fun t b u v => t * v + u * b) (fun t b u v => b * v))
abbrev SS (P : Program) (w : World) (K : PySem.W.Frag) (mg : Str → Option Value) (base : Heap) (C : Addr) : Prop := OpS P w K mg base CX0 C "sub" 6 (sp_bin C (fun t b u v => t * v - u * b) (fun t b u v => b * v)) (sp_bin C (fun t b u v => u * b - t * v) (fun t b u v => b * v))
abbrev SM (P : Program) (w : World) (K : PySem.W.Frag) (mg : Str → Option Value) (base : Heap) (C : Addr) : Prop := OpS P w K mg base CX0 C "mul" 6 (sp_bin C (fun t b u v => t * u) (fun t b u v => b * v)) (sp_bin C (fun t b u v => t * u) (fun t b u v => b * v))

/-! words of fractions: the signs in one form -/
/-! canonical words: the fields of a fraction -/
abbrev cw (C d : Addr) (p q : Int) : HO := .ins C d (wfl (wT p q) (wB p q))
/-- a word of the fraction, or an int -/
def Tn (C : Addr) (H : Hp) (y : V) (p q : Int) : Prop := (y = .int p ∧ q = 1) ∨ ∃ b d, y = .ref b ∧ H b = some (cw C d p q)
theorem Tn.th {C : Addr} {H : Hp} {y : V} {p q : Int} (h : Tn C H y p q) : Th C H y (wT p q) (wB p q) := by
  rcases h with ⟨e, rfl⟩ | h
  · exact .inl ⟨by rw [wT_one]; exact e, wB_one⟩
  · exact .inr h
theorem Tn.same {C : Addr} {H H' : Hp} {y : V} {p q : Int} (h : Tn C H y p q) (s : Same H H') : Tn C H' y p q := by
  rcases h with h | ⟨b, dx, e, z⟩
  · exact .inl h
  · exact .inr ⟨b, dx, e, s _ _ z⟩
/-- bounds of a fraction that is a word -/
structure Bd (n : Nat) (p q : Int) : Prop where
  ok : wOk p q
  p1 : p.natAbs < 2 ^ n
  q1 : q.natAbs < 2 ^ n
theorem Bd.w {n : Nat} {p q : Int} (h : Bd n p q) (hn : n ≤ 3900) : (wT p q).natAbs < 2 ^ 3900 ∧ (wB p q).natAbs < 2 ^ 3900 := by
  have a := wT_le (t := p) h.ok.1
  have b := wB_le (t := p) h.ok.1
  have k : (2 : Nat) ^ n ≤ 2 ^ 3900 := Nat.pow_le_pow_right (by decide) (hn)
  exact ⟨Nat.lt_of_le_of_lt a (Nat.lt_of_lt_of_le h.p1 k), Nat.lt_of_le_of_lt b (Nat.lt_of_lt_of_le h.q1 k)⟩
theorem Bd.ne {n : Nat} {p q : Int} (h : Bd n p q) : q ≠ 0 := h.ok.1
theorem Bd.mono {n m : Nat} {p q : Int} (h : Bd n p q) (hn : n ≤ m) : Bd m p q :=
  have k : (2 : Nat) ^ n ≤ 2 ^ m := Nat.pow_le_pow_right (by decide) hn
  ⟨h.ok, Nat.lt_of_lt_of_le h.p1 k, Nat.lt_of_lt_of_le h.q1 k⟩
/-- another form of the same fraction -/
theorem wOk_of {p q p' q' : Int} (h : wOk p q) (h' : q' ≠ 0) (e : p * q' = p' * q) : wOk p' q' := ⟨h', by rw [← (nm_eq h.1 h' e).2]; exact h.2⟩
theorem bd_int {i : Int} (n : Nat) (h : i.natAbs < 2 ^ n) (hn : 1 ≤ n) : Bd n i 1 := ⟨wOk_one, h, by
  have : 2 ^ 1 ≤ 2 ^ n := Nat.pow_le_pow_right (by decide) hn
  show 1 < 2 ^ n
  omega⟩
section
variable {n m : Nat} {a b c d : Int}
theorem x_cross : wT a b * b = a * wB a b := nm_cross
theorem nm_add (h : wOk a b) (g : wOk c d) : (wT a b * wB c d + wT c d * wB a b) * (b * d) = (a * d + c * b) * (wB a b * wB c d) := by
  have h1 := nm_cross (p := a) (q := b)
  have h2 := nm_cross (p := c) (q := d)
  grind
theorem nm_sub (h : wOk a b) (g : wOk c d) : (wT a b * wB c d - wT c d * wB a b) * (b * d) = (a * d - c * b) * (wB a b * wB c d) := by
  have h1 := nm_cross (p := a) (q := b)
  have h2 := nm_cross (p := c) (q := d)
  grind
theorem nm_mul (h : wOk a b) (g : wOk c d) : (wT a b * wT c d) * (b * d) = (a * c) * (wB a b * wB c d) := by
  have h1 := nm_cross (p := a) (q := b)
  have h2 := nm_cross (p := c) (q := d)
  grind
theorem ok_den (h : wOk a b) (g : wOk c d) {t : Int} : wOk t (wB a b * wB c d) := ok_odd (odd_mul (odd_nm h) (odd_nm g))
theorem Bd.add (h : Bd n a b) (g : Bd m c d) : Bd (n + m + 1) (a * d + c * b) (b * d) := by
  refine ⟨wOk_of (ok_den h.ok g.ok) (Int.mul_ne_zero h.ne g.ne) (nm_add h.ok g.ok), addW (n + m) (mulW n m h.p1 g.q1) (by rw [Nat.add_comm]; exact mulW m n g.p1 h.q1), ?_⟩
  exact Nat.lt_of_lt_of_le (mulW n m h.q1 g.q1) (Nat.pow_le_pow_right (by decide) (by omega))
theorem Bd.sub (h : Bd n a b) (g : Bd m c d) : Bd (n + m + 1) (a * d - c * b) (b * d) := by
  refine ⟨wOk_of (ok_den h.ok g.ok) (Int.mul_ne_zero h.ne g.ne) (nm_sub h.ok g.ok), subW (n + m) (mulW n m h.p1 g.q1) (by rw [Nat.add_comm]; exact mulW m n g.p1 h.q1), ?_⟩
  exact Nat.lt_of_lt_of_le (mulW n m h.q1 g.q1) (Nat.pow_le_pow_right (by decide) (by omega))
theorem Bd.mul (h : Bd n a b) (g : Bd m c d) : Bd (n + m) (a * c) (b * d) :=
  ⟨wOk_of (ok_den h.ok g.ok) (Int.mul_ne_zero h.ne g.ne) (nm_mul h.ok g.ok), mulW n m h.p1 g.p1, mulW n m h.q1 g.q1⟩
theorem nm_neg (h : b ≠ 0) : (-(wT a b)) * b = (0 - a) * wB a b := by
  have h1 := nm_cross (p := a) (q := b)
  grind
theorem nm_inv (h : b ≠ 0) : (-(wT a b) - wB a b) * b = (0 - a - b) * wB a b := by
  have h1 := nm_cross (p := a) (q := b)
  grind
theorem Bd.neg (h : Bd n a b) : Bd n (0 - a) b := ⟨wOk_of (ok_odd (odd_nm h.ok)) h.ne (nm_neg h.ne), by have := h.p1; omega, h.q1⟩
theorem Bd.inv (h : Bd n a b) : Bd (n + 1) (0 - a - b) b := by
  refine ⟨wOk_of (ok_odd (odd_nm h.ok)) h.ne (nm_inv h.ne), ?_, ?_⟩
  · have := h.p1; have := h.q1; rw [Nat.pow_succ]; omega
  · have := h.q1; rw [Nat.pow_succ]; omega
end
section
variable {F H : Hp} {L : List (Addr × HO)} {C r d0 : Addr} {a b c d : Int} {y : V} {Q : VK} {E : XK} {n m : Nat}
theorem c_addC (h : Own F H L) (e : H r = some (cw C d0 a b)) (th : Tn C H y c d) (b1 : Bd n a b) (b2 : Bd m c d) (hn : n ≤ 3900) (hm : m ≤ 3900)
    (k : ∀ p dW H', H p = none → Own F H' ((p, cw C dW (a * d + c * b) (b * d)) :: L) → Bd (n + m + 1) (a * d + c * b) (b * d) → Q (.ref p) H') : sp_bin C (fun t b u v => t * v + u * b) (fun t b u v => b * v) [.ref r, y] H Q E := by
  have z := nm_eq (ok_den b1.ok b2.ok (t := 0)).1 (Int.mul_ne_zero b1.ne b2.ne) (nm_add b1.ok b2.ok)
  refine c_bin h e th.th ⟨(b1.w hn).1, (b1.w hn).2, (b2.w hm).1, (b2.w hm).2⟩ (odd_nm b1.ok) (odd_nm b2.ok) fun p dW H' np ow => ?_
  rw [z.1, z.2] at ow
  exact k p dW H' np ow (b1.add b2)
theorem c_subC (h : Own F H L) (e : H r = some (cw C d0 a b)) (th : Tn C H y c d) (b1 : Bd n a b) (b2 : Bd m c d) (hn : n ≤ 3900) (hm : m ≤ 3900)
    (k : ∀ p dW H', H p = none → Own F H' ((p, cw C dW (a * d - c * b) (b * d)) :: L) → Bd (n + m + 1) (a * d - c * b) (b * d) → Q (.ref p) H') : sp_bin C (fun t b u v => t * v - u * b) (fun t b u v => b * v) [.ref r, y] H Q E := by
  have z := nm_eq (ok_den b1.ok b2.ok (t := 0)).1 (Int.mul_ne_zero b1.ne b2.ne) (nm_sub b1.ok b2.ok)
  refine c_bin h e th.th ⟨(b1.w hn).1, (b1.w hn).2, (b2.w hm).1, (b2.w hm).2⟩ (odd_nm b1.ok) (odd_nm b2.ok) fun p dW H' np ow => ?_
  rw [z.1, z.2] at ow
  exact k p dW H' np ow (b1.sub b2)
theorem c_rsubC (h : Own F H L) (e : H r = some (cw C d0 a b)) (th : Tn C H y c d) (b1 : Bd n a b) (b2 : Bd m c d) (hn : n ≤ 3900) (hm : m ≤ 3900)
    (k : ∀ p dW H', H p = none → Own F H' ((p, cw C dW (c * b - a * d) (d * b)) :: L) → Bd (m + n + 1) (c * b - a * d) (d * b) → Q (.ref p) H') : sp_bin C (fun t b u v => u * b - t * v) (fun t b u v => b * v) [.ref r, y] H Q E := by
  have z := nm_eq (ok_den b2.ok b1.ok (t := 0)).1 (Int.mul_ne_zero b2.ne b1.ne) (nm_sub b2.ok b1.ok)
  refine c_bin h e th.th ⟨(b1.w hn).1, (b1.w hn).2, (b2.w hm).1, (b2.w hm).2⟩ (odd_nm b1.ok) (odd_nm b2.ok) fun p dW H' np ow => ?_
  rw [Int.mul_comm (wB a b) (wB c d), z.1, z.2] at ow
  exact k p dW H' np ow (b2.sub b1)
theorem c_mulC (h : Own F H L) (e : H r = some (cw C d0 a b)) (th : Tn C H y c d) (b1 : Bd n a b) (b2 : Bd m c d) (hn : n ≤ 3900) (hm : m ≤ 3900)
    (k : ∀ p dW H', H p = none → Own F H' ((p, cw C dW (a * c) (b * d)) :: L) → Bd (n + m) (a * c) (b * d) → Q (.ref p) H') : sp_bin C (fun t b u v => t * u) (fun t b u v => b * v) [.ref r, y] H Q E := by
  have z := nm_eq (ok_den b1.ok b2.ok (t := 0)).1 (Int.mul_ne_zero b1.ne b2.ne) (nm_mul b1.ok b2.ok)
  refine c_bin h e th.th ⟨(b1.w hn).1, (b1.w hn).2, (b2.w hm).1, (b2.w hm).2⟩ (odd_nm b1.ok) (odd_nm b2.ok) fun p dW H' np ow => ?_
  rw [z.1, z.2] at ow
  exact k p dW H' np ow (b1.mul b2)
theorem c_negC (h : Own F H L) (e : H r = some (cw C d0 a b)) (b1 : Bd n a b) (hn : n ≤ 3900) (k : ∀ p dW H', H p = none → Own F H' ((p, cw C dW (0 - a) b) :: L) → Bd n (0 - a) b → Q (.ref p) H') : sp_un C (fun t b => -t) [.ref r] H Q E := by
  have z := nm_eq (ok_odd (odd_nm b1.ok) (t := 0)).1 b1.ne (nm_neg (a := a) b1.ne)
  refine c_un h e (b1.w hn).2 (odd_nm b1.ok) fun p dW H' np ow => ?_
  rw [z.1, z.2] at ow
  exact k p dW H' np ow b1.neg
theorem c_invC (h : Own F H L) (e : H r = some (cw C d0 a b)) (b1 : Bd n a b) (hn : n ≤ 3900) (k : ∀ p dW H', H p = none → Own F H' ((p, cw C dW (0 - a - b) b) :: L) → Bd (n + 1) (0 - a - b) b → Q (.ref p) H') : sp_un C (fun t b => -t - b) [.ref r] H Q E := by
  have z := nm_eq (ok_odd (odd_nm b1.ok) (t := 0)).1 b1.ne (nm_inv (a := a) b1.ne)
  refine c_un h e (b1.w hn).2 (odd_nm b1.ok) fun p dW H' np ow => ?_
  rw [z.1, z.2] at ow
  exact k p dW H' np ow b1.inv
end
section
variable {F H : Hp} {L : List (Addr × HO)} {C I r : Addr} {fs gs : List (Str × V)} {i : Int} {x y : V} {Q : VK} {E : XK} {sp spR : Sp} {σ : L2.St} {D : Ends}
/-- signs that set -/
theorem r_aug {te : TE} {ti : TIp} {i : Nat} {x : V} (h : σ[i]? = some (some x)) (k : te σ H fun y H1 => ti x y H1 fun z H2 => D.nx (σ.set i (some z)) H2) : tAug i te ti D σ H := ⟨x, h, k⟩
def iOwn (C : Addr) (sp spR : Sp) (E : XK) : TIp := fun x y H Q => (∃ a dx fs, x = .ref a ∧ H a = some (.ins C dx fs)) ∧ rOwn C sp spR E x y H Q
theorem i_own {d0 : Addr} (e : H r = some (.ins C d0 fs)) (k : cOwn C sp spR E (.ref r) y H Q) : (∃ a dx fs, V.ref r = .ref a ∧ H a = some (.ins C dx fs)) ∧ rOwn C sp spR E (.ref r) y H Q := ⟨⟨_, _, _, rfl, e⟩, k⟩
/-- a word made of a fraction -/
theorem o_WC {n : Nat} {a b : Int} (h : Own F H L) (b1 : Bd n a b) (hn : n ≤ 3900) (k : ∀ p dW H', H p = none → Own F H' ((p, cw C dW a b) :: L) → Q (.ref p) H') : cW C I Q E a b H :=
  o_W h (Nat.lt_of_lt_of_le b1.q1 (Nat.pow_le_pow_right (by decide) (by omega))) b1.ok k
end
set_option hygiene false in
local macro_rules | `(tactic| walk_at "tn") => `(tactic| first | assumption | exact Bs.Tn.same (by assumption) (Bs.Own.toSame (by assumption)) | exact Or.inl ⟨rfl, rfl⟩ | exact Or.inr ⟨_, _, rfl, by walk_at "hx"⟩)
set_option hygiene false in
local macro_rules | `(tactic| walk_at "r1") => `(tactic| first
  | ((with_reducible refine' Bs.c_addC ?p1 ?p2 ?p3 ?p4 ?p5 ?p6 ?p7 ?_); (case p1 => assumption); (case p2 => walk_at "hx"); (case p3 => walk_at "tn"); (case p4 => with_reducible assumption); (case p5 => with_reducible assumption); (case p6 => omega); (case p7 => omega); intro pW dW H' np ow bw)
  | ((with_reducible refine' Bs.c_subC ?p1 ?p2 ?p3 ?p4 ?p5 ?p6 ?p7 ?_); (case p1 => assumption); (case p2 => walk_at "hx"); (case p3 => walk_at "tn"); (case p4 => with_reducible assumption); (case p5 => with_reducible assumption); (case p6 => omega); (case p7 => omega); intro pW dW H' np ow bw)
  | ((with_reducible refine' Bs.c_rsubC ?p1 ?p2 ?p3 ?p4 ?p5 ?p6 ?p7 ?_); (case p1 => assumption); (case p2 => walk_at "hx"); (case p3 => walk_at "tn"); (case p4 => with_reducible assumption); (case p5 => with_reducible assumption); (case p6 => omega); (case p7 => omega); intro pW dW H' np ow bw)
  | ((with_reducible refine' Bs.c_mulC ?p1 ?p2 ?p3 ?p4 ?p5 ?p6 ?p7 ?_); (case p1 => assumption); (case p2 => walk_at "hx"); (case p3 => walk_at "tn"); (case p4 => with_reducible assumption); (case p5 => with_reducible assumption); (case p6 => omega); (case p7 => omega); intro pW dW H' np ow bw)
  | ((with_reducible refine' Bs.c_negC ?p1 ?p2 ?p4 ?p6 ?_); (case p1 => assumption); (case p2 => walk_at "hx"); (case p4 => with_reducible assumption); (case p6 => omega); intro pW dW H' np ow bw)
  | ((with_reducible refine' Bs.c_invC ?p1 ?p2 ?p4 ?p6 ?_); (case p1 => assumption); (case p2 => walk_at "hx"); (case p4 => with_reducible assumption); (case p6 => omega); intro pW dW H' np ow bw)
  | ((with_reducible refine' Bs.o_WC ?p1 ?p2 ?p3 ?_); (case p1 => assumption); (case p2 => with_reducible assumption); (case p3 => omega); intro pW dW H' np ow)
  | ((with_reducible refine' Bs.r_aug ?rv ?_); (case rv => exact rfl))
  | ((with_reducible refine' Bs.i_own ?p1 ?_); (case p1 => walk_at "hx")))

/-! calls of the low bits, leads, spans -/
theorem lt_pw {x : Nat} {n : Nat} (h : x ≤ 1000) (hn : Nat.ble 10 n = true) : x < 2 ^ n := Nat.lt_of_le_of_lt h (Nat.lt_of_lt_of_le (show 1000 < 2 ^ 10 by decide) (Nat.pow_le_pow_right (by decide) (Nat.le_of_ble_eq_true hn)))
/-- sizes that the low bits bear -/
structure Wd (t b : Int) : Prop where
  t1 : t.natAbs < 2 ^ 100000
  b1 : b.natAbs < 2 ^ 8000
theorem wd_pw {t b : Int} (h : t.natAbs ≤ 1000) (g : b.natAbs ≤ 1000) : Wd t b := ⟨lt_pw h rfl, lt_pw g rfl⟩
theorem c_lead {t b : Int} {H : Hp} {Q : VK} {E : XK} (pb : 0 < b) (ob : b % 2 = 1) (k : ∀ n : Nat, IsLead b t n → Q (.int n) H) : sp_lead ([.int t, .int b] ++ []) H Q E := ⟨t, b, rfl, pb, ob, k⟩
theorem c_span {b : Int} {H : Hp} {Q : VK} {E : XK} (pb : 0 < b) (ob : b % 2 = 1) (k : ∀ n : Nat, IsSpan b n → Q (.int n) H) : sp_span ([.int b] ++ []) H Q E := ⟨b, rfl, pb, ob, k⟩
theorem c_lowof {F H : Hp} {L : List (Addr × HO)} {t b i : Int} {Q : VK} {E : XK} (h : Own F H L) (ob : b % 2 = 1) (wd : Wd t b) (h0 : 0 ≤ i) (hi : i ≤ 1000000) (k : ∀ r H', Own F H' L → IsLow t b r i.toNat → Q (.int r) H') : sp_lowof ([.int t, .int b, .int i] ++ []) H Q E :=
  ⟨t, b, i.toNat, by rw [Int.toNat_of_nonneg h0]; rfl, ob, Nat.lt_of_lt_of_le wd.b1 (Nat.pow_le_pow_right (by decide) (by decide)), Nat.lt_of_lt_of_le wd.t1 (Nat.pow_le_pow_right (by decide) (by decide)), by omega, fun r H' s l => k r H' (h.same s) l⟩
set_option hygiene false in
local macro_rules | `(tactic| walk_at "r1") => `(tactic| first
  | ((with_reducible refine' Bs.c_lead ?p1 ?p2 ?_); (case p1 => assumption); (case p2 => assumption); intro nL hL)
  | ((with_reducible refine' Bs.c_span ?p1 ?p2 ?_); (case p1 => assumption); (case p2 => assumption); intro nS hS)
  | ((with_reducible refine' Bs.c_lowof ?p1 ?p2 ?p3 ?p5 ?p6 ?_); (case p1 => assumption); (case p2 => assumption); (case p3 => assumption); (case p5 => omega); (case p6 => omega); intro rL H' ow hl)
  | ((with_reducible refine' Bs.o_W ?p1 ?p2 ?p3 ?_); (case p1 => assumption); (case p2 => exact Bs.Wd.b1 (by assumption)); (case p3 => first | assumption | exact Bs.ok_odd (by assumption)); intro pW dW H' np ow))

/-! words moved -/
abbrev s_Word___lshift__ : Stmt := inClass (top 17) 24
theorem sc_Word___lshift__ : FnScope ["self", "other"] ["self", "other"] (defScope s_Word___lshift__) := ⟨rfl, rfl, rfl, by decide +kernel, rfl, by decide +kernel, by decide +kernel⟩
abbrev s_Word___rshift__ : Stmt := inClass (top 17) 25
theorem sc_Word___rshift__ : FnScope ["self", "other", "low"] ["self", "other"] (defScope s_Word___rshift__) := ⟨rfl, rfl, rfl, by decide +kernel, rfl, by decide +kernel, by decide +kernel⟩
def sp_shl (C I : Addr) : Sp := fun vs H Q E => ∃ (a dx : Addr) (t b n : Int), vs = [.ref a, .int n] ∧ H a = some (.ins C dx (wfl t b)) ∧ Wd t b ∧ b % 2 = 1 ∧ n ≤ 10000 ∧
  (0 ≤ n → ∀ p d H', H p = none → Same H H' → H' p = some (.ins C d (wfl (wT (t * 2 ^ n.toNat) b) (wB (t * 2 ^ n.toNat) b))) → Q (.ref p) H') ∧ (n < 0 → ∀ d H', H d = none → Same H H' → H' d = some (.xd [("value", .int n)]) → E (.ref I) (some d) H')
def sp_shr (C I : Addr) : Sp := fun vs H Q E => ∃ (a dx : Addr) (t b n : Int), vs = [.ref a, .int n] ∧ H a = some (.ins C dx (wfl t b)) ∧ Wd t b ∧ b % 2 = 1 ∧ n ≤ 10000 ∧
  (0 ≤ n → ∀ p d H', H p = none → Same H H' → H' p = some (cw C d (hvs b n.toNat t) b) → Q (.ref p) H') ∧ (n < 0 → ∀ d H', H d = none → Same H H' → H' d = some (.xd [("value", .int n)]) → E (.ref I) (some d) H')
abbrev SL (P : Program) (w : World) (K : PySem.W.Frag) (mg : Str → Option Value) (base : Heap) (C I : Addr) : Prop := OpL P w K mg base (L2.CX P w) C "lshift" 6 (sp_shl C I)
abbrev SR (P : Program) (w : World) (K : PySem.W.Frag) (mg : Str → Option Value) (base : Heap) (C I : Addr) : Prop := OpL P w K mg base (L2.CX P w) C "rshift" 6 (sp_shr C I)
/-! plain -/
theorem red_nm {t b : Int} (pb : 0 < b) (g : Int.gcd t b = 1) : wT t b = t ∧ wB t b = b := by
  have s : wSh t b = 1 := by unfold wSh; rw [if_neg (by omega), g]; rfl
  have e1 := wT_mul (t := t) (b := b)
  have e2 := wB_mul (t := t) (b := b)
  rw [s, Int.mul_one] at e1 e2
  exact ⟨e1, e2⟩
theorem cw_red {C d : Addr} {p q : Int} (h : wOk p q) : cw C d p q = cw C d (wT p q) (wB p q) := by
  have z := red_nm (nm_pos (t := p) h.1) (nm_co (t := p) h.1)
  unfold cw
  rw [z.1, z.2]
theorem hv_scale {k b x : Int} (ok : k % 2 = 1) (ob : b % 2 = 1) : hv (k * b) (k * x) = k * hv b x := by
  have e := hv2 (x := x) ob
  have e2 := hv2 (b := k * b) (x := k * x) (odd_mul ok ob)
  have p : (k * x) % 2 = x % 2 := by rw [Int.mul_emod, ok, Int.one_mul, Int.emod_emod]
  rw [p] at e2
  have e3 : k * (2 * hv b x) = k * (x - x % 2 * b) := by rw [e]
  have : 2 * hv (k * b) (k * x) = 2 * (k * hv b x) := by rw [e2]; grind
  omega
theorem hvs_scale {k b : Int} (ok : k % 2 = 1) (ob : b % 2 = 1) : ∀ (n : Nat) (x : Int), hvs (k * b) n (k * x) = k * hvs b n x
  | 0, x => rfl
  | n + 1, x => by
    show hvs (k * b) n (hv (k * b) (k * x)) = k * hvs b n (hv b x)
    rw [hv_scale ok ob, hvs_scale ok ob n]
theorem odd_of_mul {a b : Int} (h : (a * b) % 2 = 1) : a % 2 = 1 ∧ b % 2 = 1 := by
  have h1 := Int.emod_two_eq a
  have h2 := Int.emod_two_eq b
  rw [Int.mul_emod] at h
  rcases h1 with e | e <;> rcases h2 with e2 | e2 <;> rw [e, e2] at h <;> first | exact ⟨e, e2⟩ | (exfalso; revert h; decide)
theorem hvs_up {b : Int} (ob : b % 2 = 1) : ∀ (n : Nat) (x : Int), hvs b n (x * 2 ^ n) = x
  | 0, x => by simp [hvs]
  | n + 1, x => by
    show hvs b n (hv b (x * 2 ^ (n + 1))) = x
    have p : (x * 2 ^ (n + 1)) % 2 = 0 := by rw [Int.pow_succ, ← Int.mul_assoc, Int.mul_emod_left]
    have e := hv2 (x := x * 2 ^ (n + 1)) ob
    rw [p, Int.pow_succ] at e
    have : hv b (x * 2 ^ (n + 1)) = x * 2 ^ n := by rw [Int.pow_succ]; grind
    rw [this, hvs_up ob n x]
theorem hvs_bd {b : Int} (ob : b % 2 = 1) {m : Nat} (hb : b.natAbs < m) : ∀ (n : Nat) {x : Int}, x.natAbs < m → (hvs b n x).natAbs < m
  | 0, _, h => h
  | n + 1, x, h => by
    refine hvs_bd ob hb n (x := hv b x) ?_
    have e := hv2 (x := x) ob
    rcases Int.emod_two_eq x with p | p <;> rw [p] at e <;> omega
theorem hvs_co {t b : Int} (ob : b % 2 = 1) (g : Int.gcd t b = 1) (n : Nat) : Int.gcd (hvs b n t) b = 1 := by
  have d1 : (Int.gcd (hvs b n t) b : Int) ∣ hvs b n t := Int.gcd_dvd_left _ _
  have d2 : (Int.gcd (hvs b n t) b : Int) ∣ b := Int.gcd_dvd_right _ _
  have d3 : (Int.gcd (hvs b n t) b : Int) ∣ t := by
    obtain ⟨c, e⟩ := hvs_dvd ob n t
    obtain ⟨x, ex⟩ := d1
    obtain ⟨y, ey⟩ := d2
    refine ⟨2 ^ n * x - y * c, ?_⟩
    grind
  have : (Int.gcd (hvs b n t) b : Int) ∣ (Int.gcd t b : Int) := Int.dvd_coe_gcd d3 d2
  rw [g] at this
  exact Nat.dvd_one.mp (Int.natCast_dvd_natCast.mp this)
theorem nm_shl {a b : Int} (h : b ≠ 0) (k : Int) : (wT a b * k) * b = (a * k) * wB a b := by
  have h1 := nm_cross (p := a) (q := b)
  grind
theorem pw_shl {a : Int} {n k : Nat} (h : a.natAbs < 2 ^ n) : (a * 2 ^ k).natAbs < 2 ^ (n + k) := by
  rw [Int.natAbs_mul, Nat.pow_add, Int.natAbs_pow]
  exact Nat.mul_lt_mul_of_pos_right h (Nat.pow_pos (by decide))
theorem Bd.shl {n : Nat} {a b : Int} (h : Bd n a b) (k : Nat) : Bd (n + k) (a * 2 ^ k) b :=
  ⟨wOk_of (ok_odd (odd_nm h.ok)) h.ne (nm_shl h.ne _), pw_shl h.p1, Nat.lt_of_lt_of_le h.q1 (Nat.pow_le_pow_right (by decide) (by omega))⟩
theorem Bd.shr {n : Nat} {a b : Int} (h : Bd n a b) (oq : b % 2 = 1) (k : Nat) : Bd n (hvs b k a) b := ⟨ok_odd oq, hvs_bd oq h.q1 k h.p1, h.q1⟩
theorem nm_shr {a b : Int} (oq : b % 2 = 1) (k : Nat) : hvs (wB a b) k (wT a b) * b = hvs b k a * wB a b := by
  have e1 := wT_mul (t := a) (b := b)
  have e2 := wB_mul (t := a) (b := b)
  have o := odd_of_mul (a := wB a b) (b := wSh a b) (by rw [e2]; exact oq)
  have s := hvs_scale o.2 o.1 k (wT a b)
  rw [Int.mul_comm (wSh a b) (wB a b), Int.mul_comm (wSh a b) (wT a b), e1, e2] at s
  rw [s]
  generalize hvs (wB a b) k (wT a b) = z
  grind
section
variable {P : Program} {w : World} {K : PySem.W.Frag} {mg : Str → Option Value} {base : Heap} {C aInvalidWord aInvalidShift f : Addr} {fd : FuncData}
theorem shr_top {t b r : Int} {n : Nat} (ob : b % 2 = 1) (h : IsLow t b r n) : (t - r * b) / 2 ^ n = hvs b n t := by
  have e := lowS_eq ob n t
  rw [low_is ob h]
  have e2 : t - lowS b n t * b = 2 ^ n * hvs b n t := by grind
  rw [e2, Int.mul_ediv_cancel_left _ (Int.ne_of_gt (two_pow_pos n))]
theorem ok_Word___lshift__ (F : FnP K "__lshift__" "Word.__lshift__" s_Word___lshift__ f fd) (B : Bi mg) (x_InvalidShift : Xc P w K mg base "InvalidShift" aInvalidShift) (c_Word : WordC P w K mg base C aInvalidWord) : FnOk P w K mg base (L2.CX P w) 6 f fd ["self", "other"] (sp_shl C aInvalidShift) := by
  refine F.ok sc_Word___lshift__ (fun vs H Q E h => by walk_at "len") (fun cdv A outer s H vs Q E hr h => ?_)
  have nd := sc_Word___lshift__.nd
  obtain ⟨a, dx, t, b, n, rfl, ea, wd, ob, hn, q1, q2⟩ := h
  have cl := c_Word.cl
  have nT := c_Word.nT
  have nB := c_Word.nB
  refine ⟨_, pss_cons (ps_if (pt_cmpR op_lt (pv 1) pe_int (nomark _)) (pss_one (ps_rx rfl (takes_of rfl rfl rfl rfl) x_InvalidShift hr (by decide) (pa_cons (pv 1) pa_nil) (mo_cons mo_var mo_nil))) pss_nil)
      (pss_one (ps_ret (pe_W2 c_Word hr (by decide) (fun _ => psL0) (pa_cons (pe_op op_shlW (pe_fld (pv 0) rfl) (pv 1)) (pa_cons (pe_fld (pv 0) rfl) pa_nil))))), ?_⟩
  walk_at "s0"
  have ow := Own.start H
  have c1 : 0 ≤ n → CShl t n := fun h => cshl 100000 h wd.t1 (by omega)
  walk_at "go"
  · exact q2 hc dX H' (ow.new0 g0) ow.toSame_of (ow.get 0 rfl)
  have c2 := c1 (by omega)
  walk_at "go"
  · exact q1 (by omega) pW _ H' (ow.new0 g0) ow.toSame_of (ow.get 0 rfl)
theorem ok_Word___rshift__ (F : FnP K "__rshift__" "Word.__rshift__" s_Word___rshift__ f fd) (B : Bi mg) (x_InvalidShift : Xc P w K mg base "InvalidShift" aInvalidShift) (c_low_of : Fo P w K mg base CX0 2 "low_of" ["top", "bottom", "width"] (sp_lowof)) (c_Word : WordC P w K mg base C aInvalidWord) : FnOk P w K mg base (L2.CX P w) 6 f fd ["self", "other"] (sp_shr C aInvalidShift) := by
  refine F.ok sc_Word___rshift__ (fun vs H Q E h => by walk_at "len") (fun cdv A outer s H vs Q E hr h => ?_)
  have nd := sc_Word___rshift__.nd
  obtain ⟨a, dx, t, b, n, rfl, ea, wd, ob, hn, q1, q2⟩ := h
  have cl := c_Word.cl
  have nT := c_Word.nT
  have nB := c_Word.nB
  refine ⟨_, pss_cons (ps_if (pt_cmpR op_lt (pv 1) pe_int (nomark _)) (pss_one (ps_rx rfl (takes_of rfl rfl rfl rfl) x_InvalidShift hr (by decide) (pa_cons (pv 1) pa_nil) (mo_cons mo_var mo_nil))) pss_nil)
      (pss_cons (ps_set (i := 2) nd rfl (Or.inl rfl) (pe_fo c_low_of hr (by decide) (pa_cons (pe_fld (pv 0) rfl) (pa_cons (pe_fld (pv 0) rfl) (pa_cons (pv 1) pa_nil)))))
      (pss_one (ps_ret (pe_W2 c_Word hr (by decide) (fun _ => psL0) (pa_cons (pe_op op_shr (pe_op op_sub (pe_fld (pv 0) rfl) (pe_op op_mulO (pv 2) (pe_fld (pv 0) rfl))) (pv 1)) (pa_cons (pe_fld (pv 0) rfl) pa_nil)))))), ?_⟩
  walk_at "s0"
  have ow := Own.start H
  walk_at "go"
  · exact q2 hc dX H' (ow.new0 g0) ow.toSame_of (ow.get 0 rfl)
  · have c1 : IntMulOk rL b := mok_w 20000 8000 (Nat.lt_of_lt_of_le (show rL.natAbs < 2 ^ n.toNat by
      have h3 : ((2 ^ n.toNat : Nat) : Int) = 2 ^ n.toNat := by simp
      have := hl.r0; have := hl.r1; omega) (Nat.pow_le_pow_right (by decide) (by omega))) wd.b1 (by decide)
    walk_at "go"
    rw [shr_top ob hl] at ow
    exact q1 (by omega) pW _ H' (ow.new0 g0) ow.toSame_of (ow.get 0 rfl)
end

/-! calls of the signs that move -/
section
variable {F H : Hp} {L : List (Addr × HO)} {C I r d0 : Addr} {p q i : Int} {Q : VK} {E : XK} {n : Nat}
theorem Bd.w2 (h : Bd n p q) (hn : n ≤ 3900) : Wd (wT p q) (wB p q) :=
  ⟨Nat.lt_of_lt_of_le (h.w hn).1 (Nat.pow_le_pow_right (by decide) (by decide)), Nat.lt_of_lt_of_le (h.w hn).2 (Nat.pow_le_pow_right (by decide) (by decide))⟩
theorem c_shlP (h : Own F H L) (e : H r = some (cw C d0 p q)) (b1 : Bd n p q) (hn : n ≤ 3900) (i0 : 0 ≤ i) (i1 : i ≤ 10000)
    (k : ∀ pW dW H', H pW = none → Own F H' ((pW, cw C dW (p * 2 ^ i.toNat) q) :: L) → Bd (n + i.toNat) (p * 2 ^ i.toNat) q → Q (.ref pW) H') : sp_shl C I [.ref r, .int i] H Q E := by
  have z := nm_eq (ok_odd (odd_nm b1.ok) (t := 0)).1 b1.ne (nm_shl (a := p) b1.ne (2 ^ i.toNat))
  refine ⟨r, d0, _, _, i, rfl, e, b1.w2 hn, odd_nm b1.ok, i1, fun _ pW dW H' n' s e' => ?_, fun z => by omega⟩
  rw [z.1, z.2] at e'
  exact k pW dW H' n' (h.newS n' s e') (b1.shl _)
theorem c_shlN (h : Own F H L) (e : H r = some (cw C d0 p q)) (b1 : Bd n p q) (hn : n ≤ 3900) (i0 : i < 0)
    (k : ∀ d H', Own F H' ((d, .xd [("value", .int i)]) :: L) → E (.ref I) (some d) H') : sp_shl C I [.ref r, .int i] H Q E :=
  ⟨r, d0, _, _, i, rfl, e, b1.w2 hn, odd_nm b1.ok, by omega, fun z => by omega, fun _ d H' n' s e' => k d H' (h.newS n' s e')⟩
theorem c_shrP (h : Own F H L) (e : H r = some (cw C d0 p q)) (b1 : Bd n p q) (hn : n ≤ 3900) (oq : q % 2 = 1) (i0 : 0 ≤ i) (i1 : i ≤ 10000)
    (k : ∀ pW dW H', H pW = none → Own F H' ((pW, cw C dW (hvs q i.toNat p) q) :: L) → Bd n (hvs q i.toNat p) q → Q (.ref pW) H') : sp_shr C I [.ref r, .int i] H Q E := by
  have z := nm_eq (ok_odd (odd_nm b1.ok) (t := 0)).1 b1.ne (nm_shr (a := p) oq i.toNat)
  refine ⟨r, d0, _, _, i, rfl, e, b1.w2 hn, odd_nm b1.ok, i1, fun _ pW dW H' n' s e' => ?_, fun z => by omega⟩
  unfold cw at e'
  rw [z.1, z.2] at e'
  exact k pW dW H' n' (h.newS n' s e') (b1.shr oq _)
theorem c_shrN (h : Own F H L) (e : H r = some (cw C d0 p q)) (b1 : Bd n p q) (hn : n ≤ 3900) (i0 : i < 0)
    (k : ∀ d H', Own F H' ((d, .xd [("value", .int i)]) :: L) → E (.ref I) (some d) H') : sp_shr C I [.ref r, .int i] H Q E :=
  ⟨r, d0, _, _, i, rfl, e, b1.w2 hn, odd_nm b1.ok, by omega, fun z => by omega, fun _ d H' n' s e' => k d H' (h.newS n' s e')⟩
variable {sp spR : Sp} {a dx : Addr} {fs : List (Str × V)} {y : V} {σ : L2.St}
theorem i_ownD {E : L2.St → XK} (e : H a = some (.ins C dx fs)) (h : cOwn C sp spR (E σ) (.ref a) y H Q) : ipOwn C sp spR E σ (.ref a) y H Q := r_ipO e h
end
set_option hygiene false in
local macro_rules | `(tactic| walk_at "od") => `(tactic| first | with_reducible assumption | omega | (exact Bs.odd_mul (by walk_at "od") (by walk_at "od")))
set_option hygiene false in
local macro_rules | `(tactic| walk_at "r1") => `(tactic| first
  | with_reducible refine Bs.r_ownL ?_
  | with_reducible refine Bs.r_ipL ?_
  | ((with_reducible refine' Bs.ownL_w ?p1 ?_); (case p1 => walk_at "hx"))
  | ((with_reducible refine' Bs.i_ownD ?p1 ?_); (case p1 => walk_at "hx"))
  | ((with_reducible refine' Bs.r_augD ?rv ?_); (case rv => exact rfl))
  | ((with_reducible refine' Bs.c_shlP ?p1 ?p2 ?p3 ?p4 ?p5 ?p6 ?_); (case p1 => assumption); (case p2 => walk_at "hx"); (case p3 => with_reducible assumption); (case p4 => omega); (case p5 => omega); (case p6 => omega); intro pW dW H' np ow bw)
  | ((with_reducible refine' Bs.c_shrP ?p1 ?p2 ?p3 ?p4 ?p7 ?p5 ?p6 ?_); (case p1 => assumption); (case p2 => walk_at "hx"); (case p3 => with_reducible assumption); (case p4 => omega); (case p7 => walk_at "od"); (case p5 => omega); (case p6 => omega); intro pW dW H' np ow bw)
  | ((with_reducible refine' Bs.c_shlN ?p1 ?p2 ?p3 ?p4 ?p5 ?_); (case p1 => assumption); (case p2 => walk_at "hx"); (case p3 => with_reducible assumption); (case p4 => omega); (case p5 => omega); intro dX H' ow)
  | ((with_reducible refine' Bs.c_shrN ?p1 ?p2 ?p3 ?p4 ?p5 ?_); (case p1 => assumption); (case p2 => walk_at "hx"); (case p3 => with_reducible assumption); (case p4 => omega); (case p5 => omega); intro dX H' ow))

/-! a word's bit -/
abbrev s_Word___getitem__ : Stmt := inClass (top 17) 5
theorem sc_Word___getitem__ : FnScope ["self", "at", "lead", "span", "place"] ["self", "at"] (defScope s_Word___getitem__) := ⟨rfl, rfl, rfl, by decide +kernel, rfl, by decide +kernel, by decide +kernel⟩
def sp_getitem (C I : Addr) : Sp := fun vs H Q E => ∃ (a dx : Addr) (t b i : Int), vs = [.ref a, .int i] ∧ H a = some (.ins C dx (wfl t b)) ∧ 0 < b ∧ b % 2 = 1 ∧ Int.gcd t b = 1 ∧ Wd t b ∧ (∀ L p, IsLead b t L → IsSpan b p → L + p ≤ 900000) ∧
  (0 ≤ i → ∀ H', Same H H' → Q (.int (hvs b i.toNat t % 2)) H') ∧ (i < 0 → ∀ d H', H d = none → Same H H' → H' d = some (.xd [("value", .int i)]) → E (.ref I) (some d) H')
section
variable {P : Program} {w : World} {K : PySem.W.Frag} {mg : Str → Option Value} {base : Heap}
theorem ok_getitem {f C I : Addr} {fd : FuncData} (F : FnP K "__getitem__" "Word.__getitem__" s_Word___getitem__ f fd) (B : Bi mg) (cl : Cls K C) (nT : NoAttr K C "kept_top") (nB : NoAttr K C "kept_bottom") (x_InvalidPlace : Xc P w K mg base "InvalidPlace" I)
    (c_lead_of : Fo P w K mg base CX0 1 "lead_of" ["top", "bottom"] sp_lead) (c_span_of : Fo P w K mg base CX0 1 "span_of" ["bottom"] sp_span) (c_low_of : Fo P w K mg base CX0 2 "low_of" ["top", "bottom", "width"] sp_lowof) : FnOk P w K mg base (L2.CX P w) 4 f fd ["self", "at"] (sp_getitem C I) := by
  refine F.ok sc_Word___getitem__ (fun vs H Q E h => ?_) (fun cdv A outer s H vs Q E hr h => ?_)
  · obtain ⟨a, dx, t, b, i, rfl, _⟩ := h
    rfl
  · obtain ⟨a, dx, t, b, i, rfl, ea, pb, ob, g, wd, bd, q, qe⟩ := h
    have nd := sc_Word___getitem__.nd
    refine ⟨_, pss_cons (ps_if (pt_cmpR op_lt (pv 1) pe_int (nomark _)) (pss_one (ps_rx rfl (takes_of rfl rfl rfl rfl) x_InvalidPlace hr (by decide) (pa_cons (pv 1) pa_nil) (mo_cons mo_var mo_nil))) pss_nil)
      (pss_cons (ps_par (i := 2) (j := 3) rfl nd rfl rfl (by decide) rfl rfl (pa_cons (pe_fo c_lead_of hr (by decide) (pa_cons (pe_fld (pv 0) rfl) (pa_cons (pe_fld (pv 0) rfl) pa_nil))) (pa_cons (pe_fo c_span_of hr (by decide) (pa_cons (pe_fld (pv 0) rfl) pa_nil)) pa_nil)) rfl)
      (pss_cons (ps_set (i := 4) nd rfl (Or.inl rfl) (pe_ifExp (pt_cmpR op_lt (pv 1) (pv 2) (nomark _)) (pv 1) (pe_op op_add (pv 2) (pe_op op_mod (pe_op op_sub (pv 1) (pv 2)) (pv 3)))))
      (pss_one (ps_ret (pe_op op_shr (pe_fo c_low_of hr (by decide) (pa_cons (pe_fld (pv 0) rfl) (pa_cons (pe_fld (pv 0) rfl) (pa_cons (pe_op op_add (pv 4) pe_int) pa_nil)))) (pv 4)))))), ?_⟩
    walk_at "s0"
    have ow := Own.start H
    walk_at "go"
    · exact qe hc dX H' (ow.new0 g0) ow.toSame_of (ow.get 0 rfl)
    · have bdd := bd nL nS hL hS
      walk_at "go"
      rw [show (i + 1).toNat = i.toNat + 1 by omega] at hl
      rw [low_bit ob hl]
      exact q (by omega) H' ow.toSame_of
    · have bdd := bd nL nS hL hS
      have sp := hS.pos
      have m1 := Int.emod_nonneg (i - nL) (show (nS : Int) ≠ 0 by omega)
      have m2 := Int.emod_lt_of_pos (i - nL) (show (0 : Int) < nS by omega)
      have e1 : ((i - nL) % (nS : Int)).toNat = (i.toNat - nL) % nS := by
        have : i - nL = ((i.toNat - nL : Nat) : Int) := by omega
        rw [this, ← Int.natCast_emod, Int.toNat_natCast]
      have e2 : (nL + (i - nL) % (nS : Int)).toNat = nL + (i.toNat - nL) % nS := by omega
      walk_at "go"
      rw [show (nL + (i - nL) % (nS : Int) + 1).toNat = (nL + (i.toNat - nL) % nS) + 1 by omega] at hl
      rw [e2, low_bit ob hl, ← hvs_place ob pb g hL hS (by omega)]
      exact q (by omega) H' ow.toSame_of
end
section
variable {F H : Hp} {L : List (Addr × HO)} {C I a dx : Addr} {t b i : Int} {Q : VK} {E : XK} {y : V} {fs : List (Str × V)} {sp : Sp} {σ : L2.St}
def cIx (C : Addr) (sp : Sp) (Q : VK) (E : XK) (x y : V) (H2 : Hp) : Prop := ∃ a dx fs, x = .ref a ∧ H2 a = some (.ins C dx fs) ∧ sp [.ref a, y] H2 Q E
theorem r_ixO {E : L2.St → XK} {ta tb : TE} (k : ta σ H fun x H1 => tb σ H1 fun y H2 => cIx C sp Q (E σ) x y H2) : tIxOwn C sp E ta tb σ H Q := k
theorem o_ixO (e : H a = some (.ins C dx fs)) (k : sp [.ref a, y] H Q E) : cIx C sp Q E (.ref a) y H := ⟨a, dx, fs, rfl, e, k⟩
/-- a word's bit, or the error -/
theorem c_item (h : Own F H L) (e : H a = some (.ins C dx (wfl t b))) (pb : 0 < b) (ob : b % 2 = 1) (g : Int.gcd t b = 1) (wd : Wd t b) (bd : ∀ L p, IsLead b t L → IsSpan b p → L + p ≤ 90000)
    (k1 : 0 ≤ i → ∀ H', Own F H' L → Q (.int (hvs b i.toNat t % 2)) H') (k2 : i < 0 → ∀ d H', Own F H' ((d, .xd [("value", .int i)]) :: L) → E (.ref I) (some d) H') : sp_getitem C I [.ref a, .int i] H Q E :=
  ⟨a, dx, t, b, i, rfl, e, pb, ob, g, wd, fun L p h1 h2 => by have := bd L p h1 h2; omega, fun i0 H' s => k1 i0 H' (h.same s), fun i0 d H' n s e => k2 i0 d H' (h.newS n s e)⟩
end
set_option hygiene false in
local macro_rules | `(tactic| walk_at "r1") => `(tactic| first
  | with_reducible refine Bs.r_ixO ?_
  | ((with_reducible refine' Bs.o_ixO ?p1 ?_); (case p1 => walk_at "hx")))

/-! lists and dicts: readings -/
set_option hygiene false in
local macro_rules | `(tactic| walk_at "r1") => `(tactic| first
  | with_reducible refine Bs.r_bm ?_
  | with_reducible refine Bs.r_il ?_
  | ((with_reducible refine' Bs.o_il ?p1 ?p2 ?_); (case p1 => assumption); (case p2 => walk_at "oi"))
  | ((with_reducible refine' Bs.o_lofT ?p1 ?p2 ?_); (case p1 => assumption); (case p2 => walk_at "hq"); intro pL H' np ow)
  | ((with_reducible refine' Bs.o_lofL ?p1 ?p2 ?_); (case p1 => assumption); (case p2 => walk_at "hq"); intro pL H' np ow)
  | with_reducible refine Bs.r_dnotin ?_
  | with_reducible refine Bs.r_dget ?_
  | ((with_reducible refine' Bs.o_unpF ?p1 ?p2 ?_); (case p1 => walk_at "hq"); (case p2 => exact rfl))
  | ((with_reducible refine' Bs.o_bmL ?p1 ?p2 ?_); (case p1 => assumption); (case p2 => walk_at "oi"))
  | ((with_reducible refine' Bs.o_dnew ?p1 ?_); (case p1 => assumption); intro pD H' np ow)
  | ((with_reducible refine' Bs.o_dn ?p1 ?p2 ?_); (case p1 => assumption); (case p2 => walk_at "oi"))
  | ((with_reducible refine' Bs.o_dg ?p1 ?p2 ?p3 ?_); (case p1 => assumption); (case p2 => walk_at "oi"); (case p3 => assumption))
  | ((with_reducible refine' Bs.o_lenD ?p1 ?p2 ?_); (case p1 => assumption); (case p2 => walk_at "oi")))
theorem two_at {x y v : Int} {m : Int} (h0 : 0 ≤ v) (h1 : v < 2) (x0 : 0 ≤ x ∧ x ≤ m) (y0 : 0 ≤ y ∧ y ≤ m) : ∃ N : Int, atI [V.int x, V.int y] v = some (.int N) ∧ 0 ≤ N ∧ N ≤ m := by
  have : v = 0 ∨ v = 1 := by omega
  rcases this with rfl | rfl
  · exact ⟨x, rfl, x0⟩
  · exact ⟨y, rfl, y0⟩
theorem o_ix2 {K : PySem.W.Frag} {F H : Hp} {L : List (Addr × HO)} {a : Addr} {i : Nat} {x y v m : Int} {Q : VK} (h : Own F H L) (e : L[i]? = some (a, .lst [.int x, .int y])) (h0 : 0 ≤ v) (h1 : v < 2) (x0 : 0 ≤ x ∧ x ≤ m) (y0 : 0 ≤ y ∧ y ≤ m) (k : ∀ N : Int, 0 ≤ N → N ≤ m → Q (.int N) H) : rIxL K (.ref a) (.int v) H Q := by
  obtain ⟨N, hN, N0, N1⟩ := two_at h0 h1 x0 y0
  exact o_ixL h e hN (k N N0 N1)

/-! the first bits, plain -/
theorem at_last {α : Type} {ys : List α} {v : α} : atI (ys ++ [v]) (-1) = some v := by
  unfold atI ixN
  rw [if_neg (by omega), if_pos (by simp; omega)]
  have : ((-1 : Int) + ((ys ++ [v]).length : Nat)).toNat = ys.length := by simp; omega
  show (ys ++ [v])[((-1 : Int) + ((ys ++ [v]).length : Nat)).toNat]? = some v
  rw [this]
  simp
/-- the first n bits -/
def bitsL (b t : Int) (n : Nat) : List Int := (List.range n).map fun i => hvs b i t % 2
theorem bitsL_succ (b t : Int) (n : Nat) : bitsL b t (n + 1) = bitsL b t n ++ [hvs b n t % 2] := by
  unfold bitsL
  rw [List.range_succ, List.map_append]
  rfl
theorem bitsL_len (b t : Int) (n : Nat) : (bitsL b t n).length = n := by unfold bitsL; simp
theorem at_bits {b t : Int} {n : Nat} {j : Int} (h0 : 0 ≤ j) (h : j < n) : atI ((bitsL b t n).map V.int) j = some (.int (hvs b j.toNat t % 2)) := by
  unfold atI ixN
  have l : ((bitsL b t n).map V.int).length = n := by rw [List.length_map, bitsL_len]
  rw [if_pos h0, l, if_pos h]
  show ((bitsL b t n).map V.int)[j.toNat]? = _
  have z : j.toNat < n := by omega
  unfold bitsL
  simp [z]

/-! readings of calls by the slots, of x[::-1], of isinstance against bool -/
structure TyB (K : PySem.W.Frag) : Prop where
  k : PySem.W.kitOne K (.type "int") (.type "bool") = some false
  k3 : PySem.W.kitOne K (.type "int") (.type "int") = some true
theorem r_isiB {K : PySem.W.Frag} {H : Hp} {Q : VK} {i : Int} (ty : TyB K) (k : Q (.bl false) H) : rIsi K [.int i, .ty "bool"] H Q := ⟨_, _, _, _, false, rfl, .ty _, .base (.int i), ty.k, k⟩
theorem r_isiN2 {K : PySem.W.Frag} {H : Hp} {Q : VK} {i : Int} (ty : TyB K) (k : Q (.bl true) H) : rIsi K [.int i, .ty "int"] H Q := ⟨_, _, _, _, true, rfl, .ty _, .base (.int i), ty.k3, k⟩
set_option hygiene false in
local macro_rules | `(tactic| walk_at "oi") => `(tactic| first | exact Bs.g0 | exact Bs.g1 | exact Bs.g2 | exact Bs.g3 | exact Bs.g4 | exact Bs.g5 | exact Bs.g6 | exact Bs.g7 | exact Bs.g8 | exact Bs.g9 | exact Bs.g10 | exact Bs.g11 | exact Bs.g12 | exact Bs.g13 | exact Bs.g14 | exact Bs.g15 | exact Bs.g16 | exact Bs.g17 | exact Bs.g18 | exact Bs.g19 | exact Bs.g20 | exact Bs.g21 | exact Bs.g22 | exact Bs.g23 | exact Bs.g24 | exact Bs.g25 | exact Bs.g26 | exact Bs.g27 | exact Bs.g28 | exact Bs.g29 | exact Bs.g30 | exact Bs.g31 | exact Bs.g32 | exact Bs.g33 | exact Bs.g34 | exact Bs.g35 | exact Bs.g36 | exact Bs.g37 | exact Bs.g38 | exact Bs.g39 | exact Bs.g40)
set_option hygiene false in
local macro_rules | `(tactic| walk_at "r1") => `(tactic| first
  | with_reducible refine Bs.r_fx ?_
  | ((with_reducible refine' Bs.fx_pos ?p1 ?_); (case p1 => exact rfl))
  | with_reducible refine Bs.fx_kb2 ?_
  | with_reducible refine Bs.r_rv ?_
  | with_reducible refine Bs.r_part ?_
  | ((with_reducible refine' Bs.o_rv ?p1 ?p2 ?_); (case p1 => assumption); (case p2 => walk_at "hq"); intro pL H' np ow)
  | ((with_reducible refine' Bs.r_isiB ?p1 ?_); (case p1 => assumption))
  | ((with_reducible refine' Bs.r_isiN2 ?p1 ?_); (case p1 => assumption)))

/-! widths -/
abbrev s_check_width : Stmt := top 19
theorem sc_check_width : FnScope ["width"] ["width"] (defScope s_check_width) := ⟨rfl, rfl, rfl, by decide +kernel, rfl, by decide +kernel, by decide +kernel⟩
def sp_chk (I : Addr) : Sp := fun vs H Q E => ∃ n : Int, vs = [.int n] ∧ (0 ≤ n → Q .non H) ∧ (n < 0 → ∀ d H', H d = none → Same H H' → H' d = some (.xd [("value", .int n)]) → E (.ref I) (some d) H')
section
variable {F H : Hp} {L : List (Addr × HO)} {C I r d0 : Addr} {p q t b n : Int} {Q : VK} {E : XK} {m : Nat}
theorem c_chkP (h0 : 0 ≤ n) (k : Q .non H) : sp_chk I ([.int n] ++ []) H Q E := ⟨n, rfl, fun _ => k, fun z => by omega⟩
theorem c_chkN (h : Own F H L) (h0 : n < 0) (k : ∀ d H', Own F H' ((d, .xd [("value", .int n)]) :: L) → E (.ref I) (some d) H') : sp_chk I ([.int n] ++ []) H Q E :=
  ⟨n, rfl, fun z => by omega, fun _ d H' n' s e => k d H' (h.newS n' s e)⟩
end
set_option hygiene false in
local macro_rules | `(tactic| walk_at "r1") => `(tactic| first
  | ((with_reducible refine' Bs.c_chkP ?p1 ?_); (case p1 => omega))
  | ((with_reducible refine' Bs.c_chkN ?p1 ?p2 ?_); (case p1 => assumption); (case p2 => omega); intro dX H' ow))
section
variable {P : Program} {w : World} {K : PySem.W.Frag} {mg : Str → Option Value} {base : Heap} {C aInvalidWidth f : Addr} {fd : FuncData}
theorem ok_check_width (F : FnP K "check_width" "check_width" s_check_width f fd) (B : Bi mg) (x_InvalidWidth : Xc P w K mg base "InvalidWidth" aInvalidWidth) : FnOk P w K mg base (L2.CX P w) 3 f fd ["width"] (sp_chk aInvalidWidth) := by
  refine F.ok sc_check_width (fun vs H Q E h => by walk_at "len") (fun cdv A outer s H vs Q E hr h => ?_)
  have nd := sc_check_width.nd
  obtain ⟨n, rfl, q1, q2⟩ := h
  refine ⟨_, pss_one (ps_if (pt_cmpR op_lt (pv 0) pe_int (nomark _)) (pss_one (ps_rx rfl (takes_of rfl rfl rfl rfl) x_InvalidWidth hr (by decide) (pa_cons (pv 0) pa_nil) (mo_cons mo_var mo_nil))) pss_nil), ?_⟩
  walk_at "s0"
  have ow := Own.start H
  walk_at "go"
  · exact q2 hc dX H' (ow.new0 g0) ow.toSame_of (ow.get 0 rfl)
  · exact q1 (by omega)
end

/-! widths, low bits -/
abbrev s_low_bits : Stmt := top 22
theorem sc_low_bits : FnScope ["word", "width"] ["word", "width"] (defScope s_low_bits) := ⟨rfl, rfl, rfl, by decide +kernel, rfl, by decide +kernel, by decide +kernel⟩
def sp_lowb (C I : Addr) : Sp := fun vs H Q E => ∃ (a dx : Addr) (t b n : Int), vs = [.ref a, .int n] ∧ H a = some (.ins C dx (wfl t b)) ∧ Wd t b ∧ b % 2 = 1 ∧ n ≤ 100000 ∧ (0 ≤ n → ∀ H', Same H H' → Q (.int (lowS b n.toNat t)) H') ∧
  (n < 0 → ∀ d H', H d = none → Same H H' → H' d = some (.xd [("value", .int n)]) → E (.ref I) (some d) H')
section
variable {F H : Hp} {L : List (Addr × HO)} {C I r d0 : Addr} {p q t b n : Int} {Q : VK} {E : XK} {m : Nat}
theorem c_lowbP (h : Own F H L) (e : H r = some (.ins C d0 (wfl t b))) (wd : Wd t b) (ob : b % 2 = 1) (h0 : 0 ≤ n) (h1 : n ≤ 100000) (k : ∀ H', Own F H' L → Q (.int (lowS b n.toNat t)) H') : sp_lowb C I ([.ref r, .int n] ++ []) H Q E :=
  ⟨r, d0, t, b, n, rfl, e, wd, ob, h1, fun _ H' s => k H' (h.same s), fun z => by omega⟩
theorem c_lowbN (h : Own F H L) (e : H r = some (.ins C d0 (wfl t b))) (wd : Wd t b) (ob : b % 2 = 1) (h0 : n < 0) (k : ∀ d H', Own F H' ((d, .xd [("value", .int n)]) :: L) → E (.ref I) (some d) H') : sp_lowb C I ([.ref r, .int n] ++ []) H Q E :=
  ⟨r, d0, t, b, n, rfl, e, wd, ob, by omega, fun z => by omega, fun _ d H' n' s e => k d H' (h.newS n' s e)⟩
end
set_option hygiene false in
local macro_rules | `(tactic| walk_at "r1") => `(tactic| first
  | ((with_reducible refine' Bs.c_lowbP ?p1 ?p2 ?p3 ?p4 ?p5 ?p6 ?_); (case p1 => assumption); (case p2 => walk_at "hx"); (case p3 => assumption); (case p4 => assumption); (case p5 => omega); (case p6 => omega); intro H' ow)
  | ((with_reducible refine' Bs.c_lowbN ?p1 ?p2 ?p3 ?p4 ?p5 ?_); (case p1 => assumption); (case p2 => walk_at "hx"); (case p3 => assumption); (case p4 => assumption); (case p5 => omega); intro dX H' ow))
section
variable {P : Program} {w : World} {K : PySem.W.Frag} {mg : Str → Option Value} {base : Heap} {C aInvalidWidth f : Addr} {fd : FuncData}
theorem ok_low_bits (F : FnP K "low_bits" "low_bits" s_low_bits f fd) (B : Bi mg) (c_check_width : Fo P w K mg base (L2.CX P w) 3 "check_width" ["width"] (sp_chk aInvalidWidth)) (c_low_of : Fo P w K mg base CX0 2 "low_of" ["top", "bottom", "width"] (sp_lowof)) (p_top : PrC P w K mg base CX0 C "top" 1 (getSp C "kept_top")) (p_bottom : PrC P w K mg base CX0 C "bottom" 1 (getSp C "kept_bottom")) : FnOk P w K mg base (L2.CX P w) 4 f fd ["word", "width"] (sp_lowb C aInvalidWidth) := by
  refine F.ok sc_low_bits (fun vs H Q E h => by walk_at "len") (fun cdv A outer s H vs Q E hr h => ?_)
  have nd := sc_low_bits.nd
  obtain ⟨a, dx, t, b, n, rfl, ea, wd, ob, hn, q1, q2⟩ := h
  refine ⟨_, pss_cons (ps_expr (pe_fx c_check_width hr (by decide) (fun σ => passAt (takes_of rfl rfl rfl rfl) σ) (pa_cons (pv 1) pa_nil)))
      (pss_one (ps_ret (pe_fo c_low_of hr (by decide) (pa_cons (pe_wp p_top hr (by decide) (pv 0)) (pa_cons (pe_wp p_bottom hr (by decide) (pv 0)) (pa_cons (pv 1) pa_nil)))))), ?_⟩
  walk_at "s0"
  have ow := Own.start H
  by_cases h0 : 0 ≤ n
  · walk_at "go"
    rw [low_is ob hl]
    exact q1 h0 H' ow.toSame_of
  · have h1 : n < 0 := by omega
    walk_at "go"
    exact q2 h1 dX H' (ow.new0 g0) ow.toSame_of (ow.get 0 rfl)
end

/-! the properties lead and span -/
abbrev s_Word_lead : Stmt := inClass (top 17) 3
theorem sc_Word_lead : FnScope ["self"] ["self"] (defScope s_Word_lead) := ⟨rfl, rfl, rfl, by decide +kernel, rfl, by decide +kernel, by decide +kernel⟩
abbrev s_Word_span : Stmt := inClass (top 17) 4
theorem sc_Word_span : FnScope ["self"] ["self"] (defScope s_Word_span) := ⟨rfl, rfl, rfl, by decide +kernel, rfl, by decide +kernel, by decide +kernel⟩
def sp_plead (C : Addr) : Sp := fun vs H Q _ => ∃ (a dx : Addr) (t b : Int), vs = [.ref a] ∧ H a = some (.ins C dx (wfl t b)) ∧ 0 < b ∧ b % 2 = 1 ∧ ∀ n : Nat, IsLead b t n → Q (.int n) H
def sp_pspan (C : Addr) : Sp := fun vs H Q _ => ∃ (a dx : Addr) (t b : Int), vs = [.ref a] ∧ H a = some (.ins C dx (wfl t b)) ∧ 0 < b ∧ b % 2 = 1 ∧ ∀ n : Nat, IsSpan b n → Q (.int n) H
theorem c_plead {H : Hp} {C a dx : Addr} {t b : Int} {Q : VK} {E : XK} (e : H a = some (.ins C dx (wfl t b))) (pb : 0 < b) (ob : b % 2 = 1) (k : ∀ n : Nat, IsLead b t n → Q (.int n) H) : sp_plead C [.ref a] H Q E := ⟨a, dx, t, b, rfl, e, pb, ob, k⟩
theorem c_pspan {H : Hp} {C a dx : Addr} {t b : Int} {Q : VK} {E : XK} (e : H a = some (.ins C dx (wfl t b))) (pb : 0 < b) (ob : b % 2 = 1) (k : ∀ n : Nat, IsSpan b n → Q (.int n) H) : sp_pspan C [.ref a] H Q E := ⟨a, dx, t, b, rfl, e, pb, ob, k⟩
theorem isLead_uniq {b t : Int} {n m : Nat} (h : IsLead b t n) (g : IsLead b t m) : n = m := by
  rcases Nat.lt_trichotomy n m with z | z | z
  · exact absurd h.is (g.no n z)
  · exact z
  · exact absurd g.is (h.no m z)
theorem isSpan_uniq {b : Int} {n m : Nat} (h : IsSpan b n) (g : IsSpan b m) : n = m := by
  rcases Nat.lt_trichotomy n m with z | z | z
  · exact absurd h.dv (g.no n h.pos z)
  · exact z
  · exact absurd g.dv (h.no m g.pos z)
theorem c_pleadK {H : Hp} {C a dx : Addr} {t b : Int} {N : Nat} {Q : VK} {E : XK} (e : H a = some (.ins C dx (wfl t b))) (pb : 0 < b) (ob : b % 2 = 1) (hL : IsLead b t N) (k : Q (.int N) H) : sp_plead C [.ref a] H Q E := ⟨a, dx, t, b, rfl, e, pb, ob, fun n h => by rw [isLead_uniq h hL]; exact k⟩
theorem c_pspanK {H : Hp} {C a dx : Addr} {t b : Int} {N : Nat} {Q : VK} {E : XK} (e : H a = some (.ins C dx (wfl t b))) (pb : 0 < b) (ob : b % 2 = 1) (hS : IsSpan b N) (k : Q (.int N) H) : sp_pspan C [.ref a] H Q E := ⟨a, dx, t, b, rfl, e, pb, ob, fun n h => by rw [isSpan_uniq h hS]; exact k⟩
set_option hygiene false in
local macro_rules | `(tactic| walk_at "r1") => `(tactic| first
  | ((with_reducible refine' Bs.o_propF ?p1 ?_); (case p1 => walk_at "hx"))
  | ((with_reducible refine' Bs.c_get ?p1 ?p2 ?_); (case p1 => walk_at "hx"); (case p2 => walk_at "lk"))
  | ((with_reducible refine' Bs.c_pleadK ?p1 ?p2 ?p3 ?p4 ?_); (case p1 => walk_at "hx"); (case p2 => assumption); (case p3 => assumption); (case p4 => with_reducible assumption))
  | ((with_reducible refine' Bs.c_pspanK ?p1 ?p2 ?p3 ?p4 ?_); (case p1 => walk_at "hx"); (case p2 => assumption); (case p3 => assumption); (case p4 => with_reducible assumption))
  | ((with_reducible refine' Bs.c_plead ?p1 ?p2 ?p3 ?_); (case p1 => walk_at "hx"); (case p2 => assumption); (case p3 => assumption); intro nL hL)
  | ((with_reducible refine' Bs.c_pspan ?p1 ?p2 ?p3 ?_); (case p1 => walk_at "hx"); (case p2 => assumption); (case p3 => assumption); intro nS hS))
section
variable {P : Program} {w : World} {K : PySem.W.Frag} {mg : Str → Option Value} {base : Heap} {C f : Addr} {fd : FuncData}
theorem ok_Word_lead (F : FnP K "lead" "Word.lead" s_Word_lead f fd) (B : Bi mg) (c_lead_of : Fo P w K mg base CX0 1 "lead_of" ["top", "bottom"] (sp_lead)) (cl : Cls K C) (nT : NoAttr K C "kept_top") (nB : NoAttr K C "kept_bottom") : FnOk P w K mg base CX0 2 f fd ["self"] (sp_plead C) := by
  refine F.ok sc_Word_lead (fun vs H Q E h => by walk_at "len") (fun cdv A outer s H vs Q E hr h => ?_)
  have nd := sc_Word_lead.nd
  obtain ⟨a, dx, t, b, rfl, ea, pb, ob, q⟩ := h
  refine ⟨_, PSs.nox (pss_one (ps_ret (pe_fo c_lead_of hr (by decide) (pa_cons (pe_fld (pv 0) rfl) (pa_cons (pe_fld (pv 0) rfl) pa_nil))))), ?_⟩
  walk_at "s0"
  have ow := Own.start H
  walk_at "go"
  exact q nL hL
theorem ok_Word_span (F : FnP K "span" "Word.span" s_Word_span f fd) (B : Bi mg) (c_span_of : Fo P w K mg base CX0 1 "span_of" ["bottom"] (sp_span)) (cl : Cls K C) (nB : NoAttr K C "kept_bottom") : FnOk P w K mg base CX0 2 f fd ["self"] (sp_pspan C) := by
  refine F.ok sc_Word_span (fun vs H Q E h => by walk_at "len") (fun cdv A outer s H vs Q E hr h => ?_)
  have nd := sc_Word_span.nd
  obtain ⟨a, dx, t, b, rfl, ea, pb, ob, q⟩ := h
  refine ⟨_, PSs.nox (pss_one (ps_ret (pe_fo c_span_of hr (by decide) (pa_cons (pe_fld (pv 0) rfl) pa_nil)))), ?_⟩
  walk_at "s0"
  have ow := Own.start H
  walk_at "go"
  exact q nS hS
end

/-! ones of numbers -/
abbrev s_ones_of : Stmt := top 20
theorem sc_ones_of : FnScope ["number", "found", "place"] ["number"] (defScope s_ones_of) := ⟨rfl, rfl, rfl, by decide +kernel, rfl, by decide +kernel, by decide +kernel⟩
def onesR (r : Int) (n : Nat) : List Int := ((List.range n).filter (fun i => r / 2 ^ i % 2 = 1)).map (fun i : Nat => (i : Int))
theorem onesR_succ (r : Int) (n : Nat) : onesR r (n + 1) = if r / 2 ^ n % 2 = 1 then onesR r n ++ [(n : Int)] else onesR r n := by
  unfold onesR
  rw [List.range_succ, List.filter_append]
  by_cases h : r / 2 ^ n % 2 = 1
  · rw [if_pos h]; simp [h]
  · rw [if_neg h]; simp [h]
theorem div_pow_zero {r : Int} (r0 : 0 ≤ r) {k j : Nat} (h : r / 2 ^ k ≤ 0) (hj : k ≤ j) : r / 2 ^ j = 0 := by
  have p := two_pow_pos k
  have h1 : r < 2 ^ k := by
    by_cases z : r < 2 ^ k
    · exact z
    · exfalso
      have : 1 ≤ r / 2 ^ k := by
        rw [Int.le_ediv_iff_mul_le p]
        omega
      omega
  refine Int.ediv_eq_zero_of_lt r0 (Int.lt_of_lt_of_le h1 ?_)
  obtain ⟨d, rfl⟩ := Nat.exists_eq_add_of_le hj
  rw [Int.pow_add]
  have p2 := two_pow_pos d
  have := Int.mul_le_mul_of_nonneg_left (show 1 ≤ (2 : Int) ^ d by omega) (Int.le_of_lt p)
  rw [Int.mul_one] at this
  exact this
theorem onesR_stop {r : Int} (r0 : 0 ≤ r) {k : Nat} (h : r / 2 ^ k ≤ 0) : ∀ d, onesR r (k + d) = onesR r k
  | 0 => rfl
  | d + 1 => by
    rw [show k + (d + 1) = (k + d) + 1 by omega, onesR_succ, if_neg (by rw [div_pow_zero r0 h (by omega)]; decide), onesR_stop r0 h d]
theorem onesR_len (r : Int) (n : Nat) : (onesR r n).length ≤ n := by
  unfold onesR
  rw [List.length_map]
  exact Nat.le_trans (List.length_filter_le _ _) (by simp)
def sp_ones (K : PySem.W.Frag) : Sp := fun vs H Q _ => ∃ (r : Int) (n : Nat), vs = [.int r] ∧ 0 ≤ r ∧ r < 2 ^ n ∧ n ≤ 100000 ∧ ∀ p H', H p = none → Same H H' → H' p = some (.lst ((onesR r n).map V.int)) → Q (.ref p) H'
theorem c_ones {K : PySem.W.Frag} {F H : Hp} {L : List (Addr × HO)} {r : Int} {Q : VK} {E : XK} (n : Nat) (h : Own F H L) (r0 : 0 ≤ r) (r1 : r < 2 ^ n) (hn : n ≤ 100000) (k : ∀ p H', H p = none → Own F H' ((p, .lst ((onesR r n).map V.int)) :: L) → Q (.ref p) H') : sp_ones K ([.int r] ++ []) H Q E :=
  ⟨r, n, rfl, r0, r1, hn, fun p H' n' s e => k p H' n' (h.newS n' s e)⟩
set_option hygiene false in
local macro_rules | `(tactic| walk_at "r1") => `(tactic| first
  | with_reducible refine Bs.r_tr ?_
  | with_reducible refine Bs.tr_int ?_
  | ((with_reducible refine' Bs.r_sum ?p1 ?_); (case p1 => walk_at "hq"))
  | ((with_reducible refine' Bs.o_dvm ?p1 ?p2 ?p3 ?_); (case p1 => assumption); (case p2 => omega); (case p3 => omega); intro pT H' np ow))
section
variable {P : Program} {w : World} {K : PySem.W.Frag} {mg : Str → Option Value} {base : Heap} {C f : Addr} {fd : FuncData}
theorem ok_ones_of (F : FnP K "ones_of" "ones_of" s_ones_of f fd) (B : Bi mg)  : FnOk P w K mg base CX0 1 f fd ["number"] (sp_ones K) := by
  refine F.ok sc_ones_of (fun vs H Q E h => by walk_at "len") (fun cdv A outer s H vs Q E hr h => ?_)
  have nd := sc_ones_of.nd
  obtain ⟨r, n, rfl, r0, r1, hn, q⟩ := h
  refine ⟨_, PSs.nox (pss_cons (ps_par (i := 1) (j := 2) rfl nd rfl rfl (by decide) rfl rfl (pa_cons (pe_lst pa_nil) (pa_cons pe_int pa_nil)) rfl)
      (pss_cons (ps_while PassesOwn.never (pt_cmpR op_gt (pv 0) pe_int (nomark _)) (pss_cons (ps_if (pt_tr (pe_op op_and (pv 0) pe_int) (by intro _; rfl)) (pss_one (ps_expr (pe_bm PySem.F.plainAttrs_list PySem.F.slot_list_append PySem.F.type_list_append mt_append (pv 1) (pa_cons (pv 2) pa_nil)))) pss_nil)
      (pss_one (ps_par (i := 0) (j := 2) rfl nd rfl rfl (by decide) rfl rfl (pa_cons (pe_op op_shr (pv 0) pe_int) (pa_cons (pe_op op_add (pv 2) pe_int) pa_nil)) rfl))))
      (pss_one (ps_ret (pv 1))))), ?_⟩
  walk_at "s0"
  have ow := Own.start H
  walk_at "go"
  refine r_while (fun m σ H' => ∃ k : Nat, k ≤ n ∧ m = n - k ∧ σ = [some (.int (r / 2 ^ k)), some (.ref pL), some (.int k)] ∧ Own H H' [(pL, .lst ((onesR r k).map V.int))]) _ ⟨0, Nat.zero_le _, rfl, by simp, ow⟩ ?_
  rintro m σ H1 ⟨k, hk, rfl, rfl, ow⟩
  have kn : ¬ r / 2 ^ k ≤ 0 → k < n := fun z => by
    by_cases y : k < n
    · exact y
    · exfalso
      have e : k = n := by omega
      subst e
      exact z (by rw [Int.ediv_eq_zero_of_lt r0 r1]; decide)
  have nx : r / 2 ^ k / 2 ^ (1 : Int).toNat = r / 2 ^ (k + 1) := by
    rw [Int.pow_succ, ← Int.ediv_ediv_of_nonneg (Int.le_of_lt (two_pow_pos k))]
    rfl
  walk_at "go"
  · have b1 : r / 2 ^ k % 2 = 1 := by
      rw [band1] at hc
      omega
    refine o_app ow g0 (by rw [List.length_map]; have := onesR_len r k; omega) ?_
    intro H2 ow
    walk_at "ow"
    walk_at "go"
    have := kn (by omega)
    refine ⟨n - (k + 1), by omega, k + 1, by omega, rfl, by rw [nx]; rfl, ?_⟩
    rw [onesR_succ, if_pos b1, List.map_append]
    exact ow
  · have b1 : ¬ r / 2 ^ k % 2 = 1 := by
      rw [band1] at hc
      omega
    have := kn (by omega)
    refine ⟨n - (k + 1), by omega, k + 1, by omega, rfl, by rw [nx]; rfl, ?_⟩
    rw [onesR_succ, if_neg b1]
    exact ow
  · have e := onesR_stop r0 (k := k) (by omega) (n - k)
    rw [show k + (n - k) = n by omega] at e
    rw [← e] at ow
    exact q pL _ (ow.new0 g0) ow.toSame_of (ow.get 0 rfl)
end

/-! few places -/
/-- a fraction of which the places are few -/
structure Few (t b : Int) : Prop where
  pb : 0 < b
  ob : b % 2 = 1
  g : Int.gcd t b = 1
  bd : ∀ L p, IsLead b t L → IsSpan b p → L + p ≤ 90000

/-! few places, plain -/
theorem lead_le {b t : Int} {L : Nat} (ob : b % 2 = 1) (pb : 0 < b) (h : IsLead b t L) : L ≤ t.natAbs := by
  have key : ∀ k, k ≤ L → far b (hvs b k t) + k ≤ far b t := by
    intro k
    induction k with
    | zero => intro _; exact Nat.le_refl _
    | succ k ih =>
      intro hk
      have i := ih (by omega)
      have l := far_hv ob pb (h.no k (by omega))
      rw [hvs_succ]
      omega
  have k := key L (Nat.le_refl _)
  have f : far b t ≤ t.natAbs := by
    unfold far
    split
    · exact Nat.le_refl _
    · split <;> omega
  omega
theorem span_le {b : Int} {p : Nat} (ob : b % 2 = 1) (pb : 0 < b) (h : IsSpan b p) : p ≤ b.toNat := by
  have bd : ∀ i, i ≤ b.toNat → ((2 : Int) ^ i % b).toNat < b.toNat := fun i _ => by
    have h1 := Int.emod_nonneg ((2 : Int) ^ i) (show b ≠ 0 by omega)
    have h2 := Int.emod_lt_of_pos ((2 : Int) ^ i) pb
    omega
  obtain ⟨i, j, hij, hj, e⟩ := php b.toNat _ bd
  have h1 := Int.emod_nonneg ((2 : Int) ^ i) (show b ≠ 0 by omega)
  have h2 := Int.emod_nonneg ((2 : Int) ^ j) (show b ≠ 0 by omega)
  have d : b ∣ 2 ^ j - 2 ^ i := Int.dvd_of_emod_eq_zero (Int.emod_eq_emod_iff_emod_sub_eq_zero.mp (by omega))
  have s : (2 : Int) ^ j - 2 ^ i = 2 ^ i * (2 ^ (j - i) - 1) := by
    rw [Int.mul_sub, ← Int.pow_add, Int.mul_one]
    congr 2
    omega
  rw [s] at d
  have d2 := odd_dvdp ob i d
  by_cases z : j - i < p
  · exact absurd d2 (h.no (j - i) (by omega) z)
  · omega
theorem few_pair {t b : Int} (h : PairOk t b) : Few (wT t b) (wB t b) := by
  have o := odd_nm h.ok
  have p := nm_pos (t := t) h.ne
  have a1 := wT_le (t := t) h.ne
  have a2 := wB_le (t := t) h.ne
  have t1 := h.t1
  have b1 := h.b1
  refine ⟨p, o, nm_co h.ne, fun L s hL hS => ?_⟩
  have l1 := lead_le o p hL
  have l2 := span_le o p hS
  omega

/-! leads of great tops -/
def far2 (b x : Int) : Nat := if 0 < x then x.natAbs else if x < -b then (-b - x).natAbs else 0
theorem far2_hv {b x : Int} (ob : b % 2 = 1) (pb : 0 < b) (h : ¬ In b x) : far2 b (hv b x) ≤ far2 b x / 2 := by
  have e := hv2 (x := x) ob
  have h' : 0 < x ∨ x < -b := by unfold In at h; omega
  unfold far2
  rcases Int.emod_two_eq x with p | p <;> rw [p] at e <;> rcases h' with q | q
  · rw [if_pos q]; split
    · omega
    · split <;> omega
  · rw [if_neg (show ¬ 0 < x by omega), if_pos q]; split
    · omega
    · split <;> omega
  · rw [if_pos q]; split
    · omega
    · split <;> omega
  · rw [if_neg (show ¬ 0 < x by omega), if_pos q]; split
    · omega
    · split <;> omega
theorem far2_pos {b x : Int} (h : ¬ In b x) : 1 ≤ far2 b x := by
  have h' : 0 < x ∨ x < -b := by unfold In at h; omega
  unfold far2
  split
  · omega
  · split <;> omega
theorem lead_log {b t : Int} {m L : Nat} (ob : b % 2 = 1) (pb : 0 < b) (ht : t.natAbs < 2 ^ m) (hL : IsLead b t L) : L ≤ m := by
  have key : ∀ k, k ≤ L → far2 b (hvs b k t) * 2 ^ k ≤ far2 b t := by
    intro k
    induction k with
    | zero => intro _; simp [hvs]
    | succ k ih =>
      intro hk
      have i := ih (by omega)
      have l := far2_hv ob pb (hL.no k (by omega))
      rw [hvs_succ, Nat.pow_succ]
      have : far2 b (hv b (hvs b k t)) * 2 ≤ far2 b (hvs b k t) := by omega
      calc far2 b (hv b (hvs b k t)) * (2 ^ k * 2) = (far2 b (hv b (hvs b k t)) * 2) * 2 ^ k := by ac_rfl
        _ ≤ far2 b (hvs b k t) * 2 ^ k := Nat.mul_le_mul_right _ this
        _ ≤ far2 b t := i
  by_cases z : L = 0
  · omega
  · have k := key (L - 1) (by omega)
    have p := far2_pos (hL.no (L - 1) (by omega))
    have f : far2 b t ≤ t.natAbs := by
      unfold far2
      split
      · exact Nat.le_refl _
      · split <;> omega
    have q : 2 ^ (L - 1) ≤ far2 b (hvs b (L - 1) t) * 2 ^ (L - 1) := Nat.le_mul_of_pos_left _ p
    have : 2 ^ (L - 1) < 2 ^ m := by omega
    have := (Nat.pow_lt_pow_iff_right (by decide)).mp this
    omega
theorem few_log {t b : Int} {m : Nat} (pb : 0 < b) (ob : b % 2 = 1) (g : Int.gcd t b = 1) (ht : t.natAbs < 2 ^ m) (hm : m ≤ 80000) (hb : b ≤ 1000) : Few t b := by
  refine ⟨pb, ob, g, fun L s hL hS => ?_⟩
  have l1 := lead_log ob pb ht hL
  have l2 := span_le ob pb hS
  omega
/-- a word of a fraction with a small bottom -/
theorem few_bd {n : Nat} {p q : Int} (h : Bd n p q) (hn : n ≤ 80000) (hb : q.natAbs ≤ 1000) : Few (wT p q) (wB p q) := by
  have a1 := wB_le (t := p) h.ne
  exact few_log (nm_pos h.ne) (odd_nm h.ok) (nm_co h.ne) (Nat.lt_of_le_of_lt (wT_le h.ne) h.p1) hn (by have := nm_pos (t := p) h.ne; omega)

/-! ones of words, by parts -/
abbrev s_ones_by_parts : Stmt := top 21
theorem sc_ones_by_parts : FnScope ["word", "lead", "span", "places", "place"] ["word"] (defScope s_ones_by_parts) := ⟨rfl, rfl, rfl, by decide +kernel, rfl, by decide +kernel, by decide +kernel⟩
/-- the places of ones, from s on, m places -/
def onesP (b t : Int) (s m : Nat) : List Int := ((List.range' s m).filter (fun i => hvs b i t % 2 = 1)).map (fun i : Nat => (i : Int))
theorem bit_low {b : Int} : ∀ {n i : Nat} {t : Int}, i < n → lowS b n t / 2 ^ i % 2 = hvs b i t % 2
  | 0, i, t, h => by omega
  | n + 1, 0, t, h => by
    show (t % 2 + 2 * lowS b n (hv b t)) / 2 ^ 0 % 2 = t % 2
    rw [Int.pow_zero, Int.ediv_one]
    omega
  | n + 1, i + 1, t, h => by
    show (t % 2 + 2 * lowS b n (hv b t)) / 2 ^ (i + 1) % 2 = hvs b i (hv b t) % 2
    have e : (t % 2 + 2 * lowS b n (hv b t)) / 2 = lowS b n (hv b t) := by omega
    rw [← bit_low (n := n) (i := i) (t := hv b t) (by omega), show (2 : Int) ^ (i + 1) = 2 * 2 ^ i by rw [Int.pow_succ, Int.mul_comm], ← Int.ediv_ediv_of_nonneg (show (0 : Int) ≤ 2 by decide), e]
theorem onesR_low {b t : Int} {n : Nat} : onesR (lowS b n t) n = onesP b t 0 n := by
  unfold onesR onesP
  rw [List.range_eq_range']
  congr 1
  refine List.filter_congr fun i hi => ?_
  have : i < n := by have := List.mem_range'.mp hi; omega
  rw [bit_low this]
theorem onesP_app (b t : Int) (s m k : Nat) : onesP b t s (m + k) = onesP b t s m ++ onesP b t (s + m) k := by
  unfold onesP
  rw [← List.range'_append_1, List.filter_append, List.map_append]
theorem onesP_mem {b t : Int} {s m : Nat} {x : Int} (h : x ∈ onesP b t s m) : s ≤ x ∧ x < s + m := by
  unfold onesP at h
  obtain ⟨i, hi, rfl⟩ := List.mem_map.mp h
  have := List.mem_range'_1.mp (List.mem_filter.mp hi).1
  omega
theorem filt_all {p : Int → Bool} {l : List Int} (h : ∀ x ∈ l, p x = true) : l.filter p = l := List.filter_eq_self.mpr h
theorem filt_none {p : Int → Bool} {l : List Int} (h : ∀ x ∈ l, p x = false) : l.filter p = [] := List.filter_eq_nil_iff.mpr fun x hx z => by rw [h x hx] at z; cases z
theorem onesP_lt (b t : Int) (L S : Nat) (j : Nat) (hj : j ≤ S) : (onesP b t L S).filter (fun x => decide (x < (L : Int) + j)) = onesP b t L j := by
  rw [show S = j + (S - j) by omega, onesP_app, List.filter_append, filt_all, filt_none, List.append_nil]
  · intro x hx
    have := onesP_mem hx
    simp
    omega
  · intro x hx
    have := onesP_mem hx
    simp
    omega
theorem onesP_ge (b t : Int) (L S : Nat) : (onesP b t 0 (L + S)).filter (fun x => decide ((L : Int) ≤ x)) = onesP b t L S := by
  rw [onesP_app, List.filter_append, filt_none, filt_all, List.nil_append, Nat.zero_add]
  · intro x hx
    have := onesP_mem hx
    simp
    omega
  · intro x hx
    have := onesP_mem hx
    simp
    omega
def sp_parts (C : Addr) (K : PySem.W.Frag) : Sp := fun vs H Q _ => ∃ (a dx : Addr) (t b : Int), vs = [.ref a] ∧ H a = some (.ins C dx (wfl t b)) ∧ Wd t b ∧ 0 < b ∧ b % 2 = 1 ∧ (∀ L p, IsLead b t L → IsSpan b p → L + p ≤ 90000) ∧
  ∀ (L S : Nat) p p1 p2 H', IsLead b t L → IsSpan b S → L + S ≤ 90000 → Same H H' → H p = none → H p1 = none → H p2 = none → H' p = some (.tup [.ref p1, .ref p2]) → H' p1 = some (.lst ((onesP b t 0 L).map V.int)) → H' p2 = some (.lst ((onesP b t L S).map V.int)) → Q (.ref p) H'
/-- a comprehension over an owned list of ints with a test; the items stay ints -/
theorem c_lcI {K : PySem.W.Frag} {F H : Hp} {L : List (Addr × HO)} {σ : L2.St} {Q : VK} {tt : TT} {te : TE} {j : Nat} {a : Addr} {ns : List Int} (p : Int → Bool) (f : Int → Int) (h : Own F H L) (sq : ∀ D acc H', Own F H' ((D, .lst acc) :: L) → SqL K H' a (ns.map V.int)) (hn : ns.length ≤ 1000000) (hj : ∀ v : V, wipe ((wipe σ [j]).set j (some v)) [j] = wipe σ [j])
    (step : ∀ v D acc H' (R : VK) (Z : Hp → Prop), v ∈ ns → Own F H' ((D, .lst acc) :: L) → (p v = true → R (.int (f v)) H') → (p v = false → Z H') → tt ((wipe σ [j]).set j (some (.int v))) H' fun b H3 => if b = true then te ((wipe σ [j]).set j (some (.int v))) H3 R else Z H3)
    (k : ∀ D H', H D = none → Own F H' ((D, .lst (((ns.filter p).map f).map V.int)) :: L) → Q (.ref D) H') : cLc (gName j) tt te [j] σ Q (Itl K a) H := by
  refine c_lcF ns.length hn hj (fun D i acc H' => Own F H' ((D, .lst acc) :: L) ∧ acc = (((ns.take i).filter p).map f).map V.int) (fun D nD => ⟨h.new nD, by simp⟩) ?_ ?_ ?_ ?_
  · rintro D i acc H1 ⟨ow, _⟩ hi
    exact itl_go (sq D acc H1 ow) (by simpa using hi)
  · rintro D acc H1 ⟨ow, _⟩
    have := itl_stop (K := K) (sq D acc H1 ow)
    simpa using this
  · rintro D i acc H1 x H2 R Z hi la ⟨ow, ea⟩ ⟨rfl, hy⟩ hR hZ
    have hx := hy _ (sq D acc _ ow)
    rw [List.getElem?_map, List.getElem?_eq_getElem hi] at hx
    cases hx
    have tk : ns.take (i + 1) = ns.take i ++ [ns[i]] := by rw [List.take_succ, List.getElem?_eq_getElem hi]; rfl
    refine step ns[i] D acc H2 R Z (List.getElem_mem hi) ow (fun pv => hR _ _ (ow.get 0 rfl) ⟨ow.put 0 rfl, ?_⟩) (fun pv => hZ _ ⟨ow, ?_⟩)
    · rw [tk, List.filter_append, List.map_append, List.map_append, ← ea]
      simp [pv]
    · rw [tk, List.filter_append, List.map_append, List.map_append, ← ea]
      simp [pv]
  · rintro D acc H1 nD ⟨ow, ea⟩ la
    rw [List.take_length] at ea
    subst ea
    exact k D H1 nD ow
theorem onesP_len (b t : Int) (s m : Nat) : (onesP b t s m).length ≤ m := by
  unfold onesP
  rw [List.length_map]
  exact Nat.le_trans (List.length_filter_le _ _) (by simp)
theorem map_id' (l : List Int) : l.map (fun x => x) = l := List.map_id' l
theorem onesP_fst (b t : Int) (L S : Nat) : (onesP b t 0 (L + S)).filter (fun x => decide (x < (L : Int))) = onesP b t 0 L := by
  have := onesP_lt b t 0 (L + S) L (by omega)
  simpa using this
section
variable {P : Program} {w : World} {K : PySem.W.Frag} {mg : Str → Option Value} {base : Heap} {C f : Addr} {fd : FuncData}
theorem ok_ones_by_parts (F : FnP K "ones_by_parts" "ones_by_parts" s_ones_by_parts f fd) (B : Bi mg) (p_lead : PrC P w K mg base CX0 C "lead" 2 (sp_plead C)) (p_span : PrC P w K mg base CX0 C "span" 2 (sp_pspan C)) (c_ones_of : Fo P w K mg base CX0 1 "ones_of" ["number"] (sp_ones K)) (c_low_of : Fo P w K mg base CX0 2 "low_of" ["top", "bottom", "width"] (sp_lowof)) (p_top : PrC P w K mg base CX0 C "top" 1 (getSp C "kept_top")) (p_bottom : PrC P w K mg base CX0 C "bottom" 1 (getSp C "kept_bottom")) : FnOk P w K mg base CX0 4 f fd ["word"] (sp_parts C K) := by
  refine F.ok sc_ones_by_parts (fun vs H Q E h => by walk_at "len") (fun cdv A outer s H vs Q E hr h => ?_)
  have nd := sc_ones_by_parts.nd
  obtain ⟨a, dx, t, b, rfl, ea, wd, pb, ob, bd, q⟩ := h
  refine ⟨_, PSs.nox (pss_cons (ps_asg (pe_tup (pa_cons (pe_wp p_lead hr (by decide) (pv 0)) (pa_cons (pe_wp p_span hr (by decide) (pv 0)) pa_nil))) (pg_tup rfl (pgs_cons (pg_name (i := 1) nd rfl (.inr rfl)) (pgs_cons (pg_name (i := 2) nd rfl (.inl rfl)) pgs_nil))))
      (pss_cons (ps_set (i := 3) nd rfl (Or.inl rfl) (pe_fo c_ones_of hr (by decide) (pa_cons (pe_fo c_low_of hr (by decide) (pa_cons (pe_wp p_top hr (by decide) (pv 0)) (pa_cons (pe_wp p_bottom hr (by decide) (pv 0)) (pa_cons (pe_op op_add (pv 1) (pv 2)) pa_nil)))) pa_nil)))
      (pss_one (ps_ret (pe_tup (pa_cons (pe_lc (own := [("place", 4)]) (g := gName 4) (by rfl) nd (pi_list (pv 3)) (blkOk_by (own := [("place", 4)]) (N := ["word", "lead", "span", "places", "place"]) (sc := defScope s_ones_by_parts) (by decide +kernel)) (fun _ _ _ _ _ => pg_name (i := 4) nd rfl (Or.inl rfl)) (fun _ _ _ _ _ => (pts_one (pt_cmpR op_lt (pv 4) (pv 1) (nomark _)))) (fun _ _ _ _ _ => (pv 4))) (pa_cons (pe_lc (own := [("place", 4)]) (g := gName 4) (by rfl) nd (pi_list (pv 3)) (blkOk_by (own := [("place", 4)]) (N := ["word", "lead", "span", "places", "place"]) (sc := defScope s_ones_by_parts) (by decide +kernel)) (fun _ _ _ _ _ => pg_name (i := 4) nd rfl (Or.inl rfl)) (fun _ _ _ _ _ => (pts_one (pt_cmpR op_ge (pv 4) (pv 1) (nomark _)))) (fun _ _ _ _ _ => (pv 4))) pa_nil))))))), ?_⟩
  walk_at "s0"
  have ow := Own.start H
  walk_at "go"
  have bdd := bd nL nS hL hS
  walk_at "go"
  rw [show ((nL : Int) + nS).toNat = nL + nS by omega] at hl
  have el := low_is ob hl
  subst el
  have bl := lowS_bd b (nL + nS) t
  refine c_ones (nL + nS) ow bl.1 bl.2 (by omega) ?_
  intro pO H' nO ow
  rw [onesR_low] at ow
  have ol := onesP_len b t 0 (nL + nS)
  walk_at "go"
  refine r_lc ?_
  walk_at "go"
  refine c_lcI (fun x => decide (x < (nL : Int))) (fun x => x) ow (fun D acc H' ow => SqL.of (ow.get 1 rfl)) (by omega) (fun v => rfl) (fun v D acc H' R Z hv ow p1 p2 => ?_) (fun D H' nD ow => ?_)
  · dsimp only [wipe, List.set_cons_zero, List.set_cons_succ]
    walk_at "go"
    · exact p1 (decide_eq_true hc)
    · exact p2 (decide_eq_false hc)
  rw [map_id', onesP_fst] at ow
  walk_at "go"
  refine r_lc ?_
  walk_at "go"
  refine c_lcI (fun x => decide ((nL : Int) ≤ x)) (fun x => x) ow (fun D acc H' ow => SqL.of (ow.get 2 rfl)) (by omega) (fun v => rfl) (fun v D acc H' R Z hv ow p1 p2 => ?_) (fun D2 H' nD2 ow => ?_)
  · dsimp only [wipe, List.set_cons_zero, List.set_cons_succ]
    walk_at "go"
    · exact p1 (decide_eq_true hc)
    · exact p2 (decide_eq_false hc)
  rw [map_id', onesP_ge] at ow
  walk_at "go"
  exact q nL nS pT D D2 H' hL hS bdd ow.toSame_of (ow.new0 g0) (ow.new0 g2) (ow.new0 g1) (ow.get 0 rfl) (ow.get 2 rfl) (ow.get 1 rfl)
end
theorem c_parts {K : PySem.W.Frag} {F H : Hp} {L : List (Addr × HO)} {C a dx : Addr} {t b : Int} {Q : VK} {E : XK} (h : Own F H L) (e : H a = some (.ins C dx (wfl t b))) (wd : Wd t b) (pb : 0 < b) (ob : b % 2 = 1) (bd : ∀ L p, IsLead b t L → IsSpan b p → L + p ≤ 90000)
    (k : ∀ (N S : Nat) p p1 p2 H', IsLead b t N → IsSpan b S → N + S ≤ 90000 → SqT K H' p [.ref p1, .ref p2] → SqL K H' p1 ((onesP b t 0 N).map V.int) → SqL K H' p2 ((onesP b t N S).map V.int) → Own F H' L → Q (.ref p) H') : sp_parts C K ([.ref a] ++ []) H Q E :=
  ⟨a, dx, t, b, rfl, e, wd, pb, ob, bd, fun N S p p1 p2 H' h1 h2 h3 s n n1 n2 e e1 e2 => k N S p p1 p2 H' h1 h2 h3 (SqT.of e) (SqL.of e1) (SqL.of e2) (h.same s)⟩

/-! ones from a place on, counted -/
/-- how many ones from s on, m places -/
def sB (b t : Int) (s m : Nat) : Int := ((List.range' s m).map (fun i => hvs b i t % 2)).sum
theorem sB_zero (b t : Int) (s : Nat) : sB b t s 0 = 0 := rfl
theorem sB_app (b t : Int) (s m k : Nat) : sB b t s (m + k) = sB b t s m + sB b t (s + m) k := by
  unfold sB
  rw [← List.range'_append_1, List.map_append, List.sum_append]
theorem sB_one (b t : Int) (s : Nat) : sB b t s 1 = hvs b s t % 2 := by unfold sB; simp
theorem sB_len (b t : Int) (s : Nat) : ∀ m, ((onesP b t s m).length : Int) = sB b t s m
  | 0 => by unfold onesP; simp [sB_zero]
  | m + 1 => by
    rw [onesP_app, List.length_append, Int.natCast_add, sB_len b t s m, sB_app, sB_one]
    congr 1
    unfold onesP
    have := Int.emod_two_eq (hvs b (s + m) t)
    by_cases h : hvs b (s + m) t % 2 = 1
    · simp [h]
    · have z : hvs b (s + m) t % 2 = 0 := by omega
      simp [z]
theorem sB_nn (b t : Int) (s m : Nat) : 0 ≤ sB b t s m ∧ sB b t s m ≤ m := by
  rw [← sB_len]
  have := onesP_len b t s m
  omega
section
variable {b t : Int} {L S : Nat}
theorem hvs_per (ob : b % 2 = 1) (pb : 0 < b) (g : Int.gcd t b = 1) (hL : IsLead b t L) (hS : IsSpan b S) {i : Nat} (h : L ≤ i) : hvs b (i + S) t = hvs b i t := by
  have e := per ob pb g hL hS
  rw [show i + S = (i - L) + (L + S) by omega, hvs_add, e, ← hvs_add]
  congr 1
  omega
theorem sB_per (ob : b % 2 = 1) (pb : 0 < b) (g : Int.gcd t b = 1) (hL : IsLead b t L) (hS : IsSpan b S) {s : Nat} (h : L ≤ s) : ∀ m, sB b t (s + S) m = sB b t s m
  | 0 => rfl
  | m + 1 => by
    rw [sB_app, sB_app, sB_per ob pb g hL hS h m, sB_one, sB_one, show s + S + m = (s + m) + S by omega, hvs_per ob pb g hL hS (by omega)]
theorem sB_mul (ob : b % 2 = 1) (pb : 0 < b) (g : Int.gcd t b = 1) (hL : IsLead b t L) (hS : IsSpan b S) : ∀ k r : Nat, sB b t L (k * S + r) = k * sB b t L S + sB b t L r
  | 0, r => by simp
  | k + 1, r => by
    rw [show (k + 1) * S + r = S + (k * S + r) by rw [Nat.succ_mul]; omega, sB_app, sB_per ob pb g hL hS (Nat.le_refl _), sB_mul ob pb g hL hS k r, Int.natCast_add, Int.add_mul]
    omega
/-- the ones of a great width by whole spans -/
theorem sB_great (ob : b % 2 = 1) (pb : 0 < b) (g : Int.gcd t b = 1) (hL : IsLead b t L) (hS : IsSpan b S) {n : Int} (h : (L : Int) ≤ n) : sB b t 0 n.toNat = sB b t 0 L + (n - L) / S * sB b t L S + sB b t L ((n - L) % S).toNat := by
  have sp := hS.pos
  have m1 := Int.emod_nonneg (n - L) (show (S : Int) ≠ 0 by omega)
  have m2 := Int.emod_add_mul_ediv (n - L) S
  have m3 := Int.ediv_nonneg (show 0 ≤ n - L by omega) (show (0 : Int) ≤ S by omega)
  obtain ⟨k, hk⟩ := Int.eq_ofNat_of_zero_le m3
  obtain ⟨r, hr⟩ := Int.eq_ofNat_of_zero_le m1
  rw [hk, hr] at m2 ⊢
  have e : n.toNat = L + (k * S + r) := by
    have : n = ((L + (k * S + r) : Nat) : Int) := by
      have : (S : Int) * k = k * S := Int.mul_comm _ _
      push_cast
      omega
    omega
  rw [e, sB_app, Nat.zero_add, sB_mul ob pb g hL hS, Int.toNat_natCast]
  omega
end

/-! ones counted -/
abbrev s_count_ones : Stmt := top 23
theorem sc_count_ones : FnScope ["word", "width", "first", "again", "place", "spans", "rest"] ["word", "width"] (defScope s_count_ones) := ⟨rfl, rfl, rfl, by decide +kernel, rfl, by decide +kernel, by decide +kernel⟩
theorem o_ilS {K : PySem.W.Frag} {H : Hp} {a : Addr} {xs : List V} {R : It → Hp → Prop} (s : SqL K H a xs) (k : R (Itl K a) H) : cIl K R (.ref a) H := ⟨a, rfl, ⟨xs, s⟩, k⟩
def sp_count (C I : Addr) : Sp := fun vs H Q E => ∃ (a dx : Addr) (t b n : Int), vs = [.ref a, .int n] ∧ H a = some (.ins C dx (wfl t b)) ∧ Wd t b ∧ Few t b ∧ (0 ≤ n → ∀ H', Same H H' → Q (.int (sB b t 0 n.toNat)) H') ∧
  (n < 0 → ∀ d H', H d = none → Same H H' → H' d = some (.xd [("value", .int n)]) → E (.ref I) (some d) H')
section
variable {F H : Hp} {L : List (Addr × HO)} {C I r d0 : Addr} {t b n : Int} {Q : VK} {E : XK}
theorem c_countP (h : Own F H L) (e : H r = some (.ins C d0 (wfl t b))) (wd : Wd t b) (f : Few t b) (h0 : 0 ≤ n) (k : ∀ H', Own F H' L → Q (.int (sB b t 0 n.toNat)) H') : sp_count C I ([.ref r, .int n] ++ []) H Q E :=
  ⟨r, d0, t, b, n, rfl, e, wd, f, fun _ H' s => k H' (h.same s), fun z => by omega⟩
theorem c_countN (h : Own F H L) (e : H r = some (.ins C d0 (wfl t b))) (wd : Wd t b) (f : Few t b) (h0 : n < 0) (k : ∀ d H', Own F H' ((d, .xd [("value", .int n)]) :: L) → E (.ref I) (some d) H') : sp_count C I ([.ref r, .int n] ++ []) H Q E :=
  ⟨r, d0, t, b, n, rfl, e, wd, f, fun z => by omega, fun _ d H' n' s e => k d H' (h.newS n' s e)⟩
end
set_option hygiene false in
local macro_rules | `(tactic| walk_at "r1") => `(tactic| first
  | ((with_reducible refine' Bs.o_ilS ?p1 ?_); (case p1 => walk_at "hq"))
  | ((with_reducible refine' Bs.c_parts ?p1 ?p2 ?p3 ?p4 ?p5 ?p6 ?_); (case p1 => assumption); (case p2 => walk_at "hx"); (case p3 => assumption); (case p4 => assumption); (case p5 => assumption); (case p6 => assumption); intro nL nS pT pA pB H' hL hS bdd sT sA sB2 ow)
  | ((with_reducible refine' Bs.c_countP ?p1 ?p2 ?p3 ?p4 ?p5 ?_); (case p1 => assumption); (case p2 => walk_at "hx"); (case p3 => assumption); (case p4 => assumption); (case p5 => omega); intro H' ow)
  | ((with_reducible refine' Bs.c_countN ?p1 ?p2 ?p3 ?p4 ?p5 ?_); (case p1 => assumption); (case p2 => walk_at "hx"); (case p3 => assumption); (case p4 => assumption); (case p5 => omega); intro dX H' ow))
section
variable {P : Program} {w : World} {K : PySem.W.Frag} {mg : Str → Option Value} {base : Heap} {C aInvalidWidth f : Addr} {fd : FuncData}
theorem ok_count_ones (F : FnP K "count_ones" "count_ones" s_count_ones f fd) (B : Bi mg) (c_check_width : Fo P w K mg base (L2.CX P w) 3 "check_width" ["width"] (sp_chk aInvalidWidth)) (c_ones_by_parts : Fo P w K mg base CX0 4 "ones_by_parts" ["word"] (sp_parts C K)) (p_lead : PrC P w K mg base CX0 C "lead" 2 (sp_plead C)) (p_span : PrC P w K mg base CX0 C "span" 2 (sp_pspan C)) : FnOk P w K mg base (L2.CX P w) 6 f fd ["word", "width"] (sp_count C aInvalidWidth) := by
  refine F.ok sc_count_ones (fun vs H Q E h => by walk_at "len") (fun cdv A outer s H vs Q E hr h => ?_)
  have nd := sc_count_ones.nd
  obtain ⟨a, dx, t, b, n, rfl, ea, wd, fw, q1, q2⟩ := h
  have pb := fw.pb
  have ob := fw.ob
  have bd := fw.bd
  refine ⟨_, pss_cons (ps_expr (pe_fx c_check_width hr (by decide) (fun σ => passAt (takes_of rfl rfl rfl rfl) σ) (pa_cons (pv 1) pa_nil)))
      (pss_cons (ps_asg (pe_fo c_ones_by_parts hr (by decide) (pa_cons (pv 0) pa_nil)) (pg_tup rfl (pgs_cons (pg_name (i := 2) nd rfl (.inl rfl)) (pgs_cons (pg_name (i := 3) nd rfl (.inl rfl)) pgs_nil))))
      (pss_cons (ps_if (pt_cmpR op_le (pv 1) (pe_wp p_lead hr (by decide) (pv 0)) (nomark _)) (pss_one (ps_ret (pe_callB cb_len rfl B.len (by decide +kernel) (pa_cons (pe_lc (own := [("place", 4)]) (g := gName 4) (by rfl) nd (pi_list (pv 2)) (blkOk_by (own := [("place", 4)]) (N := ["word", "width", "first", "again", "place", "spans", "rest"]) (sc := defScope s_count_ones) (by decide +kernel)) (fun _ _ _ _ _ => pg_name (i := 4) nd rfl (Or.inl rfl)) (fun _ _ _ _ _ => (pts_one (pt_cmpR op_lt (pv 4) (pv 1) (nomark _)))) (fun _ _ _ _ _ => (pv 4))) pa_nil)))) pss_nil)
      (pss_cons (ps_asg (pe_callB cb_divmod rfl B.divmod (by decide +kernel) (pa_cons (pe_op op_sub (pv 1) (pe_wp p_lead hr (by decide) (pv 0))) (pa_cons (pe_wp p_span hr (by decide) (pv 0)) pa_nil))) (pg_tup rfl (pgs_cons (pg_name (i := 5) nd rfl (.inl rfl)) (pgs_cons (pg_name (i := 6) nd rfl (.inr rfl)) pgs_nil))))
      (pss_one (ps_ret (pe_op op_add (pe_op op_add (pe_callB cb_len rfl B.len (by decide +kernel) (pa_cons (pv 2) pa_nil)) (pe_op op_mulO (pv 5) (pe_callB cb_len rfl B.len (by decide +kernel) (pa_cons (pv 3) pa_nil)))) (pe_callB cb_len rfl B.len (by decide +kernel) (pa_cons (pe_lc (own := [("place", 4)]) (g := gName 4) (by rfl) nd (pi_list (pv 3)) (blkOk_by (own := [("place", 4)]) (N := ["word", "width", "first", "again", "place", "spans", "rest"]) (sc := defScope s_count_ones) (by decide +kernel)) (fun _ _ _ _ _ => pg_name (i := 4) nd rfl (Or.inl rfl)) (fun _ _ _ _ _ => (pts_one (pt_cmpR op_lt (pv 4) (pe_op op_add (pe_wp p_lead hr (by decide) (pv 0)) (pv 6)) (nomark _)))) (fun _ _ _ _ _ => (pv 4))) pa_nil)))))))), ?_⟩
  walk_at "s0"
  have ow := Own.start H
  by_cases h0 : 0 ≤ n
  · walk_at "go"
    all_goals have s1 := ow.toSame_of
    all_goals have ea2 := s1 _ _ ea
    all_goals have ow := Own.start H'
    all_goals have lA := onesP_len b t 0 nL
    all_goals have lB := onesP_len b t nL nS
    · refine r_lc ?_
      walk_at "go"
      refine c_lcI (fun x => decide (x < n)) (fun x => x) ow (fun D acc H1 ow => ow.toSame.seq sA) (by omega) (fun v => rfl) (fun v D acc H' R Z hv ow p1 p2 => ?_) (fun D H' nD ow => ?_)
      · dsimp only [wipe, List.set_cons_zero, List.set_cons_succ]
        walk_at "go"
        · exact p1 (decide_eq_true hc)
        · exact p2 (decide_eq_false hc)
      have ef := onesP_lt b t 0 nL n.toNat (by omega)
      have en : ((0 : Nat) : Int) + n.toNat = n := by omega
      rw [en] at ef
      rw [map_id', ef] at ow
      walk_at "go"
      rw [List.length_map, sB_len]
      exact q1 h0 _ (s1.trans ow.toSame_of)
    · have sp := hS.pos
      have mr1 := Int.emod_nonneg (n - nL) (show (nS : Int) ≠ 0 by omega)
      have mr2 := Int.emod_lt_of_pos (n - nL) (show (0 : Int) < nS by omega)
      have c1 : IntMulOk ((n - nL) / nS) (((onesP b t nL nS).map V.int).length : Int) := mok_r (by rw [List.length_map]; omega) (by rw [List.length_map]; omega)
      walk_at "go"
      refine r_lc ?_
      walk_at "go"
      refine c_lcI (fun x => decide (x < nL + (n - nL) % nS)) (fun x => x) ow (fun D acc H1 ow => ow.toSame.seq sB2) (by omega) (fun v => rfl) (fun v D acc H' R Z hv ow p1 p2 => ?_) (fun D H' nD ow => ?_)
      · dsimp only [wipe, List.set_cons_zero, List.set_cons_succ]
        walk_at "go"
        · exact p1 (decide_eq_true hc)
        · exact p2 (decide_eq_false hc)
      have ef := onesP_lt b t nL nS ((n - nL) % nS).toNat (by omega)
      rw [Int.toNat_of_nonneg mr1] at ef
      rw [map_id', ef] at ow
      walk_at "go"
      have gr := sB_great ob pb fw.g hL hS (n := n) (by omega)
      rw [List.length_map, List.length_map, List.length_map, sB_len, sB_len, sB_len, ← gr]
      exact q1 h0 _ (s1.trans ow.toSame_of)
  · have h1 : n < 0 := by omega
    walk_at "go"
    exact q2 h1 dX H' (ow.new0 g0) ow.toSame_of (ow.get 0 rfl)
end

/-! the place of a one by its index -/
abbrev s_nth_one : Stmt := top 24
theorem sc_nth_one : FnScope ["word", "index", "first", "again", "spans", "rest"] ["word", "index"] (defScope s_nth_one) := ⟨rfl, rfl, rfl, by decide +kernel, rfl, by decide +kernel, by decide +kernel⟩
theorem atI_get {ns : List Int} {i v : Int} (h0 : 0 ≤ i) (e : ns[i.toNat]? = some v) : atI (ns.map V.int) i = some (.int v) := by
  have l := (List.getElem?_eq_some_iff.mp e).1
  unfold atI ixN
  rw [if_pos h0, List.length_map, if_pos (by omega)]
  show (ns.map V.int)[i.toNat]? = _
  rw [List.getElem?_map, e]
  rfl
theorem onesP_get (b t : Int) (s : Nat) : ∀ (m k : Nat), k < (onesP b t s m).length → ∃ j, j < m ∧ (onesP b t s m)[k]? = some ((s + j : Nat) : Int) ∧ hvs b (s + j) t % 2 = 1 ∧ sB b t s j = k
  | 0, k, h => by unfold onesP at h; simp at h
  | m + 1, k, h => by
    rw [onesP_app] at h ⊢
    by_cases z : k < (onesP b t s m).length
    · obtain ⟨j, hj, e, o, c⟩ := onesP_get b t s m k z
      exact ⟨j, by omega, by rw [List.getElem?_append_left z]; exact e, o, c⟩
    · rw [List.length_append] at h
      have l1 := sB_len b t s m
      by_cases o : hvs b (s + m) t % 2 = 1
      · have e1 : onesP b t (s + m) 1 = [((s + m : Nat) : Int)] := by unfold onesP; simp [o]
        rw [e1] at h ⊢
        have kk : k = (onesP b t s m).length := by simp at h; omega
        refine ⟨m, by omega, ?_, o, by omega⟩
        rw [List.getElem?_append_right (by omega), kk]; simp
      · have e1 : onesP b t (s + m) 1 = [] := by unfold onesP; simp [o]
        rw [e1] at h
        simp at h
        omega
theorem sB_mono (b t : Int) (s : Nat) {m n : Nat} (h : m ≤ n) : sB b t s m ≤ sB b t s n := by
  obtain ⟨d, rfl⟩ := Nat.exists_eq_add_of_le h
  rw [sB_app]
  have := sB_nn b t (s + m) d
  omega
section
variable {b t : Int} {L S : Nat}
theorem hvs_mul (ob : b % 2 = 1) (pb : 0 < b) (g : Int.gcd t b = 1) (hL : IsLead b t L) (hS : IsSpan b S) {i : Nat} (h : L ≤ i) : ∀ k : Nat, hvs b (i + k * S) t = hvs b i t
  | 0 => by simp
  | k + 1 => by rw [Nat.succ_mul, ← Nat.add_assoc, hvs_per ob pb g hL hS (by omega), hvs_mul ob pb g hL hS h k]
theorem sB_far (ob : b % 2 = 1) (pb : 0 < b) (g : Int.gcd t b = 1) (hL : IsLead b t L) (hS : IsSpan b S) (k r : Nat) : sB b t 0 (L + r + k * S) = sB b t 0 L + k * sB b t L S + sB b t L r := by
  rw [show L + r + k * S = L + (k * S + r) by omega, sB_app, Nat.zero_add, sB_mul ob pb g hL hS]
  omega
theorem sB_flat (ob : b % 2 = 1) (pb : 0 < b) (g : Int.gcd t b = 1) (hL : IsLead b t L) (hS : IsSpan b S) (z : sB b t L S = 0) (P : Nat) : sB b t 0 P ≤ sB b t 0 L := by
  by_cases h : P ≤ L
  · exact sB_mono b t 0 h
  · have gr := sB_great ob pb g hL hS (n := P) (by omega)
    rw [z, Int.mul_zero, Int.toNat_natCast] at gr
    have sp := hS.pos
    have m2 := Int.emod_lt_of_pos ((P : Int) - L) (show (0 : Int) < S by omega)
    have := sB_mono b t L (m := (((P : Int) - L) % S).toNat) (n := S) (by omega)
    omega
/-- what the place of a one with an index is: the place, or none -/
def NthV (b t i : Int) (v : V) : Prop := (∃ P : Nat, v = .int P ∧ hvs b P t % 2 = 1 ∧ sB b t 0 P = i) ∨ (v = .non ∧ ∀ P : Nat, sB b t 0 P ≤ i)
theorem nth_near {i : Int} (h0 : 0 ≤ i) (h : i < ((onesP b t 0 L).length : Int)) : ∃ x, (onesP b t 0 L)[i.toNat]? = some x ∧ NthV b t i (.int x) := by
  obtain ⟨j, hj, e, o, c⟩ := onesP_get b t 0 L i.toNat (by omega)
  rw [Nat.zero_add] at e o
  exact ⟨_, e, .inl ⟨j, rfl, o, by omega⟩⟩
theorem nth_far (ob : b % 2 = 1) (pb : 0 < b) (g : Int.gcd t b = 1) (hL : IsLead b t L) (hS : IsSpan b S) {i n1 n2 : Int} (e1 : n1 = ((onesP b t 0 L).length : Int)) (e2 : n2 = ((onesP b t L S).length : Int)) (h1 : n1 ≤ i) (h2 : 0 < n2) :
    ∃ x, (onesP b t L S)[((i - n1) % n2).toNat]? = some x ∧ NthV b t i (.int (x + (i - n1) / n2 * S)) := by
  have m1 := Int.emod_nonneg (i - n1) (show n2 ≠ 0 by omega)
  have m2 := Int.emod_lt_of_pos (i - n1) h2
  have m3 := Int.emod_add_mul_ediv (i - n1) n2
  have m4 := Int.ediv_nonneg (show 0 ≤ i - n1 by omega) (show 0 ≤ n2 by omega)
  obtain ⟨j, hj, e, o, c⟩ := onesP_get b t L S ((i - n1) % n2).toNat (by omega)
  obtain ⟨k, hk⟩ := Int.eq_ofNat_of_zero_le m4
  refine ⟨_, e, .inl ⟨L + j + k * S, ?_, ?_, ?_⟩⟩
  · rw [hk]; simp
  · rw [hvs_mul ob pb g hL hS (by omega)]; exact o
  · have l1 := sB_len b t 0 L
    have l2 := sB_len b t L S
    rw [sB_far ob pb g hL hS, c, ← l1, ← l2, ← e1, ← e2]
    rw [hk] at m3
    have : n2 * (k : Int) = k * n2 := Int.mul_comm _ _
    omega
end
/-! a list against the empty list -/
theorem dpa_ints {K : PySem.W.Frag} {H : Hp} : ∀ ns : List Int, DpAll K H (ns.map V.int) (ns.map PyData.int)
  | [] => .nil
  | n :: ns => .cons (.int n) (dpa_ints ns)
theorem lay_ints : ∀ ns : List Int, PyData.canLayAll0 (ns.map PyData.int) = true
  | [] => rfl
  | n :: ns => by
    show (PyData.canLay0 (.int n) && PyData.canLayAll0 (ns.map PyData.int)) = true
    rw [lay_ints ns]
    rfl
theorem dep_ints : ∀ ns : List Int, PyData.depthAll (ns.map PyData.int) = 0
  | [] => rfl
  | n :: ns => by
    show max (PyData.depth (.int n)) (PyData.depthAll (ns.map PyData.int)) = 0
    rw [dep_ints ns]
    rfl
theorem sh_ints (ns : List Int) : SeqAt.shaped (.list (ns.map PyData.int)) = true := by
  have h1 : PyData.canLay0 (.list (ns.map PyData.int)) = true := lay_ints ns
  have h2 : PyData.depth (.list (ns.map PyData.int)) ≤ 64 := by
    show PyData.depthAll (ns.map PyData.int) + 1 ≤ 64
    rw [dep_ints]
    decide
  unfold SeqAt.shaped
  rw [h1, decide_eq_true h2]
  rfl
theorem o_eqNil {K : PySem.W.Frag} {F H : Hp} {L : List (Addr × HO)} {a c : Addr} {ns : List Int} {i : Nat} {Q : VK} (h : Own F H L) (s : SqL K H a (ns.map V.int)) (e : L[i]? = some (c, .lst [])) (k : Q (.bl (decide (ns = []))) H) : rEqD K (.ref a) (.ref c) H Q := by
  refine ⟨.list (ns.map PyData.int), .list [], .lst s (dpa_ints ns), dp_lst (h.get i e) .nil, sh_ints ns, sh_ints [], ?_⟩
  have z : PyData.eqv (.list (ns.map PyData.int)) (.list []) = decide (ns = []) := by
    cases ns with
    | nil => simp [PyData.eqv, PyData.eqvAll]
    | cons n ns => simp [PyData.eqv, PyData.eqvAll]
  rw [z]
  exact k
def sp_nth (C I : Addr) : Sp := fun vs H Q E => ∃ (a dx : Addr) (t b i : Int), vs = [.ref a, .int i] ∧ H a = some (.ins C dx (wfl t b)) ∧ Wd t b ∧ Few t b ∧ (0 ≤ i → ∀ v H', NthV b t i v → Same H H' → Q v H') ∧
  (i < 0 → ∀ d H', H d = none → Same H H' → H' d = some (.xd [("value", .int i)]) → E (.ref I) (some d) H')
section
variable {F H : Hp} {L : List (Addr × HO)} {C I r d0 : Addr} {t b n : Int} {Q : VK} {E : XK}
theorem c_partsB {K : PySem.W.Frag} {a dx : Addr} (h : Own F H L) (e : H a = some (.ins C dx (wfl t b))) (wd : Wd t b) (pb : 0 < b) (ob : b % 2 = 1) (bd : ∀ L p, IsLead b t L → IsSpan b p → L + p ≤ 90000)
    (k : ∀ (N S : Nat) p p1 p2 H', IsLead b t N → IsSpan b S → N + S ≤ 90000 → SqT K H' p [.ref p1, .ref p2] → SqL K H' p1 ((onesP b t 0 N).map V.int) → SqL K H' p2 ((onesP b t N S).map V.int) → Same F H' → H' a = some (.ins C dx (wfl t b)) → Own H' H' [] → Q (.ref p) H') : sp_parts C K ([.ref a] ++ []) H Q E :=
  ⟨a, dx, t, b, rfl, e, wd, pb, ob, bd, fun N S p p1 p2 H' h1 h2 h3 s n n1 n2 e0 e1 e2 => k N S p p1 p2 H' h1 h2 h3 (SqT.of e0) (SqL.of e1) (SqL.of e2) (h.toSame_of.trans s) (s _ _ e) (Own.start H')⟩
theorem c_nthP (h : Own F H L) (e : H r = some (.ins C d0 (wfl t b))) (wd : Wd t b) (f : Few t b) (h0 : 0 ≤ n) (k : ∀ v H', NthV b t n v → Own F H' L → Q v H') : sp_nth C I ([.ref r, .int n] ++ []) H Q E :=
  ⟨r, d0, t, b, n, rfl, e, wd, f, fun _ v H' hv s => k v H' hv (h.same s), fun z => by omega⟩
theorem c_nthN (h : Own F H L) (e : H r = some (.ins C d0 (wfl t b))) (wd : Wd t b) (f : Few t b) (h0 : n < 0) (k : ∀ d H', Own F H' ((d, .xd [("value", .int n)]) :: L) → E (.ref I) (some d) H') : sp_nth C I ([.ref r, .int n] ++ []) H Q E :=
  ⟨r, d0, t, b, n, rfl, e, wd, f, fun z => by omega, fun _ d H' n' s e => k d H' (h.newS n' s e)⟩
end
set_option hygiene false in
local macro_rules | `(tactic| walk_at "r1") => `(tactic| first
  | ((with_reducible refine' Bs.c_partsB ?p1 ?p2 ?p3 ?p4 ?p5 ?p6 ?_); (case p1 => assumption); (case p2 => walk_at "hx"); (case p3 => assumption); (case p4 => assumption); (case p5 => assumption); (case p6 => assumption); intro nL nS pT pA pB H' hL hS bdd sT sA sB2 s1 ea2 ow)
  | ((with_reducible refine' Bs.o_eqNil ?p1 ?p2 ?p3 ?_); (case p1 => assumption); (case p2 => walk_at "hq"); (case p3 => walk_at "oi"))
  | ((with_reducible refine' Bs.c_nthP ?p1 ?p2 ?p3 ?p4 ?p5 ?_); (case p1 => assumption); (case p2 => walk_at "hx"); (case p3 => assumption); (case p4 => assumption); (case p5 => omega); intro vN H' hv ow)
  | ((with_reducible refine' Bs.c_nthN ?p1 ?p2 ?p3 ?p4 ?p5 ?_); (case p1 => assumption); (case p2 => walk_at "hx"); (case p3 => assumption); (case p4 => assumption); (case p5 => omega); intro dX H' ow))
section
variable {P : Program} {w : World} {K : PySem.W.Frag} {mg : Str → Option Value} {base : Heap} {C aInvalidIndex f : Addr} {fd : FuncData}
theorem ok_nth_one (F : FnP K "nth_one" "nth_one" s_nth_one f fd) (B : Bi mg) (x_InvalidIndex : Xc P w K mg base "InvalidIndex" aInvalidIndex) (c_ones_by_parts : Fo P w K mg base CX0 4 "ones_by_parts" ["word"] (sp_parts C K)) (p_span : PrC P w K mg base CX0 C "span" 2 (sp_pspan C)) : FnOk P w K mg base (L2.CX P w) 6 f fd ["word", "index"] (sp_nth C aInvalidIndex) := by
  refine F.ok sc_nth_one (fun vs H Q E h => by walk_at "len") (fun cdv A outer s H vs Q E hr h => ?_)
  have nd := sc_nth_one.nd
  obtain ⟨a, dx, t, b, i, rfl, ea, wd, fw, q1, q2⟩ := h
  have pb := fw.pb
  have ob := fw.ob
  have bd := fw.bd
  refine ⟨_, pss_cons (ps_if (pt_cmpR op_lt (pv 1) pe_int (nomark _)) (pss_one (ps_rx rfl (takes_of rfl rfl rfl rfl) x_InvalidIndex hr (by decide) (pa_cons (pv 1) pa_nil) (mo_cons mo_var mo_nil))) pss_nil)
      (pss_cons (ps_asg (pe_fo c_ones_by_parts hr (by decide) (pa_cons (pv 0) pa_nil)) (pg_tup rfl (pgs_cons (pg_name (i := 2) nd rfl (.inl rfl)) (pgs_cons (pg_name (i := 3) nd rfl (.inl rfl)) pgs_nil))))
      (pss_cons (ps_if (pt_cmpR op_lt (pv 1) (pe_callB cb_len rfl B.len (by decide +kernel) (pa_cons (pv 2) pa_nil)) (nomark _)) (pss_one (ps_ret (pe_ix ix_list (pv 2) (pv 1) (fun _ _ => rfl)))) pss_nil)
      (pss_cons (ps_if (pt_cmpR (op_eqD hr.units) (pv 3) (pe_lst pa_nil) (nomark _)) (pss_one (ps_ret pe_non)) pss_nil)
      (pss_cons (ps_asg (pe_callB cb_divmod rfl B.divmod (by decide +kernel) (pa_cons (pe_op op_sub (pv 1) (pe_callB cb_len rfl B.len (by decide +kernel) (pa_cons (pv 2) pa_nil))) (pa_cons (pe_callB cb_len rfl B.len (by decide +kernel) (pa_cons (pv 3) pa_nil)) pa_nil))) (pg_tup rfl (pgs_cons (pg_name (i := 4) nd rfl (.inl rfl)) (pgs_cons (pg_name (i := 5) nd rfl (.inl rfl)) pgs_nil))))
      (pss_one (ps_ret (pe_op op_add (pe_ix ix_list (pv 3) (pv 5) (fun _ _ => rfl)) (pe_op op_mulO (pv 4) (pe_wp p_span hr (by decide) (pv 0)))))))))), ?_⟩
  walk_at "s0"
  have ow := Own.start H
  by_cases h0 : 0 ≤ i
  · walk_at "go"
    · obtain ⟨x, hx, nv⟩ := nth_near (b := b) (t := t) (L := nL) h0 (by rw [List.length_map] at hc; omega)
      refine r_ixL sA (atI_get h0 hx) ?_
      walk_at "go"
      exact q1 h0 _ _ nv (s1.trans ow.toSame_of)
    · have z : sB b t nL nS = 0 := by rw [← sB_len, hc]; rfl
      have fl := sB_flat ob pb fw.g hL hS z
      have l1 := sB_len b t 0 nL
      refine q1 h0 _ _ (.inr ⟨rfl, fun P => ?_⟩) (s1.trans ow.toSame_of)
      have := fl P
      rename_i hc2
      rw [List.length_map] at hc2
      omega
    · have l2 : 0 < (List.map V.int (onesP b t nL nS)).length := by
        rw [List.length_map]
        exact List.length_pos_iff.mpr hc
      have l3 := onesP_len b t nL nS
      rw [← List.length_map (f := V.int)] at l3
      walk_at "go"
      obtain ⟨x, hx, nv⟩ := nth_far ob pb fw.g hL hS (i := i) (n1 := ((List.map V.int (onesP b t 0 nL)).length : Int)) (n2 := ((List.map V.int (onesP b t nL nS)).length : Int)) (by rw [List.length_map]) (by rw [List.length_map]) (by omega) (by omega)
      refine r_ixL (ow.toSame.seq sB2) (atI_get (Int.emod_nonneg _ (by omega)) hx) ?_
      walk_at "go"
      exact q1 h0 _ _ nv (s1.trans ow.toSame_of)
  · have h1 : i < 0 := by omega
    walk_at "go"
    exact q2 h1 dX H' (ow.new0 g0) ow.toSame_of (ow.get 0 rfl)
end

/-! words divided -/
abbrev s_Word___floordiv__ : Stmt := inClass (top 17) 14
theorem sc_Word___floordiv__ : FnScope ["self", "other", "twin"] ["self", "other"] (defScope s_Word___floordiv__) := ⟨rfl, rfl, rfl, by decide +kernel, rfl, by decide +kernel, by decide +kernel⟩
abbrev s_Word___rfloordiv__ : Stmt := inClass (top 17) 15
theorem sc_Word___rfloordiv__ : FnScope ["self", "other", "twin"] ["self", "other"] (defScope s_Word___rfloordiv__) := ⟨rfl, rfl, rfl, by decide +kernel, rfl, by decide +kernel, by decide +kernel⟩
/-! monotone readings -/
section
variable {K : PySem.W.Frag} {C I : Addr} {E : L2.St → XK} {ta tb : TE} {t : TA} {f : Str}
theorem mo_ixT (h : MoE ta) (g : MoE tb) : MoE (tOp (rIxT K) ta tb) := fun σ H Q Q' m q => h σ H _ _ (fun x H1 q1 => g σ H1 _ _ (fun y H2 ⟨p, xs, i, v, e1, e2, s, a, q2⟩ => ⟨p, xs, i, v, e1, e2, s, a, m v H2 q2⟩) q1) q
theorem mo_fld (h : MoE ta) : MoE (tFld K ta f) := fun σ H Q Q' m q => h σ H _ _ (fun x H1 ⟨a, C, dx, fs, v, e1, e2, e3, e4, e5, q⟩ => ⟨a, C, dx, fs, v, e1, e2, e3, e4, e5, m v H1 q⟩) q
theorem mo_init {vs : List V} {H : Hp} {Q Q' : VK} {E : XK} (m : ∀ v H, Q v H → Q' v H) (h : sp_Word_init C I vs H Q E) : sp_Word_init C I vs H Q' E := by
  obtain ⟨p, dx, t, b, e, hp, hb, k1, k2⟩ := h
  exact ⟨p, dx, t, b, e, hp, hb, fun w H' mu => m _ _ (k1 w H' mu), k2⟩
theorem mo_W2 (h : MoA t) : MoE (tW2 C I E t) := fun σ H Q Q' m q => h σ H _ _ (fun vs H1 ⟨l1, l2, k⟩ => ⟨l1, l2, fun x dx n1 n2 ne => mo_init (fun v H3 z => ⟨z.1, m _ _ z.2⟩) (k x dx n1 n2 ne)⟩) q
end
/-- a quotient, or the error of a divisor whose lowest bit is 0 -/
def sp_dv (C NO : Addr) (o p q N D : Int → Int → Int → Int → Int) : Sp := fun vs H Q E => ∃ (a dx : Addr) (t b : Int) (y : V) (u v : Int), vs = [.ref a, y] ∧ H a = some (.ins C dx (wfl t b)) ∧ Th C H y u v ∧ (t.natAbs < 2 ^ 3900 ∧ b.natAbs < 2 ^ 3900 ∧ u.natAbs < 2 ^ 3900 ∧ v.natAbs < 2 ^ 3900) ∧ b % 2 = 1 ∧ v % 2 = 1 ∧
  (o t b u v % 2 = 1 → ∀ p1 d H', H p1 = none → Same H H' → H' p1 = some (.ins C d (wfl (wT (N t b u v) (D t b u v)) (wB (N t b u v) (D t b u v)))) → Q (.ref p1) H') ∧
  (o t b u v % 2 = 0 → ∀ d p1 dW H', H d = none → H p1 = none → Same H H' → H' d = some (.xd [("value", .ref p1)]) → H' p1 = some (.ins C dW (wfl (wT (p t b u v) (q t b u v)) (wB (p t b u v) (q t b u v)))) → E (.ref NO) (some d) H')
abbrev sp_div (C NO : Addr) : Sp := sp_dv C NO (fun t b u v => u) (fun t b u v => u) (fun t b u v => v) (fun t b u v => t * v) (fun t b u v => b * u)
abbrev sp_rdiv (C NO : Addr) : Sp := sp_dv C NO (fun t b u v => t) (fun t b u v => t) (fun t b u v => b) (fun t b u v => u * b) (fun t b u v => v * t)
abbrev SF (P : Program) (w : World) (K : PySem.W.Frag) (mg : Str → Option Value) (base : Heap) (C NO : Addr) : Prop := OpS P w K mg base (L2.CX P w) C "floordiv" 6 (sp_div C NO) (sp_rdiv C NO)
theorem Own.newS2 {F H H' : Hp} {L : List (Addr × HO)} {p d : Addr} {o1 o2 : HO} (h : Own F H L) (n1 : H d = none) (n2 : H p = none) (s : Same H H') (e1 : H' d = some o1) (e2 : H' p = some o2) (ne : d ≠ p) : Own F H' ((d, o1) :: (p, o2) :: L) := by
  have h2 := h.newS n2 s e2
  refine ⟨h2.sub, fun i a u e => ?_, ?_⟩
  · cases i with
    | zero => simp at e; obtain ⟨rfl, rfl⟩ := e; exact ⟨e1, h.fresh n1⟩
    | succ i => exact h2.own i a u (by simpa using e)
  · rw [List.map_cons, List.nodup_cons]
    refine ⟨fun m => ?_, h2.nd⟩
    obtain ⟨⟨b, u⟩, hm, e⟩ := List.mem_map.mp m
    rcases List.mem_cons.mp hm with z | z
    · cases z; exact ne e.symm
    · obtain ⟨i, hi⟩ := List.getElem?_of_mem z
      have := (h.own i b u hi).1
      rw [show b = d from e, n1] at this
      cases this
section
variable {F H : Hp} {L : List (Addr × HO)} {C I NO r d0 : Addr} {t b u v : Int} {y : V} {Q : VK} {E : XK} {o p q N D : Int → Int → Int → Int → Int}
theorem c_dvO (h : Own F H L) (e : H r = some (.ins C d0 (wfl t b))) (th : Th C H y u v) (bd : t.natAbs < 2 ^ 3900 ∧ b.natAbs < 2 ^ 3900 ∧ u.natAbs < 2 ^ 3900 ∧ v.natAbs < 2 ^ 3900) (ob : b % 2 = 1) (ov : v % 2 = 1) (oo : o t b u v % 2 = 1)
    (k : ∀ p1 d H', H p1 = none → Own F H' ((p1, .ins C d (wfl (wT (N t b u v) (D t b u v)) (wB (N t b u v) (D t b u v)))) :: L) → Q (.ref p1) H') : sp_dv C NO o p q N D [.ref r, y] H Q E :=
  ⟨r, d0, t, b, y, u, v, rfl, e, th, bd, ob, ov, fun _ p1 d H' n s e' => k p1 d H' n (h.newS n s e'), fun z => by omega⟩
theorem c_dvE (h : Own F H L) (e : H r = some (.ins C d0 (wfl t b))) (th : Th C H y u v) (bd : t.natAbs < 2 ^ 3900 ∧ b.natAbs < 2 ^ 3900 ∧ u.natAbs < 2 ^ 3900 ∧ v.natAbs < 2 ^ 3900) (ob : b % 2 = 1) (ov : v % 2 = 1) (oo : o t b u v % 2 = 0)
    (k : ∀ d p1 dW H', Own F H' ((d, .xd [("value", .ref p1)]) :: (p1, .ins C dW (wfl (wT (p t b u v) (q t b u v)) (wB (p t b u v) (q t b u v)))) :: L) → E (.ref NO) (some d) H') : sp_dv C NO o p q N D [.ref r, y] H Q E :=
  ⟨r, d0, t, b, y, u, v, rfl, e, th, bd, ob, ov, fun z => by omega, fun _ d p1 dW H' n1 n2 s e1 e2 => k d p1 dW H' (h.newS2 n1 n2 s e1 e2 (fun z => by rw [z, e2] at e1; cases e1))⟩
end
section
variable {P : Program} {w : World} {K : PySem.W.Frag} {mg : Str → Option Value} {base : Heap} {C aInvalidWord aNotOdd f : Addr} {fd : FuncData}
theorem ok_Word___floordiv__ (F : FnP K "__floordiv__" "Word.__floordiv__" s_Word___floordiv__ f fd) (B : Bi mg) (c_fraction_of : Fo P w K mg base CX0 1 "fraction_of" ["thing"] (sp_frac C)) (x_NotOdd : Xc P w K mg base "NotOdd" aNotOdd) (c_Word : WordC P w K mg base C aInvalidWord) : FnOk P w K mg base (L2.CX P w) 6 f fd ["self", "other"] (sp_div C aNotOdd) := by
  refine F.ok sc_Word___floordiv__ (fun vs H Q E h => by walk_at "len") (fun cdv A outer s H vs Q E hr h => ?_)
  have nd := sc_Word___floordiv__.nd
  obtain ⟨a, dx, t, b, y, u, v, rfl, ea, th, ⟨b1, b2, b3, b4⟩, ob, ov, q1, q2⟩ := h
  have cl := c_Word.cl
  have nT := c_Word.nT
  have nB := c_Word.nB
  refine ⟨_, pss_cons (ps_set (i := 2) nd rfl (Or.inl rfl) (pe_fo c_fraction_of hr (by decide) (pa_cons (pv 1) pa_nil)))
      (pss_cons (ps_if (pt_cmpR op_isN (pv 2) pe_non (nomark _)) (pss_one ps_dead) pss_nil)
      (pss_cons (ps_if (pt_cmpR op_eq (pe_op op_mod (pe_ix ix_tup (pv 2) pe_int (fun _ _ => rfl)) pe_int) pe_int (nomark _)) (pss_one (ps_rx rfl (takes_of rfl rfl rfl rfl) x_NotOdd hr (by decide) (pa_cons (pe_W2 c_Word hr (by decide) (fun σ => passAt (takes_of rfl rfl rfl rfl) σ) (pa_cons (pe_ix ix_tup (pv 2) pe_int (fun _ _ => rfl)) (pa_cons (pe_ix ix_tup (pv 2) pe_int (fun _ _ => rfl)) pa_nil))) pa_nil) (mo_cons (mo_W2 (mo_cons (mo_ixT mo_var mo_c) (mo_cons (mo_ixT mo_var mo_c) mo_nil))) mo_nil))) pss_nil)
      (pss_one (ps_ret (pe_W2 c_Word hr (by decide) (fun σ => passAt (takes_of rfl rfl rfl rfl) σ) (pa_cons (pe_op op_mulO (pe_fld (pv 0) rfl) (pe_ix ix_tup (pv 2) pe_int (fun _ _ => rfl))) (pa_cons (pe_op op_mulO (pe_fld (pv 0) rfl) (pe_ix ix_tup (pv 2) pe_int (fun _ _ => rfl))) pa_nil))))))), ?_⟩
  walk_at "s0"
  have ow := Own.start H
  have wb1 : v.natAbs < 2 ^ 8000 := Nat.lt_of_lt_of_le b4 (Nat.pow_le_pow_right (by decide) (by decide))
  have wb2 : (b * u).natAbs < 2 ^ 8000 := Nat.lt_of_lt_of_le (mulW 3900 3900 b2 b3) (Nat.pow_le_pow_right (by decide) (by decide))
  have wok1 : wOk u v := ok_odd ov
  rcases Int.emod_two_eq u with ou | ou
  · walk_at "go"
    exact q2 ou dX pW _ H' (ow.new0 g0) (ow.new0 g1) ow.toSame_of (ow.get 0 rfl) (ow.get 1 rfl)
  · have wok2 : wOk (t * v) (b * u) := ok_odd (odd_mul ob ou)
    walk_at "go"
    exact q1 ou pW _ H' (ow.new0 g0) ow.toSame_of (ow.get 0 rfl)
theorem ok_Word___rfloordiv__ (F : FnP K "__rfloordiv__" "Word.__rfloordiv__" s_Word___rfloordiv__ f fd) (B : Bi mg) (c_fraction_of : Fo P w K mg base CX0 1 "fraction_of" ["thing"] (sp_frac C)) (x_NotOdd : Xc P w K mg base "NotOdd" aNotOdd) (c_Word : WordC P w K mg base C aInvalidWord) : FnOk P w K mg base (L2.CX P w) 6 f fd ["self", "other"] (sp_rdiv C aNotOdd) := by
  refine F.ok sc_Word___rfloordiv__ (fun vs H Q E h => by walk_at "len") (fun cdv A outer s H vs Q E hr h => ?_)
  have nd := sc_Word___rfloordiv__.nd
  obtain ⟨a, dx, t, b, y, u, v, rfl, ea, th, ⟨b1, b2, b3, b4⟩, ob, ov, q1, q2⟩ := h
  have cl := c_Word.cl
  have nT := c_Word.nT
  have nB := c_Word.nB
  refine ⟨_, pss_cons (ps_set (i := 2) nd rfl (Or.inl rfl) (pe_fo c_fraction_of hr (by decide) (pa_cons (pv 1) pa_nil)))
      (pss_cons (ps_if (pt_cmpR op_isN (pv 2) pe_non (nomark _)) (pss_one ps_dead) pss_nil)
      (pss_cons (ps_if (pt_cmpR op_eq (pe_op op_mod (pe_fld (pv 0) rfl) pe_int) pe_int (nomark _)) (pss_one (ps_rx rfl (takes_of rfl rfl rfl rfl) x_NotOdd hr (by decide) (pa_cons (pe_W2 c_Word hr (by decide) (fun σ => passAt (takes_of rfl rfl rfl rfl) σ) (pa_cons (pe_fld (pv 0) rfl) (pa_cons (pe_fld (pv 0) rfl) pa_nil))) pa_nil) (mo_cons (mo_W2 (mo_cons (mo_fld mo_var) (mo_cons (mo_fld mo_var) mo_nil))) mo_nil))) pss_nil)
      (pss_one (ps_ret (pe_W2 c_Word hr (by decide) (fun σ => passAt (takes_of rfl rfl rfl rfl) σ) (pa_cons (pe_op op_mulO (pe_ix ix_tup (pv 2) pe_int (fun _ _ => rfl)) (pe_fld (pv 0) rfl)) (pa_cons (pe_op op_mulO (pe_ix ix_tup (pv 2) pe_int (fun _ _ => rfl)) (pe_fld (pv 0) rfl)) pa_nil))))))), ?_⟩
  walk_at "s0"
  have ow := Own.start H
  have wb1 : b.natAbs < 2 ^ 8000 := Nat.lt_of_lt_of_le b2 (Nat.pow_le_pow_right (by decide) (by decide))
  have wb2 : (v * t).natAbs < 2 ^ 8000 := Nat.lt_of_lt_of_le (mulW 3900 3900 b4 b1) (Nat.pow_le_pow_right (by decide) (by decide))
  have wok1 : wOk t b := ok_odd ob
  rcases Int.emod_two_eq t with ot | ot
  · walk_at "go"
    exact q2 ot dX pW _ H' (ow.new0 g0) (ow.new0 g1) ow.toSame_of (ow.get 0 rfl) (ow.get 1 rfl)
  · have wok2 : wOk (u * b) (v * t) := ok_odd (odd_mul ov ot)
    walk_at "go"
    exact q1 ot pW _ H' (ow.new0 g0) ow.toSame_of (ow.get 0 rfl)
end
/-! quotients of fractions -/
section
variable {n m : Nat} {a b c d : Int}
theorem nm_dv (h : wOk a b) (g : wOk c d) : (wT a b * wB c d) * (b * c) = (a * d) * (wB a b * wT c d) := by
  have h1 := nm_cross (p := a) (q := b)
  have h2 := nm_cross (p := c) (q := d)
  grind
theorem ne_wT (hd : d ≠ 0) (o : wT c d % 2 = 1) : c ≠ 0 := fun z => by
  have h2 := nm_cross (p := c) (q := d)
  rw [z, Int.zero_mul] at h2
  rcases Int.mul_eq_zero.mp h2 with e | e
  · rw [z] at o; omega
  · exact hd e
theorem odd_wT (oc : c % 2 = 1) : wT c d % 2 = 1 := (odd_of_mul (a := wT c d) (b := wSh c d) (by rw [wT_mul]; exact oc)).1
theorem nm_q (h : wOk a b) (g : wOk c d) (o : wT c d % 2 = 1) : wT (wT a b * wB c d) (wB a b * wT c d) = wT (a * d) (b * c) ∧ wB (wT a b * wB c d) (wB a b * wT c d) = wB (a * d) (b * c) :=
  nm_eq (ok_odd (odd_mul (odd_nm h) o) (t := 0)).1 (Int.mul_ne_zero h.1 (ne_wT g.1 o)) (nm_dv h g)
theorem Bd.dv (h : Bd n a b) (g : Bd m c d) (o : wT c d % 2 = 1) : Bd (n + m) (a * d) (b * c) :=
  ⟨wOk_of (ok_odd (odd_mul (odd_nm h.ok) o)) (Int.mul_ne_zero h.ne (ne_wT g.ne o)) (nm_dv h.ok g.ok), mulW n m h.p1 g.q1, mulW n m h.q1 g.p1⟩
end
section
variable {F H : Hp} {L : List (Addr × HO)} {C NO r d0 : Addr} {a b c d : Int} {y : V} {Q : VK} {E : XK} {n m : Nat}
theorem c_divC (h : Own F H L) (e : H r = some (cw C d0 a b)) (th : Tn C H y c d) (b1 : Bd n a b) (b2 : Bd m c d) (hn : n ≤ 3900) (hm : m ≤ 3900) (o : wT c d % 2 = 1)
    (k : ∀ p dW H', H p = none → Own F H' ((p, cw C dW (a * d) (b * c)) :: L) → Bd (n + m) (a * d) (b * c) → Q (.ref p) H') : sp_div C NO [.ref r, y] H Q E := by
  have z := nm_q b1.ok b2.ok o
  refine c_dvO h e th.th ⟨(b1.w hn).1, (b1.w hn).2, (b2.w hm).1, (b2.w hm).2⟩ (odd_nm b1.ok) (odd_nm b2.ok) o fun p dW H' np ow => ?_
  rw [z.1, z.2] at ow
  exact k p dW H' np ow (b1.dv b2 o)
end

/-! signs that go bit by bit -/
abbrev s_repeated : Stmt := top 15
theorem sc_repeated : FnScope ["low", "lead", "again", "span", "bottom"] ["low", "lead", "again", "span"] (defScope s_repeated) := ⟨rfl, rfl, rfl, by decide +kernel, rfl, by decide +kernel, by decide +kernel⟩
abbrev s_bits_mixed : Stmt := top 16
theorem sc_bits_mixed : FnScope ["sign", "one", "other", "lead", "first", "second", "span", "left", "right", "both"] ["sign", "one", "other"] (defScope s_bits_mixed) := ⟨rfl, rfl, rfl, by decide +kernel, rfl, by decide +kernel, by decide +kernel⟩
abbrev s_Word___and__ : Stmt := inClass (top 17) 16
theorem sc_Word___and__ : FnScope ["self", "other", "twin", "top", "bottom"] ["self", "other"] (defScope s_Word___and__) := ⟨rfl, rfl, rfl, by decide +kernel, rfl, by decide +kernel, by decide +kernel⟩
abbrev s_Word___rand__ : Stmt := inClass (top 17) 17
theorem sc_Word___rand__ : FnScope ["self", "other", "twin", "top", "bottom"] ["self", "other"] (defScope s_Word___rand__) := ⟨rfl, rfl, rfl, by decide +kernel, rfl, by decide +kernel, by decide +kernel⟩
abbrev s_Word___or__ : Stmt := inClass (top 17) 18
theorem sc_Word___or__ : FnScope ["self", "other", "twin", "top", "bottom"] ["self", "other"] (defScope s_Word___or__) := ⟨rfl, rfl, rfl, by decide +kernel, rfl, by decide +kernel, by decide +kernel⟩
abbrev s_Word___ror__ : Stmt := inClass (top 17) 19
theorem sc_Word___ror__ : FnScope ["self", "other", "twin", "top", "bottom"] ["self", "other"] (defScope s_Word___ror__) := ⟨rfl, rfl, rfl, by decide +kernel, rfl, by decide +kernel, by decide +kernel⟩
abbrev s_Word___xor__ : Stmt := inClass (top 17) 20
theorem sc_Word___xor__ : FnScope ["self", "other", "twin", "top", "bottom"] ["self", "other"] (defScope s_Word___xor__) := ⟨rfl, rfl, rfl, by decide +kernel, rfl, by decide +kernel, by decide +kernel⟩
abbrev s_Word___rxor__ : Stmt := inClass (top 17) 21
theorem sc_Word___rxor__ : FnScope ["self", "other", "twin", "top", "bottom"] ["self", "other"] (defScope s_Word___rxor__) := ⟨rfl, rfl, rfl, by decide +kernel, rfl, by decide +kernel, by decide +kernel⟩
/-! plain -/
structure BitOp (s : Str) (o : Int → Int → Int) : Prop where
  h : (s = "&" ∧ o = Builtin.bitAnd) ∨ (s = "|" ∧ o = Builtin.bitOr) ∨ (s = "^" ∧ o = Builtin.bitXor)
theorem bo_and : BitOp "&" Builtin.bitAnd := ⟨.inl ⟨rfl, rfl⟩⟩
theorem bo_or : BitOp "|" Builtin.bitOr := ⟨.inr (.inl ⟨rfl, rfl⟩)⟩
theorem bo_xor : BitOp "^" Builtin.bitXor := ⟨.inr (.inr ⟨rfl, rfl⟩)⟩
theorem pow_nat (n : Nat) : ((2 ^ n : Nat) : Int) = 2 ^ n := by simp
theorem BitOp.bd {s : Str} {o : Int → Int → Int} (B : BitOp s o) {x y : Int} {n : Nat} (x0 : 0 ≤ x) (x1 : x < 2 ^ n) (y0 : 0 ≤ y) (y1 : y < 2 ^ n) : 0 ≤ o x y ∧ o x y < 2 ^ n := by
  have p := pow_nat n
  have a : x.toNat < 2 ^ n := by omega
  have b : y.toNat < 2 ^ n := by omega
  rcases B.h with ⟨_, rfl⟩ | ⟨_, rfl⟩ | ⟨_, rfl⟩
  · rw [bitAnd_pp x0 y0]
    have : x.toNat &&& y.toNat < 2 ^ n := Nat.and_lt_two_pow _ b
    omega
  · rw [Bits.bitOr_pp x0 y0]
    have : x.toNat ||| y.toNat < 2 ^ n := Nat.or_lt_two_pow a b
    omega
  · rw [Bits.bitXor_pp x0 y0]
    have : x.toNat ^^^ y.toNat < 2 ^ n := Nat.xor_lt_two_pow a b
    omega
theorem BitOp.comm {s : Str} {o : Int → Int → Int} (B : BitOp s o) (x y : Int) : o x y = o y x := by
  rcases B.h with ⟨_, rfl⟩ | ⟨_, rfl⟩ | ⟨_, rfl⟩
  · exact bitAnd_comm x y
  · exact bitOr_comm x y
  · show Builtin.bitOr x y - Builtin.bitAnd x y = Builtin.bitOr y x - Builtin.bitAnd y x
    rw [bitAnd_comm x y, bitOr_comm x y]
def mixZ (o : Int → Int → Int) (t b u v : Int) (N : Nat) : Int := o (lowS b N t) (lowS v N u)
def mixT (o : Int → Int → Int) (t b u v : Int) (L S : Nat) : Int := mixZ o t b u v (L + S) % 2 ^ L * (1 - 2 ^ S) + mixZ o t b u v (L + S) / 2 ^ L * 2 ^ L
theorem mix_comm {s : Str} {o : Int → Int → Int} (B : BitOp s o) (t b u v : Int) (L S : Nat) : mixT o t b u v L S = mixT o u v t b L S := by
  unfold mixT mixZ
  rw [B.comm]
theorem mixZ_bd {s : Str} {o : Int → Int → Int} (B : BitOp s o) (t b u v : Int) (N : Nat) : 0 ≤ mixZ o t b u v N ∧ mixZ o t b u v N < 2 ^ N :=
  B.bd (lowS_bd b N t).1 (lowS_bd b N t).2 (lowS_bd v N u).1 (lowS_bd v N u).2
theorem mixT_bd {s : Str} {o : Int → Int → Int} (B : BitOp s o) (t b u v : Int) (L S : Nat) : (mixT o t b u v L S).natAbs < 2 ^ (L + S) := by
  have h := mixZ_bd B t b u v (L + S)
  unfold mixT
  generalize mixZ o t b u v (L + S) = z at *
  have pL := two_pow_pos L
  have pS := two_pow_pos S
  have e : ((2 ^ (L + S) : Nat) : Int) = 2 ^ L * 2 ^ S := by rw [pow_nat, Int.pow_add]
  rw [Int.pow_add] at h
  have m1 := Int.emod_nonneg z (show (2 : Int) ^ L ≠ 0 by omega)
  have m2 := Int.emod_lt_of_pos z pL
  have m3 := Int.emod_add_mul_ediv z (2 ^ L)
  have m4 := Int.ediv_nonneg h.1 (Int.le_of_lt pL)
  generalize (2 : Int) ^ L = q at *
  generalize (2 : Int) ^ S = w at *
  have a1 := Int.mul_nonneg m1 (show 0 ≤ w - 1 by omega)
  have a2 := Int.mul_le_mul (show z % q ≤ q - 1 by omega) (Int.le_refl (w - 1)) (by omega) (by omega)
  have a3 := Int.mul_nonneg m4 (Int.le_of_lt pL)
  have e1 : z % q * (1 - w) = -(z % q * (w - 1)) := by grind
  have e2 : (q - 1) * (w - 1) = q * w - q - w + 1 := by grind
  have e3 : q * (z / q) = z / q * q := Int.mul_comm _ _
  rw [e1]
  omega
theorem bot_bd (S : Nat) : ((1 : Int) - 2 ^ S).natAbs < 2 ^ (S + 1) := by
  have p := two_pow_pos S
  have e := pow_nat S
  have e2 : 2 ^ (S + 1) = 2 ^ S * 2 := Nat.pow_succ 2 S
  omega
theorem bot_odd {S : Nat} (h : 1 ≤ S) : ((1 : Int) - 2 ^ S) % 2 = 1 := by
  obtain ⟨k, rfl⟩ := Nat.exists_eq_add_of_le h
  rw [Int.pow_add]
  omega
theorem lcm_pos {a b : Nat} (h : 1 ≤ a) (g : 1 ≤ b) : 1 ≤ Nat.lcm a b := Nat.lcm_pos h g
theorem lcm_int {a b : Nat} (h : 1 ≤ a) : ((a : Int) * b).fdiv (Int.gcd a b : Int) = (Nat.lcm a b : Int) := by
  rw [Int.fdiv_eq_ediv_of_nonneg _ (by omega)]
  rfl
/-- what the mixed bits ask -/
structure Mx (t b u v : Int) (L1 L2 S1 S2 : Nat) : Prop where
  p1 : 0 < b
  o1 : b % 2 = 1
  p2 : 0 < v
  o2 : v % 2 = 1
  l1 : IsLead b t L1
  l2 : IsLead v u L2
  s1 : IsSpan b S1
  s2 : IsSpan v S2
  w1 : Wd t b
  w2 : Wd u v
  le : max L1 L2 + Nat.lcm S1 S2 ≤ 6000
theorem Mx.swap {t b u v : Int} {L1 L2 S1 S2 : Nat} (h : Mx t b u v L1 L2 S1 S2) : Mx u v t b L2 L1 S2 S1 :=
  ⟨h.p2, h.o2, h.p1, h.o1, h.l2, h.l1, h.s2, h.s1, h.w2, h.w1, by rw [Nat.max_comm, Nat.lcm_comm]; exact h.le⟩
theorem Mx.ps {t b u v : Int} {L1 L2 S1 S2 : Nat} (h : Mx t b u v L1 L2 S1 S2) : 1 ≤ Nat.lcm S1 S2 := lcm_pos h.s1.pos h.s2.pos
def sp_rep (K : PySem.W.Frag) : Sp := fun vs H Q _ => ∃ (lo ag : Int) (L S : Nat), vs = [.int lo, .int L, .int ag, .int S] ∧ lo.natAbs < 2 ^ 6000 ∧ ag.natAbs < 2 ^ 6000 ∧ L ≤ 6000 ∧ S ≤ 6000 ∧ ∀ r H', H r = none → Same H H' → H' r = some (.tup [.int (lo * (1 - 2 ^ S) + ag * 2 ^ L), .int (1 - 2 ^ S)]) → Q (.ref r) H'
def sp_mixed (K : PySem.W.Frag) : Sp := fun vs H Q _ => ∃ (s : Str) (o : Int → Int → Int) (p1 p2 : Addr) (t b u v : Int) (L1 L2 S1 S2 : Nat), vs = [.str s, .ref p1, .ref p2] ∧ BitOp s o ∧ SqT K H p1 [.int t, .int b] ∧ SqT K H p2 [.int u, .int v] ∧ Mx t b u v L1 L2 S1 S2 ∧
  ∀ r H', H r = none → Same H H' → H' r = some (.tup [.int (mixT o t b u v (max L1 L2) (Nat.lcm S1 S2)), .int (1 - 2 ^ (Nat.lcm S1 S2))]) → Q (.ref r) H'
def sp_mx (C : Addr) (o : Int → Int → Int) : Sp := fun vs H Q _ => ∃ (a dx : Addr) (t b : Int) (y : V) (u v : Int) (L1 L2 S1 S2 : Nat), vs = [.ref a, y] ∧ H a = some (.ins C dx (wfl t b)) ∧ Th C H y u v ∧ Mx t b u v L1 L2 S1 S2 ∧
  ∀ p d H', H p = none → Same H H' → H' p = some (cw C d (mixT o t b u v (max L1 L2) (Nat.lcm S1 S2)) (1 - 2 ^ (Nat.lcm S1 S2))) → Q (.ref p) H'
section
variable {K : PySem.W.Frag} {F H : Hp} {L : List (Addr × HO)} {C r d0 p1 p2 : Addr} {t b u v : Int} {y : V} {Q : VK} {E : XK} {s : Str} {o : Int → Int → Int} {L1 L2 S1 S2 : Nat}
theorem i_sF {x z : Str} {A B : Prop} (h : x ≠ z) (k : B) : if decide (V.str x = V.str z) = true then A else B := by rw [if_neg]; exact k; intro e; cases of_decide_eq_true e; exact h rfl
theorem i_sT {x : Str} {A B : Prop} (k : A) : if decide (V.str x = V.str x) = true then A else B := by rw [if_pos (decide_eq_true rfl)]; exact k
theorem c_mixed (h : Own F H L) (B : BitOp s o) (q1 : SqT K H p1 [.int t, .int b]) (q2 : SqT K H p2 [.int u, .int v]) (m : Mx t b u v L1 L2 S1 S2)
    (k : ∀ r H', H r = none → Own F H' ((r, .tup [.int (mixT o t b u v (max L1 L2) (Nat.lcm S1 S2)), .int (1 - 2 ^ (Nat.lcm S1 S2))]) :: L) → Q (.ref r) H') : sp_mixed K ([.str s, .ref p1, .ref p2] ++ []) H Q E :=
  ⟨s, o, p1, p2, t, b, u, v, L1, L2, S1, S2, rfl, B, q1, q2, m, fun r H' n s e => k r H' n (h.newS n s e)⟩
theorem c_leadK (pb : 0 < b) (ob : b % 2 = 1) (hL : IsLead b t L1) (k : Q (.int L1) H) : sp_lead ([.int t, .int b] ++ []) H Q E := ⟨t, b, rfl, pb, ob, fun n h => by
  have : n = L1 := by
    rcases Nat.lt_trichotomy n L1 with z | z | z
    · exact absurd h.is (hL.no n z)
    · exact z
    · exact absurd hL.is (h.no L1 z)
  rw [this]; exact k⟩
theorem c_spanK (pb : 0 < b) (ob : b % 2 = 1) (hS : IsSpan b S1) (k : Q (.int S1) H) : sp_span ([.int b] ++ []) H Q E := ⟨b, rfl, pb, ob, fun n h => by
  have : n = S1 := by
    rcases Nat.lt_trichotomy n S1 with z | z | z
    · exact absurd h.dv (hS.no n h.pos z)
    · exact z
    · exact absurd hS.dv (h.no S1 hS.pos z)
  rw [this]; exact k⟩
theorem c_lowS {i : Int} {N : Nat} (h : Own F H L) (ob : b % 2 = 1) (wd : Wd t b) (e : i = N) (hi : N ≤ 1000000) (k : ∀ H', Own F H' L → Q (.int (lowS b N t)) H') : sp_lowof ([.int t, .int b, .int i] ++ []) H Q E := by
  subst e
  refine c_lowof h ob wd (by omega) (by omega) fun r H' ow l => ?_
  rw [Int.toNat_natCast] at l
  rw [low_is ob l]
  exact k H' ow
end
set_option hygiene false in
local macro_rules | `(tactic| walk_at "r1") => `(tactic| first
  | with_reducible refine Bs.i_sT ?_
  | ((with_reducible refine' Bs.i_sF ?p1 ?_); (case p1 => decide))
  | ((with_reducible refine' Bs.c_leadK ?p1 ?p2 ?p3 ?_); (case p1 => assumption); (case p2 => assumption); (case p3 => assumption))
  | ((with_reducible refine' Bs.c_spanK ?p1 ?p2 ?p3 ?_); (case p1 => assumption); (case p2 => assumption); (case p3 => assumption))
  | ((with_reducible refine' Bs.c_lowS ?p1 ?p2 ?p3 ?p4 ?p5 ?_); (case p1 => assumption); (case p2 => assumption); (case p3 => assumption); (case p4 => assumption); (case p5 => omega); intro H' ow)
  | ((with_reducible refine' Bs.c_mixed ?p1 ?p2 ?p3 ?p4 ?p5 ?_); (case p1 => assumption); (case p2 => assumption); (case p3 => walk_at "hq"); (case p4 => walk_at "hq"); (case p5 => assumption); intro pT H' np ow))
section
variable {P : Program} {w : World} {K : PySem.W.Frag} {mg : Str → Option Value} {base : Heap} {C aInvalidWord f : Addr} {fd : FuncData}
theorem ok_repeated (F : FnP K "repeated" "repeated" s_repeated f fd) (B : Bi mg)  : FnOk P w K mg base CX0 1 f fd ["low", "lead", "again", "span"] (sp_rep K) := by
  refine F.ok sc_repeated (fun vs H Q E h => by walk_at "len") (fun cdv A outer s H vs Q E hr h => ?_)
  have nd := sc_repeated.nd
  obtain ⟨lo, ag, L, S, rfl, b1, b2, hL, hS, q⟩ := h
  refine ⟨_, PSs.nox (pss_cons (ps_set (i := 4) nd rfl (Or.inl rfl) (pe_op op_sub pe_int (pe_op op_shlW pe_int (pv 3))))
      (pss_one (ps_ret (pe_tup (pa_cons (pe_op op_add (pe_op op_mulO (pv 0) (pv 4)) (pe_op op_shlW (pv 2) (pv 1))) (pa_cons (pv 4) pa_nil)))))), ?_⟩
  walk_at "s0"
  have ow := Own.start H
  have bb := bot_bd S
  have c1 : IntMulOk lo (1 - 1 * 2 ^ ((S : Int)).toNat) := by
    rw [Int.toNat_natCast, Int.one_mul]
    exact mok_w 6000 (S + 1) b1 bb (by omega)
  have c2 : CShl ag (L : Int) := cshl 6000 (by omega) b2 (by omega)
  walk_at "go"
  rw [Int.toNat_natCast, Int.toNat_natCast, Int.one_mul] at ow
  exact q pT H' (ow.new0 g0) ow.toSame_of (ow.get 0 rfl)
theorem ok_bits_mixed (F : FnP K "bits_mixed" "bits_mixed" s_bits_mixed f fd) (B : Bi mg) (c_lead_of : Fo P w K mg base CX0 1 "lead_of" ["top", "bottom"] (sp_lead)) (c_span_of : Fo P w K mg base CX0 1 "span_of" ["bottom"] (sp_span)) (c_common_part : Fo P w K mg base CX0 1 "common_part" ["one", "other"] (sp_common_part)) (c_low_of : Fo P w K mg base CX0 2 "low_of" ["top", "bottom", "width"] (sp_lowof)) (c_repeated : Fo P w K mg base CX0 1 "repeated" ["low", "lead", "again", "span"] (sp_rep K)) : FnOk P w K mg base CX0 3 f fd ["sign", "one", "other"] (sp_mixed K) := by
  refine F.ok sc_bits_mixed (fun vs H Q E h => by walk_at "len") (fun cdv A outer s H vs Q E hr h => ?_)
  have nd := sc_bits_mixed.nd
  obtain ⟨s, o, p1, p2, t, b, u, v, L1, L2, S1, S2, rfl, bo, s1, s2, m, q⟩ := h
  refine ⟨_, PSs.nox (pss_cons (ps_set (i := 3) nd rfl (Or.inl rfl) (pe_callB (cb_max2 rfl) rfl B.max (by decide +kernel) (pa_cons (pe_fo c_lead_of hr (by decide) (pa_cons (pe_ix ix_tup (pv 1) pe_int (fun _ _ => rfl)) (pa_cons (pe_ix ix_tup (pv 1) pe_int (fun _ _ => rfl)) pa_nil))) (pa_cons (pe_fo c_lead_of hr (by decide) (pa_cons (pe_ix ix_tup (pv 2) pe_int (fun _ _ => rfl)) (pa_cons (pe_ix ix_tup (pv 2) pe_int (fun _ _ => rfl)) pa_nil))) pa_nil))))
      (pss_cons (ps_par (i := 4) (j := 5) rfl nd rfl rfl (by decide) rfl rfl (pa_cons (pe_fo c_span_of hr (by decide) (pa_cons (pe_ix ix_tup (pv 1) pe_int (fun _ _ => rfl)) pa_nil)) (pa_cons (pe_fo c_span_of hr (by decide) (pa_cons (pe_ix ix_tup (pv 2) pe_int (fun _ _ => rfl)) pa_nil)) pa_nil)) rfl)
      (pss_cons (ps_set (i := 6) nd rfl (Or.inl rfl) (pe_op op_fdivF (pe_op op_mulO (pv 4) (pv 5)) (pe_fo c_common_part hr (by decide) (pa_cons (pv 4) (pa_cons (pv 5) pa_nil)))))
      (pss_cons (ps_par (i := 7) (j := 8) rfl nd rfl rfl (by decide) rfl rfl (pa_cons (pe_fo c_low_of hr (by decide) (pa_cons (pe_ix ix_tup (pv 1) pe_int (fun _ _ => rfl)) (pa_cons (pe_ix ix_tup (pv 1) pe_int (fun _ _ => rfl)) (pa_cons (pe_op op_add (pv 3) (pv 6)) pa_nil)))) (pa_cons (pe_fo c_low_of hr (by decide) (pa_cons (pe_ix ix_tup (pv 2) pe_int (fun _ _ => rfl)) (pa_cons (pe_ix ix_tup (pv 2) pe_int (fun _ _ => rfl)) (pa_cons (pe_op op_add (pv 3) (pv 6)) pa_nil)))) pa_nil)) rfl)
      (pss_cons (ps_set (i := 9) nd rfl (Or.inl rfl) (pe_op op_and (pv 7) (pv 8)))
      (pss_cons (ps_if (pt_cmpR op_eq (pv 0) pe_str (nomark _)) (pss_one (ps_set (i := 9) nd rfl (Or.inl rfl) (pe_op op_or (pv 7) (pv 8)))) pss_nil)
      (pss_cons (ps_if (pt_cmpR op_eq (pv 0) pe_str (nomark _)) (pss_one (ps_set (i := 9) nd rfl (Or.inl rfl) (pe_op op_xor (pv 7) (pv 8)))) pss_nil)
      (pss_one (ps_ret (pe_fo c_repeated hr (by decide) (pa_cons (pe_op op_and (pv 9) (pe_op op_sub (pe_op op_shlW pe_int (pv 3)) pe_int)) (pa_cons (pv 3) (pa_cons (pe_op op_shr (pv 9) (pv 3)) (pa_cons (pv 6) pa_nil)))))))))))))), ?_⟩
  walk_at "s0"
  have ow := Own.start H
  have p1 := m.p1
  have o1 := m.o1
  have p2 := m.p2
  have o2 := m.o2
  have l1 := m.l1
  have l2 := m.l2
  have g1 := m.s1
  have g2 := m.s2
  have w1 := m.w1
  have w2 := m.w2
  have le := m.le
  have eS := lcm_int (b := S2) g1.pos
  have eL : max (L1 : Int) L2 = ((max L1 L2 : Nat) : Int) := by omega
  have gp : (Int.gcd (S1 : Int) S2 : Int) ≠ 0 := by
    have : 0 < Int.gcd (S1 : Int) S2 := Int.gcd_pos_of_ne_zero_left _ (by have := g1.pos; omega)
    omega
  have ps := m.ps
  generalize hL : max L1 L2 = L at *
  generalize hS : Nat.lcm S1 S2 = S at *
  have eN : max (L1 : Int) L2 + ((S1 : Int) * S2).fdiv (Int.gcd (S1 : Int) S2 : Int) = ((L + S : Nat) : Int) := by omega
  have i1 : S1 ≤ S := by rw [← hS]; exact Nat.le_of_dvd (by rw [hS]; exact ps) (Nat.dvd_lcm_left _ _)
  have c0 : IntMulOk (S1 : Int) S2 := mok_l (by omega) (by omega)
  have gl : Int.gcd (S1 : Int) S2 ≤ S1 := Nat.gcd_le_left _ g1.pos
  have cf : CFd ((S1 : Int) * S2) (Int.gcd (S1 : Int) S2 : Int) := cfd 20 gp (by omega) (by decide) (by decide)
  have fin : ∀ H1, Same H H1 → sp_rep K ([.int (mixZ o t b u v (L + S) % 2 ^ L), .int L, .int (mixZ o t b u v (L + S) / 2 ^ L), .int S] ++ []) H1 Q E := by
    intro H1 sm
    have bd := mixZ_bd bo t b u v (L + S)
    have p := pow_nat (L + S)
    have d0 := Int.ediv_nonneg bd.1 (Int.le_of_lt (two_pow_pos L))
    have d1 := Int.ediv_le_self ((2 : Int) ^ L) bd.1
    refine ⟨_, _, L, S, rfl, Nat.lt_of_lt_of_le abs_emod (Nat.pow_le_pow_right (by decide) (by omega)), Nat.lt_of_lt_of_le (show (mixZ o t b u v (L + S) / 2 ^ L).natAbs < 2 ^ (L + S) by omega) (Nat.pow_le_pow_right (by decide) (by omega)), by omega, by omega, fun r H2 n s2 e => q r H2 (sm.free n) (sm.trans s2) e⟩
  rcases bo.h with ⟨rfl, rfl⟩ | ⟨rfl, rfl⟩ | ⟨rfl, rfl⟩
  all_goals walk_at "go"
  all_goals simp only [eS, eL, Int.toNat_natCast, Int.one_mul, bandK]
  all_goals exact fin _ ow.toSame_of
theorem ok_Word___and__ (F : FnP K "__and__" "Word.__and__" s_Word___and__ f fd) (B : Bi mg) (c_fraction_of : Fo P w K mg base CX0 1 "fraction_of" ["thing"] (sp_frac C)) (c_bits_mixed : Fo P w K mg base CX0 3 "bits_mixed" ["sign", "one", "other"] (sp_mixed K)) (c_Word : WordC P w K mg base C aInvalidWord) : FnOk P w K mg base CX0 6 f fd ["self", "other"] (sp_mx C Builtin.bitAnd) := by
  refine F.ok sc_Word___and__ (fun vs H Q E h => by walk_at "len") (fun cdv A outer s H vs Q E hr h => ?_)
  have nd := sc_Word___and__.nd
  obtain ⟨a, dx, t, b, y, u, v, La, Lb, S1, S2, rfl, ea, th, m, q⟩ := h
  have cl := c_Word.cl
  have nT := c_Word.nT
  have nB := c_Word.nB
  refine ⟨_, PSs.nox (pss_cons (ps_set (i := 2) nd rfl (Or.inl rfl) (pe_fo c_fraction_of hr (by decide) (pa_cons (pv 1) pa_nil)))
      (pss_cons (ps_if (pt_cmpR op_isN (pv 2) pe_non (nomark _)) (pss_one ps_dead) pss_nil)
      (pss_cons (ps_asg (pe_fo c_bits_mixed hr (by decide) (pa_cons pe_str (pa_cons (pe_tup (pa_cons (pe_fld (pv 0) rfl) (pa_cons (pe_fld (pv 0) rfl) pa_nil))) (pa_cons (pv 2) pa_nil)))) (pg_tup rfl (pgs_cons (pg_name (i := 3) nd rfl (.inl rfl)) (pgs_cons (pg_name (i := 4) nd rfl (.inl rfl)) pgs_nil))))
      (pss_one (ps_ret (pe_W2 c_Word hr (by decide) (fun _ => psL0) (pa_cons (pv 3) (pa_cons (pv 4) pa_nil)))))))), ?_⟩
  walk_at "s0"
  have ow := Own.start H
  have bo := bo_and
  have od := bot_odd m.ps
  have bb := Nat.lt_of_lt_of_le (bot_bd (Nat.lcm S1 S2)) (Nat.pow_le_pow_right (show 0 < 2 by decide) (show Nat.lcm S1 S2 + 1 ≤ 8000 by have := m.le; omega))
  walk_at "go"
  exact q pW _ H' (ow.new0 g0) ow.toSame_of (ow.get 0 rfl)
theorem ok_Word___rand__ (F : FnP K "__rand__" "Word.__rand__" s_Word___rand__ f fd) (B : Bi mg) (c_fraction_of : Fo P w K mg base CX0 1 "fraction_of" ["thing"] (sp_frac C)) (c_bits_mixed : Fo P w K mg base CX0 3 "bits_mixed" ["sign", "one", "other"] (sp_mixed K)) (c_Word : WordC P w K mg base C aInvalidWord) : FnOk P w K mg base CX0 6 f fd ["self", "other"] (sp_mx C Builtin.bitAnd) := by
  refine F.ok sc_Word___rand__ (fun vs H Q E h => by walk_at "len") (fun cdv A outer s H vs Q E hr h => ?_)
  have nd := sc_Word___rand__.nd
  obtain ⟨a, dx, t, b, y, u, v, La, Lb, S1, S2, rfl, ea, th, m0, q⟩ := h
  have cl := c_Word.cl
  have nT := c_Word.nT
  have nB := c_Word.nB
  refine ⟨_, PSs.nox (pss_cons (ps_set (i := 2) nd rfl (Or.inl rfl) (pe_fo c_fraction_of hr (by decide) (pa_cons (pv 1) pa_nil)))
      (pss_cons (ps_if (pt_cmpR op_isN (pv 2) pe_non (nomark _)) (pss_one ps_dead) pss_nil)
      (pss_cons (ps_asg (pe_fo c_bits_mixed hr (by decide) (pa_cons pe_str (pa_cons (pv 2) (pa_cons (pe_tup (pa_cons (pe_fld (pv 0) rfl) (pa_cons (pe_fld (pv 0) rfl) pa_nil))) pa_nil)))) (pg_tup rfl (pgs_cons (pg_name (i := 3) nd rfl (.inl rfl)) (pgs_cons (pg_name (i := 4) nd rfl (.inl rfl)) pgs_nil))))
      (pss_one (ps_ret (pe_W2 c_Word hr (by decide) (fun _ => psL0) (pa_cons (pv 3) (pa_cons (pv 4) pa_nil)))))))), ?_⟩
  walk_at "s0"
  have ow := Own.start H
  have bo := bo_and
  have m := m0.swap
  have od := bot_odd m.ps
  have bb := Nat.lt_of_lt_of_le (bot_bd (Nat.lcm S2 S1)) (Nat.pow_le_pow_right (show 0 < 2 by decide) (show Nat.lcm S2 S1 + 1 ≤ 8000 by have := m.le; omega))
  clear m0
  walk_at "go"
  rw [mix_comm bo u v t b, Nat.max_comm Lb La, Nat.lcm_comm S2 S1] at ow
  exact q pW _ H' (ow.new0 g0) ow.toSame_of (ow.get 0 rfl)
theorem ok_Word___or__ (F : FnP K "__or__" "Word.__or__" s_Word___or__ f fd) (B : Bi mg) (c_fraction_of : Fo P w K mg base CX0 1 "fraction_of" ["thing"] (sp_frac C)) (c_bits_mixed : Fo P w K mg base CX0 3 "bits_mixed" ["sign", "one", "other"] (sp_mixed K)) (c_Word : WordC P w K mg base C aInvalidWord) : FnOk P w K mg base CX0 6 f fd ["self", "other"] (sp_mx C Builtin.bitOr) := by
  refine F.ok sc_Word___or__ (fun vs H Q E h => by walk_at "len") (fun cdv A outer s H vs Q E hr h => ?_)
  have nd := sc_Word___or__.nd
  obtain ⟨a, dx, t, b, y, u, v, La, Lb, S1, S2, rfl, ea, th, m, q⟩ := h
  have cl := c_Word.cl
  have nT := c_Word.nT
  have nB := c_Word.nB
  refine ⟨_, PSs.nox (pss_cons (ps_set (i := 2) nd rfl (Or.inl rfl) (pe_fo c_fraction_of hr (by decide) (pa_cons (pv 1) pa_nil)))
      (pss_cons (ps_if (pt_cmpR op_isN (pv 2) pe_non (nomark _)) (pss_one ps_dead) pss_nil)
      (pss_cons (ps_asg (pe_fo c_bits_mixed hr (by decide) (pa_cons pe_str (pa_cons (pe_tup (pa_cons (pe_fld (pv 0) rfl) (pa_cons (pe_fld (pv 0) rfl) pa_nil))) (pa_cons (pv 2) pa_nil)))) (pg_tup rfl (pgs_cons (pg_name (i := 3) nd rfl (.inl rfl)) (pgs_cons (pg_name (i := 4) nd rfl (.inl rfl)) pgs_nil))))
      (pss_one (ps_ret (pe_W2 c_Word hr (by decide) (fun _ => psL0) (pa_cons (pv 3) (pa_cons (pv 4) pa_nil)))))))), ?_⟩
  walk_at "s0"
  have ow := Own.start H
  have bo := bo_or
  have od := bot_odd m.ps
  have bb := Nat.lt_of_lt_of_le (bot_bd (Nat.lcm S1 S2)) (Nat.pow_le_pow_right (show 0 < 2 by decide) (show Nat.lcm S1 S2 + 1 ≤ 8000 by have := m.le; omega))
  walk_at "go"
  exact q pW _ H' (ow.new0 g0) ow.toSame_of (ow.get 0 rfl)
theorem ok_Word___ror__ (F : FnP K "__ror__" "Word.__ror__" s_Word___ror__ f fd) (B : Bi mg) (c_fraction_of : Fo P w K mg base CX0 1 "fraction_of" ["thing"] (sp_frac C)) (c_bits_mixed : Fo P w K mg base CX0 3 "bits_mixed" ["sign", "one", "other"] (sp_mixed K)) (c_Word : WordC P w K mg base C aInvalidWord) : FnOk P w K mg base CX0 6 f fd ["self", "other"] (sp_mx C Builtin.bitOr) := by
  refine F.ok sc_Word___ror__ (fun vs H Q E h => by walk_at "len") (fun cdv A outer s H vs Q E hr h => ?_)
  have nd := sc_Word___ror__.nd
  obtain ⟨a, dx, t, b, y, u, v, La, Lb, S1, S2, rfl, ea, th, m0, q⟩ := h
  have cl := c_Word.cl
  have nT := c_Word.nT
  have nB := c_Word.nB
  refine ⟨_, PSs.nox (pss_cons (ps_set (i := 2) nd rfl (Or.inl rfl) (pe_fo c_fraction_of hr (by decide) (pa_cons (pv 1) pa_nil)))
      (pss_cons (ps_if (pt_cmpR op_isN (pv 2) pe_non (nomark _)) (pss_one ps_dead) pss_nil)
      (pss_cons (ps_asg (pe_fo c_bits_mixed hr (by decide) (pa_cons pe_str (pa_cons (pv 2) (pa_cons (pe_tup (pa_cons (pe_fld (pv 0) rfl) (pa_cons (pe_fld (pv 0) rfl) pa_nil))) pa_nil)))) (pg_tup rfl (pgs_cons (pg_name (i := 3) nd rfl (.inl rfl)) (pgs_cons (pg_name (i := 4) nd rfl (.inl rfl)) pgs_nil))))
      (pss_one (ps_ret (pe_W2 c_Word hr (by decide) (fun _ => psL0) (pa_cons (pv 3) (pa_cons (pv 4) pa_nil)))))))), ?_⟩
  walk_at "s0"
  have ow := Own.start H
  have bo := bo_or
  have m := m0.swap
  have od := bot_odd m.ps
  have bb := Nat.lt_of_lt_of_le (bot_bd (Nat.lcm S2 S1)) (Nat.pow_le_pow_right (show 0 < 2 by decide) (show Nat.lcm S2 S1 + 1 ≤ 8000 by have := m.le; omega))
  clear m0
  walk_at "go"
  rw [mix_comm bo u v t b, Nat.max_comm Lb La, Nat.lcm_comm S2 S1] at ow
  exact q pW _ H' (ow.new0 g0) ow.toSame_of (ow.get 0 rfl)
theorem ok_Word___xor__ (F : FnP K "__xor__" "Word.__xor__" s_Word___xor__ f fd) (B : Bi mg) (c_fraction_of : Fo P w K mg base CX0 1 "fraction_of" ["thing"] (sp_frac C)) (c_bits_mixed : Fo P w K mg base CX0 3 "bits_mixed" ["sign", "one", "other"] (sp_mixed K)) (c_Word : WordC P w K mg base C aInvalidWord) : FnOk P w K mg base CX0 6 f fd ["self", "other"] (sp_mx C Builtin.bitXor) := by
  refine F.ok sc_Word___xor__ (fun vs H Q E h => by walk_at "len") (fun cdv A outer s H vs Q E hr h => ?_)
  have nd := sc_Word___xor__.nd
  obtain ⟨a, dx, t, b, y, u, v, La, Lb, S1, S2, rfl, ea, th, m, q⟩ := h
  have cl := c_Word.cl
  have nT := c_Word.nT
  have nB := c_Word.nB
  refine ⟨_, PSs.nox (pss_cons (ps_set (i := 2) nd rfl (Or.inl rfl) (pe_fo c_fraction_of hr (by decide) (pa_cons (pv 1) pa_nil)))
      (pss_cons (ps_if (pt_cmpR op_isN (pv 2) pe_non (nomark _)) (pss_one ps_dead) pss_nil)
      (pss_cons (ps_asg (pe_fo c_bits_mixed hr (by decide) (pa_cons pe_str (pa_cons (pe_tup (pa_cons (pe_fld (pv 0) rfl) (pa_cons (pe_fld (pv 0) rfl) pa_nil))) (pa_cons (pv 2) pa_nil)))) (pg_tup rfl (pgs_cons (pg_name (i := 3) nd rfl (.inl rfl)) (pgs_cons (pg_name (i := 4) nd rfl (.inl rfl)) pgs_nil))))
      (pss_one (ps_ret (pe_W2 c_Word hr (by decide) (fun _ => psL0) (pa_cons (pv 3) (pa_cons (pv 4) pa_nil)))))))), ?_⟩
  walk_at "s0"
  have ow := Own.start H
  have bo := bo_xor
  have od := bot_odd m.ps
  have bb := Nat.lt_of_lt_of_le (bot_bd (Nat.lcm S1 S2)) (Nat.pow_le_pow_right (show 0 < 2 by decide) (show Nat.lcm S1 S2 + 1 ≤ 8000 by have := m.le; omega))
  walk_at "go"
  exact q pW _ H' (ow.new0 g0) ow.toSame_of (ow.get 0 rfl)
theorem ok_Word___rxor__ (F : FnP K "__rxor__" "Word.__rxor__" s_Word___rxor__ f fd) (B : Bi mg) (c_fraction_of : Fo P w K mg base CX0 1 "fraction_of" ["thing"] (sp_frac C)) (c_bits_mixed : Fo P w K mg base CX0 3 "bits_mixed" ["sign", "one", "other"] (sp_mixed K)) (c_Word : WordC P w K mg base C aInvalidWord) : FnOk P w K mg base CX0 6 f fd ["self", "other"] (sp_mx C Builtin.bitXor) := by
  refine F.ok sc_Word___rxor__ (fun vs H Q E h => by walk_at "len") (fun cdv A outer s H vs Q E hr h => ?_)
  have nd := sc_Word___rxor__.nd
  obtain ⟨a, dx, t, b, y, u, v, La, Lb, S1, S2, rfl, ea, th, m0, q⟩ := h
  have cl := c_Word.cl
  have nT := c_Word.nT
  have nB := c_Word.nB
  refine ⟨_, PSs.nox (pss_cons (ps_set (i := 2) nd rfl (Or.inl rfl) (pe_fo c_fraction_of hr (by decide) (pa_cons (pv 1) pa_nil)))
      (pss_cons (ps_if (pt_cmpR op_isN (pv 2) pe_non (nomark _)) (pss_one ps_dead) pss_nil)
      (pss_cons (ps_asg (pe_fo c_bits_mixed hr (by decide) (pa_cons pe_str (pa_cons (pv 2) (pa_cons (pe_tup (pa_cons (pe_fld (pv 0) rfl) (pa_cons (pe_fld (pv 0) rfl) pa_nil))) pa_nil)))) (pg_tup rfl (pgs_cons (pg_name (i := 3) nd rfl (.inl rfl)) (pgs_cons (pg_name (i := 4) nd rfl (.inl rfl)) pgs_nil))))
      (pss_one (ps_ret (pe_W2 c_Word hr (by decide) (fun _ => psL0) (pa_cons (pv 3) (pa_cons (pv 4) pa_nil)))))))), ?_⟩
  walk_at "s0"
  have ow := Own.start H
  have bo := bo_xor
  have m := m0.swap
  have od := bot_odd m.ps
  have bb := Nat.lt_of_lt_of_le (bot_bd (Nat.lcm S2 S1)) (Nat.pow_le_pow_right (show 0 < 2 by decide) (show Nat.lcm S2 S1 + 1 ≤ 8000 by have := m.le; omega))
  clear m0
  walk_at "go"
  rw [mix_comm bo u v t b, Nat.max_comm Lb La, Nat.lcm_comm S2 S1] at ow
  exact q pW _ H' (ow.new0 g0) ow.toSame_of (ow.get 0 rfl)
end
abbrev SMx (P : Program) (w : World) (K : PySem.W.Frag) (mg : Str → Option Value) (base : Heap) (C : Addr) (nm : String) (o : Int → Int → Int) : Prop := OpS P w K mg base CX0 C nm 6 (sp_mx C o) (sp_mx C o)

/-! calls of the signs that go bit by bit -/
/-- a bound of a word's span -/
def SpB (p q : Int) (s : Nat) : Prop := ∀ S, IsSpan (wB p q) S → S ≤ s
theorem spb_le {p q : Int} {s : Nat} (h : wOk p q) (hq : q.natAbs ≤ s) : SpB p q s := fun S hS => by
  have l := span_le (odd_nm h) (nm_pos (t := p) h.1) hS
  have a := wB_le (t := p) h.1
  omega
theorem spb_dv {p q : Int} {s : Nat} (hs : 1 ≤ s) (d : q ∣ 2 ^ s - 1) : SpB p q s := fun S hS => by
  by_cases z : s < S
  · exact absurd (Int.dvd_trans (show wB p q ∣ q from ⟨wSh p q, wB_mul.symm⟩) d) (hS.no s hs z)
  · omega
theorem few_sp {n s : Nat} {p q : Int} (h : Bd n p q) (g : SpB p q s) (hn : n + s ≤ 90000) : Few (wT p q) (wB p q) := by
  refine ⟨nm_pos h.ne, odd_nm h.ok, nm_co h.ne, fun L S hL hS => ?_⟩
  have l1 := lead_log (odd_nm h.ok) (nm_pos h.ne) (Nat.lt_of_le_of_lt (wT_le h.ne) h.p1) hL
  have l2 := g S hS
  omega
/-- a bound of the spans of two words together -/
def SpM (a b c d : Int) (s : Nat) : Prop := ∀ S1 S2, IsSpan (wB a b) S1 → IsSpan (wB c d) S2 → Nat.lcm S1 S2 ≤ s
theorem spm_of {a b c d : Int} {s1 s2 s : Nat} (h : SpB a b s1) (g : SpB c d s2) (hs : s1 * s2 ≤ s) : SpM a b c d s := fun S1 S2 h1 h2 =>
  Nat.le_trans (Nat.le_of_dvd (Nat.mul_pos h1.pos h2.pos) (Nat.lcm_dvd_mul S1 S2)) (Nat.le_trans (Nat.mul_le_mul (h S1 h1) (g S2 h2)) hs)
theorem mx_of {a b c d : Int} {n m s : Nat} (b1 : Bd n a b) (b2 : Bd m c d) (sm : SpM a b c d s) (hn : n ≤ 3900) (hm : m ≤ 3900) (hs : max n m + s ≤ 6000) :
    ∃ L1 L2 S1 S2, Mx (wT a b) (wB a b) (wT c d) (wB c d) L1 L2 S1 S2 ∧ L1 ≤ n ∧ L2 ≤ m ∧ Nat.lcm S1 S2 ≤ s := by
  have p1 := nm_pos (t := a) b1.ne
  have p2 := nm_pos (t := c) b2.ne
  have o1 := odd_nm b1.ok
  have o2 := odd_nm b2.ok
  obtain ⟨L1, l1⟩ := isLead_ex o1 p1 (wT a b)
  obtain ⟨L2, l2⟩ := isLead_ex o2 p2 (wT c d)
  obtain ⟨S1, s1⟩ := isSpan_ex o1 p1
  obtain ⟨S2, s2⟩ := isSpan_ex o2 p2
  have e1 := lead_log o1 p1 (Nat.lt_of_le_of_lt (wT_le b1.ne) b1.p1) l1
  have e2 := lead_log o2 p2 (Nat.lt_of_le_of_lt (wT_le b2.ne) b2.p1) l2
  have e3 := sm S1 S2 s1 s2
  exact ⟨L1, L2, S1, S2, ⟨p1, o1, p2, o2, l1, l2, s1, s2, b1.w2 hn, b2.w2 hm, by omega⟩, e1, e2, e3⟩
theorem mx_bd {s0 : Str} {o : Int → Int → Int} (B : BitOp s0 o) (t b u v : Int) {L S n : Nat} (ps : 1 ≤ S) (hn : L + S + 1 ≤ n) : Bd n (mixT o t b u v L S) (1 - 2 ^ S) :=
  ⟨ok_odd (bot_odd ps), Nat.lt_of_lt_of_le (mixT_bd B t b u v L S) (Nat.pow_le_pow_right (by decide) (by omega)), Nat.lt_of_lt_of_le (bot_bd S) (Nat.pow_le_pow_right (by decide) (by omega))⟩
theorem mx_sp {p : Int} {S s : Nat} (ps : 1 ≤ S) (hs : S ≤ s) : SpB p (1 - 2 ^ S) s := fun S' h => Nat.le_trans (spb_dv (p := p) ps ⟨-1, by omega⟩ S' h) hs
theorem c_mixC {F H : Hp} {L : List (Addr × HO)} {C r d0 : Addr} {a b c d : Int} {y : V} {Q : VK} {E : XK} {n m s : Nat} {s0 : Str} {o : Int → Int → Int} (B : BitOp s0 o) (h : Own F H L) (e : H r = some (cw C d0 a b)) (th : Tn C H y c d) (b1 : Bd n a b) (b2 : Bd m c d) (sm : SpM a b c d s) (hn : n ≤ 3900) (hm : m ≤ 3900) (hs : max n m + s ≤ 6000)
    (k : ∀ L1 L2 S1 S2 p dW H', Mx (wT a b) (wB a b) (wT c d) (wB c d) L1 L2 S1 S2 → H p = none → Own F H' ((p, cw C dW (mixT o (wT a b) (wB a b) (wT c d) (wB c d) (max L1 L2) (Nat.lcm S1 S2)) (1 - 2 ^ (Nat.lcm S1 S2))) :: L) →
      Bd (max n m + s + 1) (mixT o (wT a b) (wB a b) (wT c d) (wB c d) (max L1 L2) (Nat.lcm S1 S2)) (1 - 2 ^ (Nat.lcm S1 S2)) → SpB (mixT o (wT a b) (wB a b) (wT c d) (wB c d) (max L1 L2) (Nat.lcm S1 S2)) (1 - 2 ^ (Nat.lcm S1 S2)) s → Q (.ref p) H') : sp_mx C o [.ref r, y] H Q E := by
  obtain ⟨L1, L2, S1, S2, M, e1, e2, e3⟩ := mx_of b1 b2 sm hn hm hs
  exact ⟨r, d0, _, _, y, _, _, L1, L2, S1, S2, rfl, e, th.th, M, fun p dW H' np s e' => k L1 L2 S1 S2 p dW H' M np (h.newS np s e') (mx_bd B _ _ _ _ M.ps (by omega)) (mx_sp M.ps e3)⟩

/-! spans of small bottoms -/
def spanTab (b : Nat) : Nat := ((List.range' 1 40).find? fun p => 2 ^ p % b == 1 % b).getD 0
theorem tab_ok : ∀ k, k < 16 → 1 ≤ spanTab (2 * k + 1) ∧ ((2 : Int) ^ spanTab (2 * k + 1) - 1) % ((2 * k + 1 : Nat) : Int) = 0 ∧ ∀ q, q < spanTab (2 * k + 1) → 1 ≤ q → ¬ ((2 : Int) ^ q - 1) % ((2 * k + 1 : Nat) : Int) = 0 := by decide +kernel
theorem tab_lcm : ∀ i, i < 16 → ∀ j, j < 16 → Nat.lcm (spanTab (2 * i + 1)) (spanTab (2 * j + 1)) ≤ 308 := by decide +kernel
theorem span_tab {b : Int} {S : Nat} (pb : 0 < b) (ob : b % 2 = 1) (h : b ≤ 31) (hS : IsSpan b S) : ∃ k, k < 16 ∧ S = spanTab (2 * k + 1) := by
  obtain ⟨k, hk, e⟩ : ∃ k, k < 16 ∧ b = ((2 * k + 1 : Nat) : Int) := ⟨(b / 2).toNat, by omega, by omega⟩
  obtain ⟨t1, t2, t3⟩ := tab_ok k hk
  refine ⟨k, hk, isSpan_uniq hS ⟨t1, ?_, fun q h1 h2 d => ?_⟩⟩
  · rw [e]; exact Int.dvd_of_emod_eq_zero t2
  · rw [e] at d; exact t3 q h2 h1 (Int.emod_eq_zero_of_dvd d)
theorem spm_308 {a b c d : Int} (h : wOk a b) (g : wOk c d) (hb : b.natAbs ≤ 31) (hd : d.natAbs ≤ 31) : SpM a b c d 308 := fun S1 S2 h1 h2 => by
  have l1 := wB_le (t := a) h.1
  have l2 := wB_le (t := c) g.1
  obtain ⟨i, hi, rfl⟩ := span_tab (nm_pos (t := a) h.1) (odd_nm h) (by omega) h1
  obtain ⟨j, hj, rfl⟩ := span_tab (nm_pos (t := c) g.1) (odd_nm g) (by omega) h2
  exact tab_lcm i hi j hj
theorem SpM.swap {a b c d : Int} {s : Nat} (h : SpM a b c d s) : SpM c d a b s := fun S1 S2 h1 h2 => by rw [Nat.lcm_comm]; exact h S2 S1 h2 h1
/-! the signs, whichever side is an int -/
section
variable {F H : Hp} {L : List (Addr × HO)} {C r d0 : Addr} {a b c d i : Int} {x y : V} {Q : VK} {E : XK} {n m s : Nat} {s0 : Str} {o : Int → Int → Int}
theorem own_mix (B : BitOp s0 o) (h : Own F H L) (t1 : Tn C H x a b) (t2 : Tn C H y c d) (rr : (∃ r, x = .ref r) ∨ ∃ r, y = .ref r) (b1 : Bd n a b) (b2 : Bd m c d) (sm : SpM a b c d s) (hn : n ≤ 3900) (hm : m ≤ 3900) (hs : max n m + s ≤ 6000)
    (k : ∀ L1 L2 S1 S2 p dW H', Mx (wT a b) (wB a b) (wT c d) (wB c d) L1 L2 S1 S2 → H p = none → Own F H' ((p, cw C dW (mixT o (wT a b) (wB a b) (wT c d) (wB c d) (max L1 L2) (Nat.lcm S1 S2)) (1 - 2 ^ (Nat.lcm S1 S2))) :: L) →
      Bd (max n m + s + 1) (mixT o (wT a b) (wB a b) (wT c d) (wB c d) (max L1 L2) (Nat.lcm S1 S2)) (1 - 2 ^ (Nat.lcm S1 S2)) → SpB (mixT o (wT a b) (wB a b) (wT c d) (wB c d) (max L1 L2) (Nat.lcm S1 S2)) (1 - 2 ^ (Nat.lcm S1 S2)) s → Q (.ref p) H') :
    cOwn C (sp_mx C o) (sp_mx C o) E x y H Q := by
  rcases t1 with ⟨rfl, rfl⟩ | ⟨r1, x1, rfl, e1⟩
  · rcases t2 with ⟨rfl, rfl⟩ | ⟨r2, x2, rfl, e2⟩
    · rcases rr with ⟨_, z⟩ | ⟨_, z⟩ <;> cases z
    · refine own_iw e2 (c_mixC B h e2 (.inl ⟨rfl, rfl⟩) b2 b1 sm.swap hm hn (by rw [Nat.max_comm]; exact hs) fun L1 L2 S1 S2 p dW H' M np ow bd sp => ?_)
      rw [mix_comm B, Nat.max_comm L1 L2, Nat.lcm_comm S1 S2] at ow bd sp
      rw [Nat.max_comm m n] at bd
      exact k L2 L1 S2 S1 p dW H' M.swap np ow bd sp
  · rcases t2 with ⟨rfl, rfl⟩ | ⟨r2, x2, rfl, e2⟩
    · exact own_wi e1 (c_mixC B h e1 (.inl ⟨rfl, rfl⟩) b1 b2 sm hn hm hs k)
    · exact own_ww e1 e2 (c_mixC B h e1 (.inr ⟨r2, x2, rfl, e2⟩) b1 b2 sm hn hm hs k)
theorem own_mixI (B : BitOp s0 o) (h : Own F H L) (t1 : Tn C H x a b) (rr : ∃ r, x = .ref r) (b1 : Bd n a b) (b2 : Bd m i 1) (sm : SpM a b i 1 s) (hn : n ≤ 3900) (hm : m ≤ 3900) (hs : max n m + s ≤ 6000)
    (k : ∀ L1 L2 S1 S2 p dW H', Mx (wT a b) (wB a b) i 1 L1 L2 S1 S2 → H p = none → Own F H' ((p, cw C dW (mixT o (wT a b) (wB a b) i 1 (max L1 L2) (Nat.lcm S1 S2)) (1 - 2 ^ (Nat.lcm S1 S2))) :: L) →
      Bd (max n m + s + 1) (mixT o (wT a b) (wB a b) i 1 (max L1 L2) (Nat.lcm S1 S2)) (1 - 2 ^ (Nat.lcm S1 S2)) → SpB (mixT o (wT a b) (wB a b) i 1 (max L1 L2) (Nat.lcm S1 S2)) (1 - 2 ^ (Nat.lcm S1 S2)) s → Q (.ref p) H') :
    cOwn C (sp_mx C o) (sp_mx C o) E x (.int i) H Q :=
  own_mix B h t1 (.inl ⟨rfl, rfl⟩) (.inl rr) b1 b2 sm hn hm hs (by rw [wT_one, wB_one]; exact k)
end

/-! the first unlike bit, plain -/
/-! plain -/
theorem lowS_same {b v t u : Int} : ∀ n : Nat, (∀ j, j < n → hvs b j t % 2 = hvs v j u % 2) → lowS b n t = lowS v n u
  | 0, _ => rfl
  | n + 1, h => by rw [lowS_succ, lowS_succ, lowS_same n (fun j hj => h j (by omega)), h n (by omega)]
theorem gap_at {b v t u : Int} (ob : b % 2 = 1) (ov : v % 2 = 1) (n : Nat) (h : lowS b n t = lowS v n u) : t * v - u * b = 2 ^ n * (v * hvs b n t - b * hvs v n u) := by
  have e1 := lowS_eq ob n t
  have e2 := lowS_eq ov n u
  rw [h] at e1
  generalize lowS v n u = l at *
  generalize hvs b n t = x at *
  generalize hvs v n u = y at *
  rw [e1, e2]
  grind
def First (t b u v : Int) (k : Nat) : Prop := ∃ z, t * v - u * b = 2 ^ k * z ∧ z % 2 = 1
theorem First.swap {t b u v : Int} {k : Nat} (h : First t b u v k) : First u v t b k := by
  obtain ⟨z, e, o⟩ := h
  exact ⟨-z, by rw [Int.mul_neg, ← e]; omega, by omega⟩
theorem First.ne {t b u v : Int} {k : Nat} (h : First t b u v k) : t * v - u * b ≠ 0 := by
  obtain ⟨z, e, o⟩ := h
  rw [e]
  exact Int.mul_ne_zero (by have := two_pow_pos k; omega) (by omega)
theorem first_of {b v t u : Int} (ob : b % 2 = 1) (ov : v % 2 = 1) {k : Nat} (h : ∀ j, j < k → hvs b j t % 2 = hvs v j u % 2) (d : ¬ hvs b k t % 2 = hvs v k u % 2) : First t b u v k := by
  refine ⟨_, gap_at ob ov k (lowS_same k h), ?_⟩
  generalize hvs b k t = x at *
  generalize hvs v k u = y at *
  obtain ⟨b', eb⟩ : ∃ b', b = 2 * b' + 1 := ⟨b / 2, by omega⟩
  obtain ⟨v', ev⟩ : ∃ v', v = 2 * v' + 1 := ⟨v / 2, by omega⟩
  have e : v * x - b * y = 2 * (v' * x - b' * y) + (x - y) := by rw [eb, ev]; grind
  rw [e]
  omega
theorem unlike_ex {b v t u : Int} (ob : b % 2 = 1) (ov : v % 2 = 1) {n : Nat} (ne : t * v - u * b ≠ 0) (hb : (t * v - u * b).natAbs < 2 ^ n) : ∃ k, k < n ∧ ¬ hvs b k t % 2 = hvs v k u % 2 ∧ ∀ j, j < k → hvs b j t % 2 = hvs v j u % 2 := by
  have ex : ∃ k, k < n ∧ ¬ hvs b k t % 2 = hvs v k u % 2 := by
    apply Classical.byContradiction
    intro z
    have al : ∀ j, j < n → hvs b j t % 2 = hvs v j u % 2 := fun j hj => Classical.byContradiction fun y => z ⟨j, hj, y⟩
    have e := gap_at ob ov n (lowS_same n al)
    rw [e, Int.natAbs_mul, Int.natAbs_pow] at hb
    rw [e] at ne
    generalize v * hvs b n t - b * hvs v n u = y at *
    have y1 : 1 ≤ y.natAbs := by
      by_cases y0 : y = 0
      · rw [y0, Int.mul_zero] at ne; exact absurd rfl ne
      · omega
    have := Nat.mul_le_mul_left ((2 : Int).natAbs ^ n) y1
    rw [Nat.mul_one] at this
    exact absurd hb (Nat.not_lt.mpr this)
  obtain ⟨k0, h0⟩ := ex
  obtain ⟨k, ⟨h1, h2⟩, h3⟩ := least_of (p := fun k => k < n ∧ ¬ hvs b k t % 2 = hvs v k u % 2) h0
  exact ⟨k, h1, h2, fun j hj => Classical.byContradiction fun y => h3 j hj ⟨by omega, y⟩⟩
theorem first_uniq {t b u v : Int} {k l : Nat} (h : First t b u v k) (g : First t b u v l) : k = l := by
  have key : ∀ {k l : Nat}, k < l → First t b u v k → First t b u v l → False := by
    rintro k l hkl ⟨z, e, o⟩ ⟨y, f, p⟩
    obtain ⟨d, rfl⟩ := Nat.exists_eq_add_of_le hkl
    rw [e, Int.pow_add, Int.pow_succ, Int.mul_assoc, Int.mul_assoc] at f
    have := Int.eq_of_mul_eq_mul_left (by have := two_pow_pos k; omega) f
    omega
  rcases Nat.lt_trichotomy k l with z | z | z
  · exact (key z h g).elim
  · exact z
  · exact (key z g h).elim

/-! the first unlike bit -/
abbrev s_first_unlike : Stmt := top 25
theorem sc_first_unlike : FnScope ["word", "other", "gap"] ["word", "other"] (defScope s_first_unlike) := ⟨rfl, rfl, rfl, by decide +kernel, rfl, by decide +kernel, by decide +kernel⟩
abbrev s_Word___eq__ : Stmt := inClass (top 17) 7
theorem sc_Word___eq__ : FnScope ["self", "other"] ["self", "other"] (defScope s_Word___eq__) := ⟨rfl, rfl, rfl, by decide +kernel, rfl, by decide +kernel, by decide +kernel⟩
theorem onesR_head {r z : Int} {k n : Nat} (e : r = 2 ^ k * z) (o : z % 2 = 1) (hk : k < n) : (onesR r n)[0]? = some (k : Int) := by
  unfold onesR
  obtain ⟨d, rfl⟩ := Nat.exists_eq_add_of_le (Nat.succ_le_of_lt hk)
  rw [List.range_eq_range', show k.succ + d = k + (1 + d) by omega, ← List.range'_append_1, List.filter_append]
  have pk := two_pow_pos k
  have n1 : (List.range' 0 k).filter (fun i => r / 2 ^ i % 2 = 1) = [] := by
    refine List.filter_eq_nil_iff.mpr fun i hi y => ?_
    have hi : i < k := by have := List.mem_range'_1.mp hi; omega
    obtain ⟨c, rfl⟩ := Nat.exists_eq_add_of_le (Nat.succ_le_of_lt hi)
    have : r / 2 ^ i = 2 * (2 ^ c * z) := by
      rw [e, show i.succ + c = i + (1 + c) by omega, Int.pow_add, Int.mul_assoc, Int.mul_ediv_cancel_left _ (by have := two_pow_pos i; omega), Int.pow_add, Int.mul_assoc]
      rfl
    simp only [decide_eq_true_eq] at y
    rw [this] at y
    omega
  have h1 : r / 2 ^ k % 2 = 1 := by rw [e, Int.mul_ediv_cancel_left _ (by omega)]; exact o
  rw [n1, List.nil_append, Nat.zero_add, show 1 + d = d + 1 by omega, List.range'_succ, List.filter_cons_of_pos (by simp only [decide_eq_true_eq]; exact h1)]
  rfl
def sp_fu (C : Addr) : Sp := fun vs H Q _ => ∃ (a c dx dy : Addr) (t b u v : Int) (N : Nat), vs = [.ref a, .ref c] ∧ H a = some (.ins C dx (wfl t b)) ∧ H c = some (.ins C dy (wfl u v)) ∧ b % 2 = 1 ∧ v % 2 = 1 ∧ (t.natAbs < 2 ^ 3900 ∧ b.natAbs < 2 ^ 3900 ∧ u.natAbs < 2 ^ 3900 ∧ v.natAbs < 2 ^ 3900) ∧ (t * v - u * b).natAbs < 2 ^ N ∧ N ≤ 20000 ∧
  (t * v - u * b = 0 → ∀ H', Same H H' → Q .non H') ∧ (∀ k : Nat, First t b u v k → ∀ H', Same H H' → Q (.int k) H')
def sp_eqW (C : Addr) : Sp := fun vs H Q _ => ∃ (a c dx dy : Addr) (t b u v : Int), vs = [.ref a, .ref c] ∧ H a = some (.ins C dx (wfl t b)) ∧ H c = some (.ins C dy (wfl u v)) ∧ Q (.bl (decide (t = u ∧ b = v))) H
section
variable {F H : Hp} {L : List (Addr × HO)} {C r1 r2 dx dy : Addr} {t b u v : Int} {Q : VK} {E : XK} {N k : Nat}
theorem c_fuN (h : Own F H L) (e1 : H r1 = some (.ins C dx (wfl t b))) (e2 : H r2 = some (.ins C dy (wfl u v))) (ob : b % 2 = 1) (ov : v % 2 = 1) (bd : t.natAbs < 2 ^ 3900 ∧ b.natAbs < 2 ^ 3900 ∧ u.natAbs < 2 ^ 3900 ∧ v.natAbs < 2 ^ 3900) (g : t * v - u * b = 0)
    (c : ∀ H', Own F H' L → Q .non H') : sp_fu C ([.ref r1, .ref r2] ++ []) H Q E :=
  ⟨r1, r2, dx, dy, t, b, u, v, 1, rfl, e1, e2, ob, ov, bd, by rw [g]; decide, by decide, fun _ H' s => c H' (h.same s), fun k f => absurd g f.ne⟩
theorem c_fuK (h : Own F H L) (e1 : H r1 = some (.ins C dx (wfl t b))) (e2 : H r2 = some (.ins C dy (wfl u v))) (ob : b % 2 = 1) (ov : v % 2 = 1) (bd : t.natAbs < 2 ^ 3900 ∧ b.natAbs < 2 ^ 3900 ∧ u.natAbs < 2 ^ 3900 ∧ v.natAbs < 2 ^ 3900) (f : First t b u v k)
    (c : ∀ H', Own F H' L → Q (.int k) H') : sp_fu C ([.ref r1, .ref r2] ++ []) H Q E :=
  ⟨r1, r2, dx, dy, t, b, u, v, 7801, rfl, e1, e2, ob, ov, bd, subW 7800 (mulW 3900 3900 bd.1 bd.2.2.2) (mulW 3900 3900 bd.2.2.1 bd.2.1), by decide, fun z => absurd z f.ne, fun l g H' s => by rw [first_uniq g f]; exact c H' (h.same s)⟩
end
section
variable {P : Program} {w : World} {K : PySem.W.Frag} {mg : Str → Option Value} {base : Heap} {C f : Addr} {fd : FuncData}
theorem ok_first_unlike (F : FnP K "first_unlike" "first_unlike" s_first_unlike f fd) (B : Bi mg) (p_top : PrC P w K mg base CX0 C "top" 1 (getSp C "kept_top")) (p_bottom : PrC P w K mg base CX0 C "bottom" 1 (getSp C "kept_bottom")) (c_ones_of : Fo P w K mg base CX0 1 "ones_of" ["number"] (sp_ones K)) : FnOk P w K mg base (L2.CX P w) 4 f fd ["word", "other"] (sp_fu C) := by
  refine F.ok sc_first_unlike (fun vs H Q E h => by walk_at "len") (fun cdv A outer s H vs Q E hr h => ?_)
  have nd := sc_first_unlike.nd
  obtain ⟨a, c, dx, dy, t, b, u, v, N, rfl, ea, ec, ob, ov, ⟨b1, b2, b3, b4⟩, hg, hN, q1, q2⟩ := h
  refine ⟨_, pss_cons (ps_set (i := 2) nd rfl (Or.inl rfl) (pe_op op_sub (pe_op op_mulO (pe_wp p_top hr (by decide) (pv 0)) (pe_wp p_bottom hr (by decide) (pv 1))) (pe_op op_mulO (pe_wp p_top hr (by decide) (pv 1)) (pe_wp p_bottom hr (by decide) (pv 0)))))
      (pss_cons (ps_if (pt_cmpR op_eq (pv 2) pe_int (nomark _)) (pss_one (ps_ret pe_non)) pss_nil)
      (pss_one (ps_ret (pe_ix ix_list (pe_fo c_ones_of hr (by decide) (pa_cons (pe_callB cb_abs rfl B.abs (by decide +kernel) (pa_cons (pv 2) pa_nil)) pa_nil)) pe_int (fun _ _ => rfl))))), ?_⟩
  walk_at "s0"
  have ow := Own.start H
  walk_at "go"
  · exact q1 hc _ (Same.refl H)
  · obtain ⟨k, hk, dk, al⟩ := unlike_ex ob ov hc hg
    have f := first_of ob ov al dk
    obtain ⟨z, e, o⟩ := id f
    have ra : (((t * v - u * b).natAbs : Nat) : Int) = 2 ^ k * (z.natAbs : Int) := by
      rw [e, Int.natAbs_mul, Int.natCast_mul, Int.natAbs_pow]
      simp
    have pN := pow_nat N
    refine c_ones N ow (by omega) (by omega) (by omega) ?_
    intro pO H' nO ow
    refine o_ixL ow g0 (v := .int k) ?_ ?_
    · have hd := onesR_head (n := N) ra (by omega) hk
      have l := (List.getElem?_eq_some_iff.mp hd).1
      unfold atI ixN
      rw [if_pos (by omega), List.length_map, if_pos (by omega)]
      show ((onesR _ N).map V.int)[0]? = _
      rw [List.getElem?_map, hd]
      rfl
    exact q2 k f H' ow.toSame_of
theorem ok_Word___eq__ (F : FnP K "__eq__" "Word.__eq__" s_Word___eq__ f fd) (B : Bi mg) (g_Word : mg "Word" = some (.ref C)) (ty_Word : WTy K C) (cl : Cls K C) (nT : NoAttr K C "kept_top") (nB : NoAttr K C "kept_bottom") : FnOk P w K mg base CX0 2 f fd ["self", "other"] (sp_eqW C) := by
  refine F.ok sc_Word___eq__ (fun vs H Q E h => by walk_at "len") (fun cdv A outer s H vs Q E hr h => ?_)
  have nd := sc_Word___eq__.nd
  obtain ⟨a, c, dx, dy, t, b, u, v, rfl, ea, ec, q⟩ := h
  refine ⟨_, PSs.nox (pss_cons (ps_if (pt_not (pt_val (pe_callB call_isi rfl B.isinstance (by decide +kernel) (pa_cons (pv 1) (pa_cons (pe_glob (v := .ref _) rfl g_Word rfl) pa_nil))))) (pss_one (ps_ret pe_bl)) pss_nil)
      (pss_one (ps_ret (pe_and (pe_cmpR op_eq (pe_fld (pv 0) rfl) (pe_fld (pv 1) rfl) (nomark _)) (pe_one (pe_cmpR op_eq (pe_fld (pv 0) rfl) (pe_fld (pv 1) rfl) (nomark _))))))), ?_⟩
  walk_at "s0"
  have ow := Own.start H
  walk_at "go"
  · have e : decide (V.int b = V.int v) = decide (t = u ∧ b = v) := by simp [hc]
    rw [e]
    exact q
  · rw [decide_eq_false (fun z => hc z.1)] at q
    exact q
end

/-! bits of mixed words -/
theorem low_red {p q : Int} (oq : q % 2 = 1) (n : Nat) : lowS (wB p q) n (wT p q) = lowS q n p := by
  have e1 := wT_mul (t := p) (b := q)
  have e2 := wB_mul (t := p) (b := q)
  have o := odd_of_mul (a := wB p q) (b := wSh p q) (by rw [e2]; exact oq)
  have bd := lowS_bd (wB p q) n (wT p q)
  refine low_is oq ⟨bd.1, bd.2, ?_⟩
  have e := lowS_eq o.1 n (wT p q)
  refine ⟨-(hvs (wB p q) n (wT p q)) * wSh p q, ?_⟩
  generalize lowS (wB p q) n (wT p q) = l at *
  generalize hvs (wB p q) n (wT p q) = h at *
  generalize wSh p q = s at *
  generalize hT : wT p q = t at *
  generalize hB : wB p q = b at *
  clear hT hB bd
  rw [← e1, ← e2, e]
  grind
theorem mix_low {s0 : Str} {o : Int → Int → Int} (B : BitOp s0 o) (t b u v : Int) {L S n : Nat} (ps : 1 ≤ S) (hn : n ≤ L + S) : lowS (1 - 2 ^ S) n (mixT o t b u v L S) = mixZ o t b u v (L + S) % 2 ^ n := by
  refine (low_is (bot_odd ps) ⟨Int.emod_nonneg _ (by have := two_pow_pos n; omega), Int.emod_lt_of_pos _ (two_pow_pos n), ?_⟩).symm
  unfold mixT
  generalize mixZ o t b u v (L + S) = z
  obtain ⟨d, hd⟩ := Nat.exists_eq_add_of_le hn
  have m := Int.emod_add_mul_ediv z (2 ^ n)
  have l := Int.emod_add_mul_ediv z (2 ^ L)
  have e : (2 : Int) ^ L * 2 ^ S = 2 ^ n * 2 ^ d := by rw [← Int.pow_add, ← Int.pow_add, hd]
  generalize (2 : Int) ^ n = qn at *
  generalize (2 : Int) ^ d = qd at *
  generalize (2 : Int) ^ L = qL at *
  generalize (2 : Int) ^ S = qS at *
  generalize z % qn = a at *
  generalize z / qn = b' at *
  generalize z % qL = c at *
  generalize z / qL = f at *
  refine ⟨-(1 - qS) * b' - qd * f, ?_⟩
  have h1 : a + qn * b' = c + qL * f := by omega
  have h2 : (1 - qS) * (a + qn * b') = (1 - qS) * (c + qL * f) := by rw [h1]
  have h3 : qL * qS * f = qn * qd * f := by rw [e]
  grind
theorem low_pow (n p : Nat) (h : p < n) : lowS 1 n (2 ^ p) = 2 ^ p := by
  have pp := two_pow_pos p
  refine (low_is (by decide) ⟨by omega, Int.pow_lt_pow_of_lt (by decide) h, ⟨0, by omega⟩⟩).symm
theorem lead_pow {p L : Nat} (h : IsLead 1 (2 ^ p) L) : p < L := by
  apply Classical.byContradiction
  intro z
  obtain ⟨d, rfl⟩ := Nat.exists_eq_add_of_le (Nat.le_of_not_lt z)
  have i := h.is
  rw [Nat.add_comm L d, Int.pow_add, hvs_up (by decide)] at i
  have := two_pow_pos d
  unfold In at i
  omega
theorem bit_of {x : Int} (x0 : 0 ≤ x) (j : Nat) : x / 2 ^ j % 2 = ((x.toNat.testBit j).toNat : Int) := by
  obtain ⟨n, rfl⟩ := Int.eq_ofNat_of_zero_le x0
  rw [Int.toNat_natCast, Nat.toNat_testBit]
  simp
theorem bit_lowN {b : Int} : ∀ {n i : Nat} {t : Int}, i < n → lowS b n t / 2 ^ i % 2 = hvs b i t % 2
  | 0, i, t, h => by omega
  | n + 1, 0, t, h => by
    show (t % 2 + 2 * lowS b n (hv b t)) / 2 ^ 0 % 2 = t % 2
    rw [Int.pow_zero, Int.ediv_one]
    omega
  | n + 1, i + 1, t, h => by
    show (t % 2 + 2 * lowS b n (hv b t)) / 2 ^ (i + 1) % 2 = hvs b i (hv b t) % 2
    have e : (t % 2 + 2 * lowS b n (hv b t)) / 2 = lowS b n (hv b t) := by omega
    rw [← bit_lowN (n := n) (i := i) (t := hv b t) (by omega), show (2 : Int) ^ (i + 1) = 2 * 2 ^ i by rw [Int.pow_succ, Int.mul_comm], ← Int.ediv_ediv_of_nonneg (show (0 : Int) ≤ 2 by decide), e]

/-! bits of words mixed with one bit, of inverted words -/
/-- xor with one bit -/
theorem first_xor {t b : Int} {p L1 L2' S1 S2 : Nat} (M : Mx t b (2 ^ p) 1 L1 L2' S1 S2) : First t b (wT (mixT Builtin.bitXor t b (2 ^ p) 1 (max L1 L2') (Nat.lcm S1 S2)) (1 - 2 ^ (Nat.lcm S1 S2))) (wB (mixT Builtin.bitXor t b (2 ^ p) 1 (max L1 L2') (Nat.lcm S1 S2)) (1 - 2 ^ (Nat.lcm S1 S2))) p := by
  have ps := M.ps
  have lp := lead_pow M.l2
  have oq := bot_odd ps
  generalize hS : Nat.lcm S1 S2 = S at *
  have hL : p < max L1 L2' := by omega
  generalize max L1 L2' = L at *
  have ob := odd_nm (ok_odd (t := mixT Builtin.bitXor t b (2 ^ p) 1 L S) oq)
  have pp := two_pow_pos p
  have bit : ∀ j, j ≤ p → hvs (wB (mixT Builtin.bitXor t b (2 ^ p) 1 L S) (1 - 2 ^ S)) j (wT (mixT Builtin.bitXor t b (2 ^ p) 1 L S) (1 - 2 ^ S)) % 2 = mixZ Builtin.bitXor t b (2 ^ p) 1 (L + S) / 2 ^ j % 2 := fun j hj => by
    rw [← bit_lowN (n := j + 1) (by omega), low_red oq, mix_low bo_xor t b (2 ^ p) 1 ps (by omega)]
    have zb := (mixZ_bd bo_xor t b (2 ^ p) 1 (L + S)).1
    generalize mixZ Builtin.bitXor t b (2 ^ p) 1 (L + S) = z at *
    rw [Int.pow_succ]
    have e := Int.emod_add_mul_ediv z (2 ^ j * 2)
    have pj := two_pow_pos j
    have e2 : z / 2 ^ j = z % (2 ^ j * 2) / 2 ^ j + 2 * (z / (2 ^ j * 2)) := by
      have h := Int.add_mul_ediv_left (z % (2 ^ j * 2)) (2 * (z / (2 ^ j * 2))) (show (2 : Int) ^ j ≠ 0 by omega)
      rw [← Int.mul_assoc, e] at h
      exact h
    omega
  have zx : ∀ j, mixZ Builtin.bitXor t b (2 ^ p) 1 (L + S) / 2 ^ j % 2 = (((lowS b (L + S) t).toNat.testBit j ^^ decide (p = j)).toNat : Int) := fun j => by
    have zb := (mixZ_bd bo_xor t b (2 ^ p) 1 (L + S)).1
    rw [bit_of zb]
    unfold mixZ
    rw [low_pow (L + S) p (by omega), Bits.bitXor_pp (lowS_bd b (L + S) t).1 (by omega), Int.toNat_natCast, Nat.testBit_xor]
    have e : ((2 : Int) ^ p).toNat = 2 ^ p := by have := pow_nat p; omega
    rw [e, Nat.testBit_two_pow]
  refine first_of M.o1 ob (fun j hj => ?_) ?_
  · rw [bit j (by omega), zx, decide_eq_false (by omega), Bool.xor_false, ← bit_of (lowS_bd b (L + S) t).1, bit_lowN (by omega)]
  · rw [bit p (Nat.le_refl _), zx, decide_eq_true rfl, Bool.xor_true, ← bit_lowN (n := L + S) (by omega), bit_of (lowS_bd b (L + S) t).1]
    cases (lowS b (L + S) t).toNat.testBit p <;> decide
theorem first_inv {t b : Int} (ob : b % 2 = 1) : First t b (wT (0 - t - b) b) (wB (0 - t - b) b) 0 := by
  have o := odd_nm (ok_odd (t := 0 - t - b) ob)
  have e := low_red (p := 0 - t - b) ob 1
  have e1 : lowS (wB (0 - t - b) b) 1 (wT (0 - t - b) b) = wT (0 - t - b) b % 2 := by show _ % 2 + 2 * 0 = _; omega
  have e2 : lowS b 1 (0 - t - b) = (0 - t - b) % 2 := by show _ % 2 + 2 * 0 = _; omega
  refine first_of ob o (fun j hj => by omega) ?_
  show ¬ t % 2 = wT (0 - t - b) b % 2
  omega

/-! the number of a list of bits, plain -/
def worthL (ns : List Int) : Int := ns.foldr (fun b z => 2 * z + b) 0
theorem worthL_snoc (ns : List Int) (v : Int) : (ns ++ [v]).reverse.foldl (fun z b => 2 * z + b) 0 = ns.reverse.foldl (fun z b => 2 * z + b) v := by simp
theorem worthL_rev (ns : List Int) : worthL ns = ns.reverse.foldl (fun z b => 2 * z + b) 0 := by unfold worthL; rw [List.foldl_reverse]
theorem worth_bits (b : Int) : ∀ (n : Nat) (t : Int), worthL (bitsL b t n) = lowS b n t
  | 0, t => rfl
  | n + 1, t => by
    have e : bitsL b t (n + 1) = (t % 2) :: bitsL b (hv b t) n := by
      unfold bitsL
      rw [List.range_succ_eq_map, List.map_cons, List.map_map]
      rfl
    rw [e]
    show 2 * worthL (bitsL b (hv b t) n) + t % 2 = t % 2 + 2 * lowS b n (hv b t)
    rw [worth_bits b n]
    omega

/-! slices of bits -/
theorem sIx_some {n d : Nat} {i : Int} (h0 : 0 ≤ i) (h1 : i ≤ n) : HT.sIx n d (some i) = i.toNat := by
  show (if i < 0 then (i + (n : Int)).toNat else min i.toNat n) = i.toNat
  rw [if_neg (by omega)]
  omega
theorem cut_bits (b t : Int) {N s e : Nat} {lo hi : Option Int} (hlo : HT.sIx N 0 lo = s) (hhi : HT.sIx N N hi = e) (h : s ≤ e) (he : e ≤ N) : cutV ((bitsL b t N).map V.int) lo hi = ((List.range' s (e - s)).map (fun i => hvs b i t % 2)).map V.int := by
  unfold cutV
  rw [List.length_map, bitsL_len, hlo, hhi, ← List.map_drop, ← List.map_take]
  congr 1
  unfold bitsL
  rw [← List.map_drop, ← List.map_take, List.range_eq_range', List.drop_range', show 0 + s * 1 = s by omega, show N - s = (e - s) + (N - e) by omega, ← List.range'_append_1, List.take_left' (by simp)]
def cSl (K : PySem.W.Frag) (Q : VK) (x : V) (lo hi : Option Int) (H : Hp) : Prop := rSlL K x lo hi H Q
section
variable {K : PySem.W.Frag} {F H : Hp} {L : List (Addr × HO)} {a : Addr} {xs : List V} {Q : VK} {σ : L2.St} {te : TE} {tl th : TO} {lo hi : Option Int}
theorem r_sl (k : te σ H fun x H1 => tl σ H1 fun l H2 => th σ H2 fun u H3 => cSl K Q x l u H3) : tSl (rSlL K) te tl th σ H Q := k
theorem r_nopart {R : Option Int → Hp → Prop} (k : R none H) : tNoPart σ H R := k
theorem o_sl {ns : List Int} (h : Own F H L) (s : SqL K H a xs) (e : cutV xs lo hi = ns.map V.int) (k : ∀ p H', H p = none → Own F H' ((p, .lst (ns.map V.int)) :: L) → Q (.ref p) H') : cSl K Q (.ref a) lo hi H := ⟨a, xs, rfl, s, fun p n => by rw [e]; exact k p _ n (h.new n)⟩
end
set_option hygiene false in
local macro_rules | `(tactic| walk_at "r1") => `(tactic| first
  | with_reducible refine Bs.r_sl ?_
  | with_reducible refine Bs.r_nopart ?_)

/-! signs bit by bit, plain -/
/-! numbers of bits -/
theorem worthL_app : ∀ xs ys : List Int, worthL (xs ++ ys) = worthL xs + 2 ^ xs.length * worthL ys
  | [], ys => by show worthL ys = 0 + 1 * worthL ys; omega
  | x :: xs, ys => by
    show 2 * worthL (xs ++ ys) + x = 2 * worthL xs + x + 2 ^ (xs.length + 1) * worthL ys
    rw [worthL_app xs ys, Int.pow_succ]
    grind
theorem worthL_bd : ∀ xs : List Int, (∀ x ∈ xs, 0 ≤ x ∧ x ≤ 1) → 0 ≤ worthL xs ∧ worthL xs < 2 ^ xs.length
  | [], _ => by show (0 : Int) ≤ 0 ∧ (0 : Int) < 1; omega
  | x :: xs, h => by
    have a := h x List.mem_cons_self
    have b := worthL_bd xs fun y hy => h y (List.mem_cons_of_mem _ hy)
    show 0 ≤ 2 * worthL xs + x ∧ 2 * worthL xs + x < 2 ^ (xs.length + 1)
    rw [Int.pow_succ]
    omega
theorem worthL_cut {xs : List Int} {n : Nat} (h : ∀ x ∈ xs, 0 ≤ x ∧ x ≤ 1) (hn : n ≤ xs.length) : worthL (xs.take n) = worthL xs % 2 ^ n ∧ worthL (xs.drop n) = worthL xs / 2 ^ n := by
  have e := worthL_app (xs.take n) (xs.drop n)
  have l : (xs.take n).length = n := by rw [List.length_take]; omega
  rw [List.take_append_drop, l] at e
  have b := worthL_bd (xs.take n) fun x hx => h x (List.mem_of_mem_take hx)
  rw [l] at b
  have p := two_pow_pos n
  constructor
  · rw [e, Int.add_mul_emod_self_left, Int.emod_eq_of_lt b.1 b.2]
  · rw [e, Int.add_mul_ediv_left _ _ (by omega), Int.ediv_eq_zero_of_lt b.1 b.2, Int.zero_add]
/-- a sign, bit by bit -/
structure BitF (o f : Int → Int → Int) : Prop where
  z : o 0 0 = 0
  s : ∀ x y a b : Int, 0 ≤ x → 0 ≤ y → 0 ≤ a → a ≤ 1 → 0 ≤ b → b ≤ 1 → o (2 * x + a) (2 * y + b) = 2 * o x y + f a b
  b : ∀ a b : Int, 0 ≤ a → a ≤ 1 → 0 ≤ b → b ≤ 1 → 0 ≤ f a b ∧ f a b ≤ 1
theorem worth_zip {o f : Int → Int → Int} (B : BitF o f) : ∀ xs ys : List Int, xs.length = ys.length → (∀ x ∈ xs, 0 ≤ x ∧ x ≤ 1) → (∀ y ∈ ys, 0 ≤ y ∧ y ≤ 1) → worthL (List.zipWith f xs ys) = o (worthL xs) (worthL ys)
  | [], [], _, _, _ => B.z.symm
  | x :: xs, y :: ys, hl, hx, hy => by
    have i := worth_zip B xs ys (by simpa using hl) (fun z hz => hx z (List.mem_cons_of_mem _ hz)) (fun z hz => hy z (List.mem_cons_of_mem _ hz))
    have a := hx x List.mem_cons_self
    have c := hy y List.mem_cons_self
    have b1 := worthL_bd xs fun z hz => hx z (List.mem_cons_of_mem _ hz)
    have b2 := worthL_bd ys fun z hz => hy z (List.mem_cons_of_mem _ hz)
    show 2 * worthL (List.zipWith f xs ys) + f x y = o (2 * worthL xs + x) (2 * worthL ys + y)
    rw [i, B.s _ _ _ _ b1.1 b2.1 a.1 a.2 c.1 c.2]
theorem zip_bits {o f : Int → Int → Int} (B : BitF o f) : ∀ xs ys : List Int, (∀ x ∈ xs, 0 ≤ x ∧ x ≤ 1) → (∀ y ∈ ys, 0 ≤ y ∧ y ≤ 1) → ∀ z ∈ List.zipWith f xs ys, 0 ≤ z ∧ z ≤ 1
  | [], _, _, _, z, h => by simp at h
  | _ :: _, [], _, _, z, h => by simp at h
  | x :: xs, y :: ys, hx, hy, z, h => by
    rw [List.zipWith_cons_cons] at h
    rcases List.mem_cons.mp h with e | e
    · have a := hx x List.mem_cons_self
      have c := hy y List.mem_cons_self
      rw [e]
      exact B.b x y a.1 a.2 c.1 c.2
    · exact zip_bits B xs ys (fun z hz => hx z (List.mem_cons_of_mem _ hz)) (fun z hz => hy z (List.mem_cons_of_mem _ hz)) z e
theorem bits01 (b t : Int) (n : Nat) : ∀ x ∈ bitsL b t n, 0 ≤ x ∧ x ≤ 1 := fun x hx => by
  unfold bitsL at hx
  obtain ⟨i, _, rfl⟩ := List.mem_map.mp hx
  have := Int.emod_two_eq (hvs b i t)
  omega
theorem nat_bit {m n a b : Nat} (ha : a ≤ 1) (hb : b ≤ 1) : (2 * m + a) &&& (2 * n + b) = 2 * (m &&& n) + a * b ∧ (2 * m + a) ||| (2 * n + b) = 2 * (m ||| n) + max a b := by
  have d1 := Nat.div_add_mod ((2 * m + a) &&& (2 * n + b)) 2
  have d2 := Nat.div_add_mod ((2 * m + a) ||| (2 * n + b)) 2
  rw [Nat.and_div_two, show (2 * m + a) / 2 = m by omega, show (2 * n + b) / 2 = n by omega] at d1
  rw [Nat.or_div_two, show (2 * m + a) / 2 = m by omega, show (2 * n + b) / 2 = n by omega] at d2
  have e1 := @Nat.and_mod_two_eq_one (2 * m + a) (2 * n + b)
  have e2 := @Nat.or_mod_two_eq_one (2 * m + a) (2 * n + b)
  have h1 : a = 0 ∨ a = 1 := by omega
  have h2 : b = 0 ∨ b = 1 := by omega
  rcases h1 with rfl | rfl <;> rcases h2 with rfl | rfl <;> constructor <;> omega
theorem bf_and : BitF Builtin.bitAnd (fun a b => a * b) := by
  refine ⟨rfl, fun x y a b x0 y0 a0 a1 b0 b1 => ?_, fun a b a0 a1 b0 b1 => ?_⟩
  · rw [bitAnd_pp (by omega) (by omega), bitAnd_pp x0 y0]
    have e := (nat_bit (m := x.toNat) (n := y.toNat) (a := a.toNat) (b := b.toNat) (by omega) (by omega)).1
    rw [show 2 * x.toNat + a.toNat = (2 * x + a).toNat by omega, show 2 * y.toNat + b.toNat = (2 * y + b).toNat by omega] at e
    rw [e]
    have h1 : a = 0 ∨ a = 1 := by omega
    have h2 : b = 0 ∨ b = 1 := by omega
    rcases h1 with rfl | rfl <;> rcases h2 with rfl | rfl <;> simp
  · have h1 : a = 0 ∨ a = 1 := by omega
    have h2 : b = 0 ∨ b = 1 := by omega
    rcases h1 with rfl | rfl <;> rcases h2 with rfl | rfl <;> decide
theorem bf_or : BitF Builtin.bitOr (fun a b => max a b) := by
  refine ⟨rfl, fun x y a b x0 y0 a0 a1 b0 b1 => ?_, fun a b a0 a1 b0 b1 => ?_⟩
  · rw [Bits.bitOr_pp (by omega) (by omega), Bits.bitOr_pp x0 y0]
    have e := (nat_bit (m := x.toNat) (n := y.toNat) (a := a.toNat) (b := b.toNat) (by omega) (by omega)).2
    rw [show 2 * x.toNat + a.toNat = (2 * x + a).toNat by omega, show 2 * y.toNat + b.toNat = (2 * y + b).toNat by omega] at e
    rw [e]
    omega
  · show 0 ≤ max a b ∧ max a b ≤ 1
    omega
theorem bf_xor : BitF Builtin.bitXor (fun a b => if a = b then 0 else 1) := by
  refine ⟨rfl, fun x y a b x0 y0 a0 a1 b0 b1 => ?_, fun a b a0 a1 b0 b1 => ?_⟩
  · show Builtin.bitOr _ _ - Builtin.bitAnd _ _ = 2 * (Builtin.bitOr x y - Builtin.bitAnd x y) + _
    rw [bf_or.s x y a b x0 y0 a0 a1 b0 b1, bf_and.s x y a b x0 y0 a0 a1 b0 b1]
    have h1 : a = 0 ∨ a = 1 := by omega
    have h2 : b = 0 ∨ b = 1 := by omega
    rcases h1 with rfl | rfl <;> rcases h2 with rfl | rfl <;> simp <;> omega
  · split <;> omega
theorem cut_take {zs : List Int} {L : Nat} (h : L ≤ zs.length) : cutV (zs.map V.int) none (some (L : Int)) = (zs.take L).map V.int := by
  unfold cutV
  rw [List.length_map, sIx_some (by omega) (by omega), Int.toNat_natCast, ← List.map_drop, ← List.map_take]
  rfl
theorem cut_drop {zs : List Int} {L : Nat} (h : L ≤ zs.length) : cutV (zs.map V.int) (some (L : Int)) none = (zs.drop L).map V.int := by
  unfold cutV
  rw [List.length_map, sIx_some (by omega) (by omega), Int.toNat_natCast, ← List.map_drop, ← List.map_take]
  congr 1
  show (zs.drop L).take (zs.length - L) = _
  rw [← List.length_drop, List.take_length]

/-! the low bits of sums, products, moved and mixed words, at every width (plain) -/
section
variable {b v t u : Int} {n : Nat}
theorem low_dv (ob : b % 2 = 1) (n : Nat) (t : Int) : ∃ c, b * lowS b n t = t + 2 ^ n * c := ⟨-(hvs b n t), by have := lowS_eq ob n t; grind⟩
theorem low_mk {r : Int} (ob : b % 2 = 1) (c : Int) (e : b * r = t + 2 ^ n * c) : lowS b n t = r % 2 ^ n := by
  refine (low_is ob ⟨Int.emod_nonneg _ (by have := two_pow_pos n; omega), Int.emod_lt_of_pos _ (two_pow_pos n), ?_⟩).symm
  have m := Int.emod_add_mul_ediv r (2 ^ n)
  generalize (2 : Int) ^ n = M at *
  generalize r % M = a at *
  generalize r / M = d at *
  refine ⟨c - b * d, ?_⟩
  grind
theorem low_add (ob : b % 2 = 1) (ov : v % 2 = 1) : lowS (b * v) n (t * v + u * b) = (lowS b n t + lowS v n u) % 2 ^ n := by
  obtain ⟨c, e⟩ := low_dv ob n t
  obtain ⟨d, f⟩ := low_dv ov n u
  exact low_mk (odd_mul ob ov) (v * c + b * d) (by grind)
theorem low_sub (ob : b % 2 = 1) (ov : v % 2 = 1) : lowS (b * v) n (t * v - u * b) = (lowS b n t - lowS v n u) % 2 ^ n := by
  obtain ⟨c, e⟩ := low_dv ob n t
  obtain ⟨d, f⟩ := low_dv ov n u
  exact low_mk (odd_mul ob ov) (v * c - b * d) (by grind)
theorem low_times (ob : b % 2 = 1) (ov : v % 2 = 1) : lowS (b * v) n (t * u) = (lowS b n t * lowS v n u) % 2 ^ n := by
  obtain ⟨c, e⟩ := low_dv ob n t
  obtain ⟨d, f⟩ := low_dv ov n u
  refine low_mk (odd_mul ob ov) (c * u + d * t + 2 ^ n * c * d) ?_
  have : b * v * (lowS b n t * lowS v n u) = (b * lowS b n t) * (v * lowS v n u) := by grind
  rw [this, e, f]
  grind
theorem low_neg (ob : b % 2 = 1) : lowS b n (0 - t) = (0 - lowS b n t) % 2 ^ n := by
  obtain ⟨c, e⟩ := low_dv ob n t
  exact low_mk ob (-c) (by grind)
theorem low_inv (ob : b % 2 = 1) : lowS b n (0 - t - b) = 2 ^ n - 1 - lowS b n t := by
  obtain ⟨c, e⟩ := low_dv ob n t
  have bd := lowS_bd b n t
  have h := low_mk (t := 0 - t - b) (n := n) (r := 2 ^ n - 1 - lowS b n t) ob (b - c) (by grind)
  rw [h, Int.emod_eq_of_lt (by omega) (by omega)]
theorem low_shl (ob : b % 2 = 1) (k : Nat) : lowS b n (t * 2 ^ k) = (lowS b n t * 2 ^ k) % 2 ^ n := by
  obtain ⟨c, e⟩ := low_dv ob n t
  exact low_mk ob (c * 2 ^ k) (by grind)
theorem low_split (b : Int) : ∀ (k n : Nat) (t : Int), lowS b (k + n) t = lowS b k t + 2 ^ k * lowS b n (hvs b k t)
  | 0, n, t => by simp [lowS, hvs]
  | k + 1, n, t => by
    rw [show k + 1 + n = (k + n) + 1 by omega]
    show t % 2 + 2 * lowS b (k + n) (hv b t) = t % 2 + 2 * lowS b k (hv b t) + 2 ^ (k + 1) * lowS b n (hvs b k (hv b t))
    rw [low_split b k n (hv b t), Int.pow_succ]
    grind
theorem low_shr (b t : Int) (k n : Nat) : lowS b n (hvs b k t) = lowS b (k + n) t / 2 ^ k := by
  have h := lowS_bd b k t
  rw [low_split, Int.add_mul_ediv_left _ _ (by have := two_pow_pos k; omega), Int.ediv_eq_zero_of_lt h.1 h.2, Int.zero_add]
theorem low_less (b t : Int) (k n : Nat) : lowS b k t = lowS b (k + n) t % 2 ^ k := by
  have h := lowS_bd b k t
  rw [low_split, Int.add_mul_emod_self_left, Int.emod_eq_of_lt h.1 h.2]
/-- the state behind n bits -/
theorem hvs_mk {r h : Int} (ob : b % 2 = 1) (e : t = b * r + 2 ^ n * h) (r0 : 0 ≤ r) (r1 : r < 2 ^ n) : lowS b n t = r ∧ hvs b n t = h := by
  have l := low_mk (n := n) (r := r) (t := t) ob (-h) (by grind)
  rw [Int.emod_eq_of_lt r0 r1] at l
  refine ⟨l, ?_⟩
  have f := lowS_eq ob n t
  rw [l] at f
  have p := two_pow_pos n
  exact (Int.eq_of_mul_eq_mul_left (by omega) (by omega : (2 : Int) ^ n * h = 2 ^ n * hvs b n t)).symm
/-- words with the same low bits at every width are equal -/
theorem low_ext (ob : b % 2 = 1) (ov : v % 2 = 1) (h : ∀ n, lowS b n t = lowS v n u) : t * v = u * b := by
  have g := gap_at ob ov ((t * v - u * b).natAbs) (h _)
  have l : (t * v - u * b).natAbs < 2 ^ (t * v - u * b).natAbs := Nat.lt_two_pow_self
  by_cases z : t * v - u * b = 0
  · omega
  · exfalso
    generalize v * hvs b (t * v - u * b).natAbs t - b * hvs v (t * v - u * b).natAbs u = y at g
    have e : (t * v - u * b).natAbs = 2 ^ (t * v - u * b).natAbs * y.natAbs := by
      have := congrArg Int.natAbs g
      rw [Int.natAbs_mul, Int.natAbs_pow] at this
      exact this
    by_cases y0 : y = 0
    · rw [y0, Int.mul_zero] at g; exact z g
    · have : 2 ^ (t * v - u * b).natAbs * 1 ≤ 2 ^ (t * v - u * b).natAbs * y.natAbs := Nat.mul_le_mul_left _ (by omega)
      omega
end
/-! mixed words, at every place -/
section
variable {b v t u : Int} {L S Sa Sb La Lb : Nat} {o f : Int → Int → Int} {s0 : Str}
theorem mix_state (B : BitOp s0 o) (ps : 1 ≤ S) : lowS (1 - 2 ^ S) L (mixT o t b u v L S) = mixZ o t b u v (L + S) % 2 ^ L ∧ hvs (1 - 2 ^ S) L (mixT o t b u v L S) = mixZ o t b u v (L + S) / 2 ^ L := by
  have p := two_pow_pos L
  exact hvs_mk (bot_odd ps) (by unfold mixT; grind) (Int.emod_nonneg _ (by omega)) (Int.emod_lt_of_pos _ p)
theorem mix_cyc (B : BitOp s0 o) (ps : 1 ≤ S) : hvs (1 - 2 ^ S) S (hvs (1 - 2 ^ S) L (mixT o t b u v L S)) = hvs (1 - 2 ^ S) L (mixT o t b u v L S) := by
  have z := mixZ_bd B t b u v (L + S)
  have pL := two_pow_pos L
  rw [(mix_state B ps).2]
  have d0 := Int.ediv_nonneg z.1 (Int.le_of_lt pL)
  have d1 : mixZ o t b u v (L + S) / 2 ^ L < 2 ^ S := by
    apply Int.ediv_lt_of_lt_mul pL
    rw [Int.pow_add, Int.mul_comm] at z
    exact z.2
  exact (hvs_mk (t := mixZ o t b u v (L + S) / 2 ^ L) (bot_odd ps) (by grind) d0 d1).2
end
section
variable {b v t u : Int} {L S : Nat} {o f : Int → Int → Int} {s0 : Str}
theorem per_mul {y : Int} {p k : Nat} (h : hvs b p y = y) : hvs b (k * p) y = y := hvs_cyc h k
/-- a word's bits come again after a multiple of its span -/
theorem bit_back {N i : Nat} (ob : b % 2 = 1) (pb : 0 < b) (g : Int.gcd t b = 1) {La Sa : Nat} (hL : IsLead b t La) (hS : IsSpan b Sa) (d : Sa ∣ S) (hi : La ≤ i) : hvs b (i + S) t = hvs b i t := by
  obtain ⟨k, rfl⟩ := d
  have e := per ob pb g hL hS
  rw [Nat.add_comm, hvs_add] at e
  rw [show i + Sa * k = (i - La) + (k * Sa + La) by rw [Nat.mul_comm]; omega, hvs_add, hvs_add, hvs_cyc e, ← hvs_add]
  congr 1
  omega
end
section
variable {b v : Int} {L S : Nat} {o f : Int → Int → Int} {s0 : Str}
theorem mixZ_succ (B : BitF o f) (t u : Int) (n : Nat) : mixZ o t b u v (n + 1) = f (t % 2) (u % 2) + 2 * mixZ o (hv b t) b (hv v u) v n := by
  unfold mixZ
  show o (t % 2 + 2 * lowS b n (hv b t)) (u % 2 + 2 * lowS v n (hv v u)) = _
  have l1 := lowS_bd b n (hv b t)
  have l2 := lowS_bd v n (hv v u)
  rw [Int.add_comm (t % 2), Int.add_comm (u % 2), B.s _ _ _ _ l1.1 l2.1 (by omega) (by omega) (by omega) (by omega), Int.add_comm]
theorem mixZ_bit (B : BitF o f) : ∀ (n i : Nat) (t u : Int), i < n → mixZ o t b u v n / 2 ^ i % 2 = f (hvs b i t % 2) (hvs v i u % 2)
  | 0, i, t, u, h => by omega
  | n + 1, 0, t, u, h => by
    have fb := B.b (t % 2) (u % 2) (by omega) (by omega) (by omega) (by omega)
    rw [mixZ_succ B, Int.pow_zero, Int.ediv_one]
    show _ = f (t % 2) (u % 2)
    omega
  | n + 1, i + 1, t, u, h => by
    have fb := B.b (t % 2) (u % 2) (by omega) (by omega) (by omega) (by omega)
    have e : (f (t % 2) (u % 2) + 2 * mixZ o (hv b t) b (hv v u) v n) / 2 = mixZ o (hv b t) b (hv v u) v n := by omega
    rw [mixZ_succ B, show (2 : Int) ^ (i + 1) = 2 * 2 ^ i by rw [Int.pow_succ, Int.mul_comm], ← Int.ediv_ediv_of_nonneg (show (0 : Int) ≤ 2 by decide), e, mixZ_bit B n i (hv b t) (hv v u) (by omega)]
    rfl
theorem low_bits_of (B : BitF o f) {q : Int} : ∀ (n : Nat) (X t u : Int), (∀ i, i < n → hvs q i X % 2 = f (hvs b i t % 2) (hvs v i u % 2)) → lowS q n X = mixZ o t b u v n
  | 0, X, t, u, _ => by
    show 0 = o 0 0
    exact B.z.symm
  | n + 1, X, t, u, h => by
    rw [mixZ_succ B, ← low_bits_of B n (hv q X) (hv b t) (hv v u) (fun i hi => h (i + 1) (by omega))]
    show X % 2 + 2 * lowS q n (hv q X) = _
    have h0 := h 0 (by omega)
    have e : X % 2 = f (t % 2) (u % 2) := h0
    rw [e]
/-- the bits of a mixed word are those of both, at every place -/
theorem mix_bit {t u : Int} {La Lb Sa Sb : Nat} (B : BitOp s0 o) (F : BitF o f) (ob : b % 2 = 1) (pb : 0 < b) (g1 : Int.gcd t b = 1) (ov : v % 2 = 1) (pv : 0 < v) (g2 : Int.gcd u v = 1) (hLa : IsLead b t La) (hLb : IsLead v u Lb) (hSa : IsSpan b Sa) (hSb : IsSpan v Sb) :
    ∀ i, hvs (1 - 2 ^ Nat.lcm Sa Sb) i (mixT o t b u v (max La Lb) (Nat.lcm Sa Sb)) % 2 = f (hvs b i t % 2) (hvs v i u % 2) := by
  have ps := lcm_pos hSa.pos hSb.pos
  have d1 := Nat.dvd_lcm_left Sa Sb
  have d2 := Nat.dvd_lcm_right Sa Sb
  generalize Nat.lcm Sa Sb = S at *
  have m1 : La ≤ max La Lb := Nat.le_max_left _ _
  have m2 : Lb ≤ max La Lb := Nat.le_max_right _ _
  generalize max La Lb = L at *
  intro i
  induction i using Nat.strongRecOn with
  | ind i ih =>
    by_cases z : i < L + S
    · rw [← bit_lowN (n := L + S) z, mix_low B t b u v ps (Nat.le_refl _), Int.emod_eq_of_lt (mixZ_bd B t b u v (L + S)).1 (mixZ_bd B t b u v (L + S)).2]
      exact mixZ_bit F (L + S) i t u z
    · have e := mix_cyc (t := t) (b := b) (u := u) (v := v) (L := L) B ps
      have h1 : hvs (1 - 2 ^ S) i (mixT o t b u v L S) = hvs (1 - 2 ^ S) (i - S) (mixT o t b u v L S) := by
        rw [show i = (i - S - L) + (S + L) by omega, hvs_add, hvs_add, e, ← hvs_add]
        congr 1
        omega
      have h2 := bit_back (N := 0) (i := i - S) ob pb g1 hLa hSa d1 (by omega)
      have h3 := bit_back (N := 0) (i := i - S) ov pv g2 hLb hSb d2 (by omega)
      rw [show i - S + S = i by omega] at h2 h3
      rw [h1, h2, h3]
      exact ih (i - S) (by omega)
/-- the low bits of a mixed word, at every width -/
theorem mix_all {t u : Int} {La Lb Sa Sb : Nat} (B : BitOp s0 o) (F : BitF o f) (ob : b % 2 = 1) (pb : 0 < b) (g1 : Int.gcd t b = 1) (ov : v % 2 = 1) (pv : 0 < v) (g2 : Int.gcd u v = 1) (hLa : IsLead b t La) (hLb : IsLead v u Lb) (hSa : IsSpan b Sa) (hSb : IsSpan v Sb) (n : Nat) :
    lowS (1 - 2 ^ Nat.lcm Sa Sb) n (mixT o t b u v (max La Lb) (Nat.lcm Sa Sb)) = o (lowS b n t) (lowS v n u) :=
  low_bits_of F n _ t u fun i _ => mix_bit B F ob pb g1 ov pv g2 hLa hLb hSa hSb i
end

/-! words by their low bits: each sign gives a word whose low bits, at every width, are those of the sign -/
/-- the bottom divides 2 ** 60 - 1 times the top -/
def Z60 (P Q : Int) : Prop := Q ∣ (2 ^ 60 - 1) * P
/-- a word of a fraction with an odd bottom, its size, its span within 60 -/
structure Wk (N : Nat) (P Q : Int) : Prop where
  bd : Bd N P Q
  oq : Q % 2 = 1
section
variable {n m : Nat} {a b c d : Int}
theorem z_int (i : Int) : Z60 i 1 := ⟨(2 ^ 60 - 1) * i, by omega⟩
theorem z_bot {P Q : Int} (h : Q ∣ 2 ^ 60 - 1) : Z60 P Q := by
  obtain ⟨c, e⟩ := h
  exact ⟨c * P, by rw [e]; grind⟩
theorem z_add (h : Z60 a b) (g : Z60 c d) : Z60 (a * d + c * b) (b * d) := by
  obtain ⟨x, e⟩ := h
  obtain ⟨y, f⟩ := g
  unfold Z60
  generalize (2 : Int) ^ 60 - 1 = M at *
  exact ⟨x + y, by grind⟩
theorem z_sub (h : Z60 a b) (g : Z60 c d) : Z60 (a * d - c * b) (b * d) := by
  obtain ⟨x, e⟩ := h
  obtain ⟨y, f⟩ := g
  unfold Z60
  generalize (2 : Int) ^ 60 - 1 = M at *
  exact ⟨x - y, by grind⟩
theorem z_neg (h : Z60 a b) : Z60 (0 - a) b := by
  obtain ⟨x, e⟩ := h
  unfold Z60
  generalize (2 : Int) ^ 60 - 1 = M at *
  exact ⟨-x, by grind⟩
theorem z_inv (h : Z60 a b) : Z60 (0 - a - b) b := by
  obtain ⟨x, e⟩ := h
  unfold Z60
  generalize (2 : Int) ^ 60 - 1 = M at *
  exact ⟨-x - M, by grind⟩
theorem z_shl (h : Z60 a b) (k : Nat) : Z60 (a * 2 ^ k) b := by
  obtain ⟨x, e⟩ := h
  unfold Z60
  generalize (2 : Int) ^ 60 - 1 = M at *
  exact ⟨x * 2 ^ k, by grind⟩
theorem z_shr (h : Z60 a b) (ob : b % 2 = 1) (k : Nat) : Z60 (hvs b k a) b := by
  obtain ⟨x, e⟩ := h
  have l := lowS_eq ob k a
  unfold Z60
  refine odd_dvdp ob k ?_
  generalize (2 : Int) ^ 60 - 1 = M at *
  exact ⟨x - M * lowS b k a, by grind⟩
/-- the span divides 60 -/
theorem z_span (h : Z60 a b) (nb : b ≠ 0) {S : Nat} (ob : wB a b % 2 = 1) (hS : IsSpan (wB a b) S) : S ∣ 60 := by
  have d : wB a b ∣ 2 ^ 60 - 1 := by
    obtain ⟨x, e⟩ := h
    have e1 := wT_mul (t := a) (b := b)
    have e2 := wB_mul (t := a) (b := b)
    have sn := wSh_ne (t := a) nb
    have e3 : (2 ^ 60 - 1) * wT a b = wB a b * x := by
      have e4 : (2 ^ 60 - 1) * (wT a b * wSh a b) = (wB a b * wSh a b) * x := by rw [e1, e2]; exact e
      generalize (2 : Int) ^ 60 - 1 = M at *
      generalize wT a b = t at *
      generalize wB a b = w at *
      generalize wSh a b = s at *
      exact Int.eq_of_mul_eq_mul_right sn (show M * t * s = w * x * s by grind)
    exact dv_x (L := 0) ob (nm_co nb) ⟨x, e3⟩
  have m := Nat.mod_add_div 60 S
  by_cases z : 60 % S = 0
  · exact Nat.dvd_of_mod_eq_zero z
  · exfalso
    have lt := Nat.mod_lt 60 hS.pos
    refine hS.no (60 % S) (by omega) lt ?_
    have key : ∀ k : Nat, wB a b ∣ 2 ^ (S * k) - 1 := fun k => by
      induction k with
      | zero => exact ⟨0, by simp⟩
      | succ k ih =>
        obtain ⟨x, ex⟩ := ih
        obtain ⟨y, ey⟩ := hS.dv
        exact ⟨x * 2 ^ S + y, by rw [Nat.mul_succ, Int.pow_add]; grind⟩
    obtain ⟨x, ex⟩ := key (60 / S)
    obtain ⟨y, ey⟩ := d
    refine odd_dvdp ob (S * (60 / S)) ⟨y - x, ?_⟩
    have e : (2 : Int) ^ 60 = 2 ^ (S * (60 / S)) * 2 ^ (60 % S) := by rw [← Int.pow_add]; congr 1; omega
    rw [e] at ey
    grind
theorem spm_60 (w1 : Bd n a b) (z1 : Z60 a b) (w2 : Bd m c d) (z2 : Z60 c d) : SpM a b c d 60 := fun S1 S2 h1 h2 =>
  Nat.le_of_dvd (by decide) (Nat.lcm_dvd (z_span z1 w1.ne (odd_nm w1.ok) h1) (z_span z2 w2.ne (odd_nm w2.ok) h2))
theorem pow_dvd {S T : Nat} (h : S ∣ T) : (1 : Int) - 2 ^ S ∣ 2 ^ T - 1 := by
  obtain ⟨k, rfl⟩ := h
  induction k with
  | zero => exact ⟨0, by simp⟩
  | succ k ih =>
    obtain ⟨x, e⟩ := ih
    exact ⟨x * 2 ^ S - 1, by rw [Nat.mul_succ, Int.pow_add]; grind⟩
/-- words with the same low bits have the same fields -/
theorem eq_low (w1 : Wk n a b) (w2 : Wk m c d) (h : ∀ i, lowS b i a = lowS d i c) : wT a b = wT c d ∧ wB a b = wB c d := nm_eq w1.bd.ne w2.bd.ne (low_ext w1.oq w2.oq h)
end
/-! the signs -/
section
variable {F H : Hp} {L : List (Addr × HO)} {C I r d0 : Addr} {a b c d i : Int} {x y : V} {R : VK} {E : XK} {n m : Nat} {s0 : Str} {o f : Int → Int → Int}
theorem c_addS (h : Own F H L) (e : H r = some (cw C d0 a b)) (th : Tn C H y c d) (w1 : Wk n a b) (w2 : Wk m c d) (hn : n ≤ 3900) (hm : m ≤ 3900)
    (k : ∀ P Q p dW H', H p = none → Own F H' ((p, cw C dW P Q) :: L) → Wk (n + m + 1) P Q → (∀ j, lowS Q j P = (lowS b j a + lowS d j c) % 2 ^ j) → (Z60 a b → Z60 c d → Z60 P Q) → R (.ref p) H') : sp_bin C (fun t b u v => t * v + u * b) (fun t b u v => b * v) [.ref r, y] H R E :=
  c_addC h e th w1.bd w2.bd hn hm fun p dW H' np ow bw => k _ _ p dW H' np ow ⟨bw, odd_mul w1.oq w2.oq⟩ (fun j => low_add w1.oq w2.oq) z_add
theorem c_subS (h : Own F H L) (e : H r = some (cw C d0 a b)) (th : Tn C H y c d) (w1 : Wk n a b) (w2 : Wk m c d) (hn : n ≤ 3900) (hm : m ≤ 3900)
    (k : ∀ P Q p dW H', H p = none → Own F H' ((p, cw C dW P Q) :: L) → Wk (n + m + 1) P Q → (∀ j, lowS Q j P = (lowS b j a - lowS d j c) % 2 ^ j) → (Z60 a b → Z60 c d → Z60 P Q) → R (.ref p) H') : sp_bin C (fun t b u v => t * v - u * b) (fun t b u v => b * v) [.ref r, y] H R E :=
  c_subC h e th w1.bd w2.bd hn hm fun p dW H' np ow bw => k _ _ p dW H' np ow ⟨bw, odd_mul w1.oq w2.oq⟩ (fun j => low_sub w1.oq w2.oq) z_sub
theorem c_rsubS (h : Own F H L) (e : H r = some (cw C d0 a b)) (th : Tn C H y c d) (w1 : Wk n a b) (w2 : Wk m c d) (hn : n ≤ 3900) (hm : m ≤ 3900)
    (k : ∀ P Q p dW H', H p = none → Own F H' ((p, cw C dW P Q) :: L) → Wk (m + n + 1) P Q → (∀ j, lowS Q j P = (lowS d j c - lowS b j a) % 2 ^ j) → (Z60 a b → Z60 c d → Z60 P Q) → R (.ref p) H') : sp_bin C (fun t b u v => u * b - t * v) (fun t b u v => b * v) [.ref r, y] H R E :=
  c_rsubC h e th w1.bd w2.bd hn hm fun p dW H' np ow bw => k _ _ p dW H' np ow ⟨bw, odd_mul w2.oq w1.oq⟩ (fun j => low_sub w2.oq w1.oq) (fun z1 z2 => z_sub z2 z1)
theorem c_mulS (h : Own F H L) (e : H r = some (cw C d0 a b)) (th : Tn C H y c d) (w1 : Wk n a b) (w2 : Wk m c d) (hn : n ≤ 3900) (hm : m ≤ 3900)
    (k : ∀ P Q p dW H', H p = none → Own F H' ((p, cw C dW P Q) :: L) → Wk (n + m) P Q → (∀ j, lowS Q j P = (lowS b j a * lowS d j c) % 2 ^ j) → R (.ref p) H') : sp_bin C (fun t b u v => t * u) (fun t b u v => b * v) [.ref r, y] H R E :=
  c_mulC h e th w1.bd w2.bd hn hm fun p dW H' np ow bw => k _ _ p dW H' np ow ⟨bw, odd_mul w1.oq w2.oq⟩ (fun j => low_times w1.oq w2.oq)
theorem c_negS (h : Own F H L) (e : H r = some (cw C d0 a b)) (w1 : Wk n a b) (hn : n ≤ 3900) (k : ∀ P Q p dW H', H p = none → Own F H' ((p, cw C dW P Q) :: L) → Wk n P Q → (∀ j, lowS Q j P = (0 - lowS b j a) % 2 ^ j) → (Z60 a b → Z60 P Q) → R (.ref p) H') : sp_un C (fun t b => -t) [.ref r] H R E :=
  c_negC h e w1.bd hn fun p dW H' np ow bw => k _ _ p dW H' np ow ⟨bw, w1.oq⟩ (fun j => low_neg w1.oq) z_neg
theorem c_invS (h : Own F H L) (e : H r = some (cw C d0 a b)) (w1 : Wk n a b) (hn : n ≤ 3900) (k : ∀ P Q p dW H', H p = none → Own F H' ((p, cw C dW P Q) :: L) → Wk (n + 1) P Q → (∀ j, lowS Q j P = 2 ^ j - 1 - lowS b j a) → (Z60 a b → Z60 P Q) → R (.ref p) H') : sp_un C (fun t b => -t - b) [.ref r] H R E :=
  c_invC h e w1.bd hn fun p dW H' np ow bw => k _ _ p dW H' np ow ⟨bw, w1.oq⟩ (fun j => low_inv w1.oq) z_inv
theorem c_shlS (h : Own F H L) (e : H r = some (cw C d0 a b)) (w1 : Wk n a b) (hn : n ≤ 3900) (i0 : 0 ≤ i) (i1 : i ≤ 10000)
    (k : ∀ P Q p dW H', H p = none → Own F H' ((p, cw C dW P Q) :: L) → Wk (n + i.toNat) P Q → (∀ j, lowS Q j P = (lowS b j a * 2 ^ i.toNat) % 2 ^ j) → (Z60 a b → Z60 P Q) → R (.ref p) H') : sp_shl C I [.ref r, .int i] H R E :=
  c_shlP h e w1.bd hn i0 i1 fun p dW H' np ow bw => k _ _ p dW H' np ow ⟨bw, w1.oq⟩ (fun j => low_shl w1.oq _) (fun z => z_shl z _)
theorem c_shrS (h : Own F H L) (e : H r = some (cw C d0 a b)) (w1 : Wk n a b) (hn : n ≤ 3900) (i0 : 0 ≤ i) (i1 : i ≤ 10000)
    (k : ∀ P Q p dW H', H p = none → Own F H' ((p, cw C dW P Q) :: L) → Wk n P Q → (∀ j, lowS Q j P = lowS b (i.toNat + j) a / 2 ^ i.toNat) → (Z60 a b → Z60 P Q) → R (.ref p) H') : sp_shr C I [.ref r, .int i] H R E :=
  c_shrP h e w1.bd hn w1.oq i0 i1 fun p dW H' np ow bw => k _ _ p dW H' np ow ⟨bw, w1.oq⟩ (fun j => low_shr _ _ _ _) (fun z => z_shr z w1.oq _)
theorem own_mixS (B : BitOp s0 o) (G : BitF o f) (h : Own F H L) (t1 : Tn C H x a b) (t2 : Tn C H y c d) (rr : (∃ r, x = .ref r) ∨ ∃ r, y = .ref r) (w1 : Wk n a b) (w2 : Wk m c d) (z1 : Z60 a b) (z2 : Z60 c d) (hn : n ≤ 3900) (hm : m ≤ 3900)
    (k : ∀ P Q p dW H', H p = none → Own F H' ((p, cw C dW P Q) :: L) → Wk (max n m + 61) P Q → (∀ j, lowS Q j P = o (lowS b j a) (lowS d j c)) → Z60 P Q → R (.ref p) H') : cOwn C (sp_mx C o) (sp_mx C o) E x y H R := by
  refine own_mix B h t1 t2 rr w1.bd w2.bd (spm_60 w1.bd z1 w2.bd z2) hn hm (by omega) ?_
  intro L1 L3 S1 S2 p dW H' M np ow bw sp
  have d1 := z_span z1 w1.bd.ne (odd_nm w1.bd.ok) M.s1
  have d2 := z_span z2 w2.bd.ne (odd_nm w2.bd.ok) M.s2
  refine k _ _ p dW H' np ow ⟨bw, bot_odd M.ps⟩ (fun j => ?_) (z_bot (pow_dvd (Nat.lcm_dvd d1 d2)))
  rw [mix_all B G M.o1 M.p1 (nm_co w1.bd.ne) M.o2 M.p2 (nm_co w2.bd.ne) M.l1 M.l2 M.s1 M.s2, low_red w1.oq, low_red w2.oq]
end

/-! identities of numbers below a power of 2 -/
theorem bit_op {o f : Int → Int → Int} (F : BitF o f) (nn : ∀ X Y : Int, 0 ≤ X → 0 ≤ Y → 0 ≤ o X Y) : ∀ (i : Nat) {X Y : Int}, 0 ≤ X → 0 ≤ Y → o X Y / 2 ^ i % 2 = f (X / 2 ^ i % 2) (Y / 2 ^ i % 2)
  | 0, X, Y, x0, y0 => by
    have fb := F.b (X % 2) (Y % 2) (by omega) (by omega) (by omega) (by omega)
    have e := F.s (X / 2) (Y / 2) (X % 2) (Y % 2) (by omega) (by omega) (by omega) (by omega) (by omega) (by omega)
    rw [show 2 * (X / 2) + X % 2 = X by omega, show 2 * (Y / 2) + Y % 2 = Y by omega] at e
    rw [Int.pow_zero, Int.ediv_one, Int.ediv_one, Int.ediv_one]
    omega
  | i + 1, X, Y, x0, y0 => by
    have fb := F.b (X % 2) (Y % 2) (by omega) (by omega) (by omega) (by omega)
    have e := F.s (X / 2) (Y / 2) (X % 2) (Y % 2) (by omega) (by omega) (by omega) (by omega) (by omega) (by omega)
    rw [show 2 * (X / 2) + X % 2 = X by omega, show 2 * (Y / 2) + Y % 2 = Y by omega] at e
    have h : o X Y / 2 = o (X / 2) (Y / 2) := by omega
    have p : ∀ z : Int, z / 2 ^ (i + 1) = z / 2 / 2 ^ i := fun z => by rw [show (2 : Int) ^ (i + 1) = 2 * 2 ^ i by rw [Int.pow_succ, Int.mul_comm], Int.ediv_ediv_of_nonneg (by decide)]
    rw [p, p, p, h]
    exact bit_op F nn i (by omega) (by omega)
theorem bit_not : ∀ (i j : Nat) {X : Int}, 0 ≤ X → X < 2 ^ j → i < j → (2 ^ j - 1 - X) / 2 ^ i % 2 = 1 - X / 2 ^ i % 2
  | 0, j, X, x0, x1, h => by
    obtain ⟨d, rfl⟩ := Nat.exists_eq_add_of_le h
    rw [Int.pow_zero, Int.ediv_one, Int.ediv_one, Int.pow_add]
    omega
  | i + 1, 0, X, x0, x1, h => by omega
  | i + 1, j + 1, X, x0, x1, h => by
    have p : ∀ z : Int, z / 2 ^ (i + 1) = z / 2 / 2 ^ i := fun z => by rw [show (2 : Int) ^ (i + 1) = 2 * 2 ^ i by rw [Int.pow_succ, Int.mul_comm], Int.ediv_ediv_of_nonneg (by decide)]
    rw [Int.pow_succ] at x1
    have e : ((2 : Int) ^ (j + 1) - 1 - X) / 2 = 2 ^ j - 1 - X / 2 := by rw [Int.pow_succ]; omega
    rw [p, p, e]
    exact bit_not i j (by omega) (by omega) (by omega)
theorem bit_ext : ∀ (j : Nat) {r s : Int}, 0 ≤ r → r < 2 ^ j → 0 ≤ s → s < 2 ^ j → (∀ i, i < j → r / 2 ^ i % 2 = s / 2 ^ i % 2) → r = s
  | 0, r, s, r0, r1, s0, s1, _ => by rw [Int.pow_zero] at r1 s1; omega
  | j + 1, r, s, r0, r1, s0, s1, h => by
    rw [Int.pow_succ] at r1 s1
    have h0 := h 0 (by omega)
    rw [Int.pow_zero, Int.ediv_one, Int.ediv_one] at h0
    have p : ∀ (i : Nat) (z : Int), z / 2 ^ (i + 1) = z / 2 / 2 ^ i := fun i z => by rw [show (2 : Int) ^ (i + 1) = 2 * 2 ^ i by rw [Int.pow_succ, Int.mul_comm], Int.ediv_ediv_of_nonneg (by decide)]
    have e : r / 2 = s / 2 := bit_ext j (by omega) (by omega) (by omega) (by omega) fun i hi => by
      have := h (i + 1) (by omega)
      rw [p, p] at this
      exact this
    omega
section
variable {j : Nat} {X Y Z : Int}
theorem band_nn (X Y : Int) (x0 : 0 ≤ X) (y0 : 0 ≤ Y) : 0 ≤ Builtin.bitAnd X Y := by rw [bitAnd_pp x0 y0]; omega
theorem bor_nn (X Y : Int) (x0 : 0 ≤ X) (y0 : 0 ≤ Y) : 0 ≤ Builtin.bitOr X Y := by rw [Bits.bitOr_pp x0 y0]; omega
theorem bxor_nn (X Y : Int) (x0 : 0 ≤ X) (y0 : 0 ≤ Y) : 0 ≤ Builtin.bitXor X Y := by rw [Bits.bitXor_pp x0 y0]; omega
theorem b_and (i : Nat) (x0 : 0 ≤ X) (y0 : 0 ≤ Y) : Builtin.bitAnd X Y / 2 ^ i % 2 = (X / 2 ^ i % 2) * (Y / 2 ^ i % 2) := bit_op bf_and band_nn i x0 y0
theorem b_or (i : Nat) (x0 : 0 ≤ X) (y0 : 0 ≤ Y) : Builtin.bitOr X Y / 2 ^ i % 2 = max (X / 2 ^ i % 2) (Y / 2 ^ i % 2) := bit_op bf_or bor_nn i x0 y0
theorem b_xor (i : Nat) (x0 : 0 ≤ X) (y0 : 0 ≤ Y) : Builtin.bitXor X Y / 2 ^ i % 2 = if X / 2 ^ i % 2 = Y / 2 ^ i % 2 then 0 else 1 := bit_op bf_xor bxor_nn i x0 y0
/-- below a power of 2 -/
def Lt (j : Nat) (X : Int) : Prop := 0 ≤ X ∧ X < 2 ^ j
theorem lt_and (x : Lt j X) (y : Lt j Y) : Lt j (Builtin.bitAnd X Y) := bo_and.bd x.1 x.2 y.1 y.2
theorem lt_or (x : Lt j X) (y : Lt j Y) : Lt j (Builtin.bitOr X Y) := bo_or.bd x.1 x.2 y.1 y.2
theorem lt_xor (x : Lt j X) (y : Lt j Y) : Lt j (Builtin.bitXor X Y) := bo_xor.bd x.1 x.2 y.1 y.2
theorem lt_not (x : Lt j X) : Lt j (2 ^ j - 1 - X) := by unfold Lt at *; omega
theorem lt_mod (j : Nat) (X : Int) : Lt j (X % 2 ^ j) := ⟨Int.emod_nonneg _ (by have := two_pow_pos j; omega), Int.emod_lt_of_pos _ (two_pow_pos j)⟩
theorem lt_low (b t : Int) (j : Nat) : Lt j (lowS b j t) := lowS_bd b j t
/-- sums of both -/
theorem or_and (X Y : Int) : Builtin.bitOr X Y = X + Y - Builtin.bitAnd X Y := bitOr_and X Y
theorem xor_and (X Y : Int) : Builtin.bitXor X Y = X + Y - 2 * Builtin.bitAnd X Y := by
  show Builtin.bitOr X Y - Builtin.bitAnd X Y = _
  rw [bitOr_and]
  omega
theorem i_andn (x : Lt j X) (y : Lt j Y) : Builtin.bitAnd (2 ^ j - 1 - X) Y = Y - Builtin.bitAnd X Y := by
  have o : Builtin.bitOr X (Builtin.bitAnd (2 ^ j - 1 - X) Y) = Builtin.bitOr X Y := by
    refine bit_ext j (lt_or x (lt_and (lt_not x) y)).1 (lt_or x (lt_and (lt_not x) y)).2 (lt_or x y).1 (lt_or x y).2 fun i hi => ?_
    rw [b_or i x.1 (lt_and (lt_not x) y).1, b_or i x.1 y.1, b_and i (lt_not x).1 y.1, bit_not i j x.1 x.2 hi]
    rcases Int.emod_two_eq (X / 2 ^ i) with h | h <;> rcases Int.emod_two_eq (Y / 2 ^ i) with g | g <;> rw [h, g] <;> decide
  have z : Builtin.bitAnd X (Builtin.bitAnd (2 ^ j - 1 - X) Y) = 0 := by
    refine bit_ext j (lt_and x (lt_and (lt_not x) y)).1 (lt_and x (lt_and (lt_not x) y)).2 (by omega) (two_pow_pos j) fun i hi => ?_
    rw [b_and i x.1 (lt_and (lt_not x) y).1, b_and i (lt_not x).1 y.1, bit_not i j x.1 x.2 hi, Int.zero_ediv]
    rcases Int.emod_two_eq (X / 2 ^ i) with h | h <;> rcases Int.emod_two_eq (Y / 2 ^ i) with g | g <;> rw [h, g] <;> decide
  rw [or_and, or_and, z] at o
  omega
end

/-! the law's identities of two numbers below a power of 2 -/
theorem em {M r s : Int} (c : Int) (e : r = s + M * c) : r % M = s % M := by rw [e, Int.add_mul_emod_self_left]
section
variable {j : Nat} {X Y Z : Int}
theorem em_lt (x : Lt j X) : X % 2 ^ j = X := Int.emod_eq_of_lt x.1 x.2
theorem t1 : (2 : Int) ^ Int.toNat 1 = 2 := rfl
theorem s1 (X Y : Int) (j : Nat) : (X + Y) % 2 ^ j = (Builtin.bitXor X Y + Builtin.bitAnd X Y * 2 ^ Int.toNat 1 % 2 ^ j) % 2 ^ j := by
  rw [t1, xor_and]
  have m := Int.emod_add_mul_ediv (Builtin.bitAnd X Y * 2) (2 ^ j)
  exact em (Builtin.bitAnd X Y * 2 / 2 ^ j) (by omega)
theorem s2 (x : Lt j X) (y : Lt j Y) : Builtin.bitOr X Y = ((X + Y) % 2 ^ j - Builtin.bitAnd X Y) % 2 ^ j := by
  have m := Int.emod_add_mul_ediv (X + Y) (2 ^ j)
  have o := or_and X Y
  rw [← em_lt (lt_or x y)]
  exact em ((X + Y) / 2 ^ j) (by omega)
theorem s3 (x : Lt j X) (y : Lt j Y) : Builtin.bitXor X Y = (Builtin.bitOr X Y - Builtin.bitAnd X Y) % 2 ^ j := by
  have o := or_and X Y
  have e := xor_and X Y
  rw [← em_lt (lt_xor x y)]
  exact em 0 (by omega)
theorem s4 (x : Lt j X) (y : Lt j Y) : (X - Y) % 2 ^ j = (Builtin.bitXor X Y - Builtin.bitAnd (2 ^ j - 1 - X) Y * 2 ^ Int.toNat 1 % 2 ^ j) % 2 ^ j := by
  rw [t1, xor_and, i_andn x y]
  have m := Int.emod_add_mul_ediv ((Y - Builtin.bitAnd X Y) * 2) (2 ^ j)
  exact em (-((Y - Builtin.bitAnd X Y) * 2 / 2 ^ j)) (by rw [Int.mul_neg]; omega)
theorem s5 (x : Lt j X) : 2 ^ j - 1 - X = ((0 % 2 ^ j - X) % 2 ^ j - 1 % 2 ^ j) % 2 ^ j := by
  have m := Int.emod_add_mul_ediv (0 % 2 ^ j - X) (2 ^ j)
  have n := Int.emod_add_mul_ediv 1 (2 ^ j)
  rw [← em_lt (lt_not x)]
  rw [Int.zero_emod] at *
  exact em (1 + (0 - X) / 2 ^ j - 1 / 2 ^ j) (by rw [Int.mul_sub, Int.mul_add, Int.mul_one]; omega)
theorem s6 (X : Int) (j : Nat) : (0 - X) % 2 ^ j = (2 ^ j - 1 - X + 1 % 2 ^ j) % 2 ^ j := by
  have n := Int.emod_add_mul_ediv 1 (2 ^ j)
  exact em (1 / 2 ^ j - 1) (by rw [Int.mul_sub, Int.mul_one]; omega)
theorem s7 (X Y : Int) (j : Nat) : (X - Y) % 2 ^ j = 2 ^ j - 1 - (2 ^ j - 1 - X + Y) % 2 ^ j := by
  have m := Int.emod_add_mul_ediv (2 ^ j - 1 - X + Y) (2 ^ j)
  have l := lt_not (lt_mod j (2 ^ j - 1 - X + Y))
  rw [← em_lt l]
  exact em (-((2 ^ j - 1 - X + Y) / 2 ^ j)) (by rw [Int.mul_neg]; omega)
theorem s8 (x : Lt j X) (y : Lt j Y) : 2 ^ j - 1 - Builtin.bitAnd X Y = Builtin.bitOr (2 ^ j - 1 - X) (2 ^ j - 1 - Y) := by
  refine bit_ext j (lt_not (lt_and x y)).1 (lt_not (lt_and x y)).2 (lt_or (lt_not x) (lt_not y)).1 (lt_or (lt_not x) (lt_not y)).2 fun i hi => ?_
  rw [bit_not i j (lt_and x y).1 (lt_and x y).2 hi, b_and i x.1 y.1, b_or i (lt_not x).1 (lt_not y).1, bit_not i j x.1 x.2 hi, bit_not i j y.1 y.2 hi]
  rcases Int.emod_two_eq (X / 2 ^ i) with h | h <;> rcases Int.emod_two_eq (Y / 2 ^ i) with g | g <;> rw [h, g] <;> decide
theorem s9 (x : Lt j X) (y : Lt j Y) : 2 ^ j - 1 - Builtin.bitOr X Y = Builtin.bitAnd (2 ^ j - 1 - X) (2 ^ j - 1 - Y) := by
  refine bit_ext j (lt_not (lt_or x y)).1 (lt_not (lt_or x y)).2 (lt_and (lt_not x) (lt_not y)).1 (lt_and (lt_not x) (lt_not y)).2 fun i hi => ?_
  rw [bit_not i j (lt_or x y).1 (lt_or x y).2 hi, b_or i x.1 y.1, b_and i (lt_not x).1 (lt_not y).1, bit_not i j x.1 x.2 hi, bit_not i j y.1 y.2 hi]
  rcases Int.emod_two_eq (X / 2 ^ i) with h | h <;> rcases Int.emod_two_eq (Y / 2 ^ i) with g | g <;> rw [h, g] <;> decide
theorem s10 (x : Lt j X) : Builtin.bitAnd X (2 ^ j - 1 - X) = 0 := by
  have h := i_andn (lt_not x) x
  have e : 2 ^ j - 1 - (2 ^ j - 1 - X) = X := by omega
  rw [e, bitAnd_self] at h
  have c := bitAnd_comm X (2 ^ j - 1 - X)
  omega
theorem s11 (x : Lt j X) : Builtin.bitXor X (2 ^ j - 1 - X) = (-1) % 2 ^ j := by
  have h := s10 x
  rw [xor_and, h]
  rw [← em_lt (j := j) (X := X + (2 ^ j - 1 - X) - 2 * 0) ⟨by have := two_pow_pos j; omega, by omega⟩]
  exact em 1 (by omega)
theorem s12 (X : Int) : Builtin.bitXor X X = 0 := by rw [xor_and, bitAnd_self]; omega
/-! three numbers -/
theorem a1 (x : Lt j X) (y : Lt j Y) (z : Lt j Z) : Builtin.bitAnd X (Builtin.bitOr Y Z) = Builtin.bitOr (Builtin.bitAnd X Y) (Builtin.bitAnd X Z) := by
  refine bit_ext j (lt_and x (lt_or y z)).1 (lt_and x (lt_or y z)).2 (lt_or (lt_and x y) (lt_and x z)).1 (lt_or (lt_and x y) (lt_and x z)).2 fun i hi => ?_
  rw [b_and i x.1 (lt_or y z).1, b_or i y.1 z.1, b_or i (lt_and x y).1 (lt_and x z).1, b_and i x.1 y.1, b_and i x.1 z.1]
  rcases Int.emod_two_eq (X / 2 ^ i) with h | h <;> rcases Int.emod_two_eq (Y / 2 ^ i) with g | g <;> rcases Int.emod_two_eq (Z / 2 ^ i) with k | k <;> rw [h, g, k] <;> decide
theorem a2 (x : Lt j X) (y : Lt j Y) (z : Lt j Z) : Builtin.bitOr X (Builtin.bitAnd Y Z) = Builtin.bitAnd (Builtin.bitOr X Y) (Builtin.bitOr X Z) := by
  refine bit_ext j (lt_or x (lt_and y z)).1 (lt_or x (lt_and y z)).2 (lt_and (lt_or x y) (lt_or x z)).1 (lt_and (lt_or x y) (lt_or x z)).2 fun i hi => ?_
  rw [b_or i x.1 (lt_and y z).1, b_and i y.1 z.1, b_and i (lt_or x y).1 (lt_or x z).1, b_or i x.1 y.1, b_or i x.1 z.1]
  rcases Int.emod_two_eq (X / 2 ^ i) with h | h <;> rcases Int.emod_two_eq (Y / 2 ^ i) with g | g <;> rcases Int.emod_two_eq (Z / 2 ^ i) with k | k <;> rw [h, g, k] <;> decide
theorem a3 (x : Lt j X) (y : Lt j Y) (z : Lt j Z) : Builtin.bitAnd X (Builtin.bitXor Y Z) = Builtin.bitXor (Builtin.bitAnd X Y) (Builtin.bitAnd X Z) := by
  refine bit_ext j (lt_and x (lt_xor y z)).1 (lt_and x (lt_xor y z)).2 (lt_xor (lt_and x y) (lt_and x z)).1 (lt_xor (lt_and x y) (lt_and x z)).2 fun i hi => ?_
  rw [b_and i x.1 (lt_xor y z).1, b_xor i y.1 z.1, b_xor i (lt_and x y).1 (lt_and x z).1, b_and i x.1 y.1, b_and i x.1 z.1]
  rcases Int.emod_two_eq (X / 2 ^ i) with h | h <;> rcases Int.emod_two_eq (Y / 2 ^ i) with g | g <;> rcases Int.emod_two_eq (Z / 2 ^ i) with k | k <;> rw [h, g, k] <;> decide
theorem a4 (x : Lt j X) (y : Lt j Y) (z : Lt j Z) : Builtin.bitXor X (Builtin.bitXor Y Z) = Builtin.bitXor (Builtin.bitXor X Y) Z := by
  refine bit_ext j (lt_xor x (lt_xor y z)).1 (lt_xor x (lt_xor y z)).2 (lt_xor (lt_xor x y) z).1 (lt_xor (lt_xor x y) z).2 fun i hi => ?_
  rw [b_xor i x.1 (lt_xor y z).1, b_xor i y.1 z.1, b_xor i (lt_xor x y).1 z.1, b_xor i x.1 y.1]
  rcases Int.emod_two_eq (X / 2 ^ i) with h | h <;> rcases Int.emod_two_eq (Y / 2 ^ i) with g | g <;> rcases Int.emod_two_eq (Z / 2 ^ i) with k | k <;> rw [h, g, k] <;> decide
theorem a5 (x : Lt j X) (y : Lt j Y) (z : Lt j Z) : Builtin.bitAnd X (Builtin.bitAnd Y Z) = Builtin.bitAnd (Builtin.bitAnd X Y) Z := by
  refine bit_ext j (lt_and x (lt_and y z)).1 (lt_and x (lt_and y z)).2 (lt_and (lt_and x y) z).1 (lt_and (lt_and x y) z).2 fun i hi => ?_
  rw [b_and i x.1 (lt_and y z).1, b_and i y.1 z.1, b_and i (lt_and x y).1 z.1, b_and i x.1 y.1]
  rcases Int.emod_two_eq (X / 2 ^ i) with h | h <;> rcases Int.emod_two_eq (Y / 2 ^ i) with g | g <;> rcases Int.emod_two_eq (Z / 2 ^ i) with k | k <;> rw [h, g, k] <;> decide
theorem a6 (x : Lt j X) (y : Lt j Y) (z : Lt j Z) : Builtin.bitOr X (Builtin.bitOr Y Z) = Builtin.bitOr (Builtin.bitOr X Y) Z := by
  refine bit_ext j (lt_or x (lt_or y z)).1 (lt_or x (lt_or y z)).2 (lt_or (lt_or x y) z).1 (lt_or (lt_or x y) z).2 fun i hi => ?_
  rw [b_or i x.1 (lt_or y z).1, b_or i y.1 z.1, b_or i (lt_or x y).1 z.1, b_or i x.1 y.1]
  rcases Int.emod_two_eq (X / 2 ^ i) with h | h <;> rcases Int.emod_two_eq (Y / 2 ^ i) with g | g <;> rcases Int.emod_two_eq (Z / 2 ^ i) with k | k <;> rw [h, g, k] <;> decide
end

/-! the law's identities of moved and divided words (plain) -/
section
variable {o f : Int → Int → Int} {X Y : Int} {j k : Nat}
theorem op_half (F : BitF o f) (x0 : 0 ≤ X) (y0 : 0 ≤ Y) : o X Y / 2 = o (X / 2) (Y / 2) ∧ o X Y % 2 = f (X % 2) (Y % 2) := by
  have fb := F.b (X % 2) (Y % 2) (by omega) (by omega) (by omega) (by omega)
  have e := F.s (X / 2) (Y / 2) (X % 2) (Y % 2) (by omega) (by omega) (by omega) (by omega) (by omega) (by omega)
  rw [show 2 * (X / 2) + X % 2 = X by omega, show 2 * (Y / 2) + Y % 2 = Y by omega] at e
  omega
theorem half_pow (i : Nat) (z : Int) : z / 2 ^ (i + 1) = z / 2 / 2 ^ i := by rw [show (2 : Int) ^ (i + 1) = 2 * 2 ^ i by rw [Int.pow_succ, Int.mul_comm], Int.ediv_ediv_of_nonneg (by decide)]
theorem opb_shr (F : BitF o f) : ∀ (k : Nat) {X Y : Int}, 0 ≤ X → 0 ≤ Y → o X Y / 2 ^ k = o (X / 2 ^ k) (Y / 2 ^ k)
  | 0, X, Y, _, _ => by rw [Int.pow_zero, Int.ediv_one, Int.ediv_one, Int.ediv_one]
  | k + 1, X, Y, x0, y0 => by
    rw [half_pow, half_pow, half_pow, (op_half F x0 y0).1]
    exact opb_shr F k (by omega) (by omega)
theorem opb_mod (F : BitF o f) : ∀ (d : Nat) {X Y : Int}, 0 ≤ X → 0 ≤ Y → o X Y % 2 ^ d = o (X % 2 ^ d) (Y % 2 ^ d)
  | 0, X, Y, _, _ => by rw [Int.pow_zero, Int.emod_one, Int.emod_one, Int.emod_one, F.z]
  | d + 1, X, Y, x0, y0 => by
    have sp : ∀ z : Int, z % 2 ^ (d + 1) = 2 * (z / 2 % 2 ^ d) + z % 2 := fun z => by
      have m := Int.emod_add_mul_ediv (z / 2) (2 ^ d)
      have g : (2 : Int) ^ d * 2 * (z / 2 / 2 ^ d) = 2 * (2 ^ d * (z / 2 / 2 ^ d)) := by grind
      have h := em (M := 2 ^ (d + 1)) (r := z) (s := 2 * (z / 2 % 2 ^ d) + z % 2) (z / 2 / 2 ^ d) (by rw [Int.pow_succ, g]; omega)
      rw [h, Int.emod_eq_of_lt]
      · have := lt_mod d (z / 2); unfold Lt at this; omega
      · have := lt_mod d (z / 2); unfold Lt at this; rw [Int.pow_succ]; omega
    have l1 := lt_mod d (X / 2)
    have l2 := lt_mod d (Y / 2)
    rw [sp, sp, sp, (op_half F x0 y0).1, (op_half F x0 y0).2, F.s _ _ _ _ l1.1 l2.1 (by omega) (by omega) (by omega) (by omega), opb_mod F d (by omega) (by omega)]
theorem opb_up (F : BitF o f) (f0 : f 0 0 = 0) : ∀ (k : Nat) {X Y : Int}, 0 ≤ X → 0 ≤ Y → o (X * 2 ^ k) (Y * 2 ^ k) = o X Y * 2 ^ k
  | 0, X, Y, _, _ => by rw [Int.pow_zero, Int.mul_one, Int.mul_one, Int.mul_one]
  | k + 1, X, Y, x0, y0 => by
    have p := two_pow_pos k
    have e := F.s (X * 2 ^ k) (Y * 2 ^ k) 0 0 (Int.mul_nonneg x0 (by omega)) (Int.mul_nonneg y0 (by omega)) (by omega) (by omega) (by omega) (by omega)
    rw [f0, opb_up F f0 k x0 y0] at e
    rw [Int.pow_succ, show X * (2 ^ k * 2) = 2 * (X * 2 ^ k) + 0 by grind, show Y * (2 ^ k * 2) = 2 * (Y * 2 ^ k) + 0 by grind, e]
    grind
theorem m1 (b a : Int) (k j : Nat) : (lowS b (k + j) a * 2 ^ k % 2 ^ (k + j)) / 2 ^ k = lowS b j a := by
  have p := two_pow_pos k
  rw [Int.pow_add, Int.mul_comm (lowS b (k + j) a), Int.mul_emod_mul_of_pos _ _ p, Int.mul_ediv_cancel_left _ (by omega), Nat.add_comm, ← low_less]
theorem m3 (x0 : 0 ≤ X) (y0 : 0 ≤ Y) (k j : Nat) : Builtin.bitAnd X Y * 2 ^ k % 2 ^ j = Builtin.bitAnd (X * 2 ^ k % 2 ^ j) (Y * 2 ^ k % 2 ^ j) := by
  have p := two_pow_pos k
  rw [← opb_up bf_and rfl k x0 y0]
  exact opb_mod bf_and j (Int.mul_nonneg x0 (by omega)) (Int.mul_nonneg y0 (by omega))
theorem m6 (X : Int) (k j : Nat) : X * 2 ^ k % 2 ^ j = (X * (1 % 2 ^ j * 2 ^ k % 2 ^ j)) % 2 ^ j := by
  have m := Int.emod_add_mul_ediv (1 % 2 ^ j * 2 ^ k) (2 ^ j)
  have n := Int.emod_add_mul_ediv 1 (2 ^ j)
  generalize 1 % (2 : Int) ^ j * 2 ^ k % 2 ^ j = r at *
  generalize 1 % (2 : Int) ^ j * 2 ^ k / 2 ^ j = q at *
  generalize 1 % (2 : Int) ^ j = u at *
  generalize 1 / (2 : Int) ^ j = v at *
  exact em (X * v * 2 ^ k + X * q) (by grind)
theorem m7 (x : Lt (k + j) X) : (2 ^ (k + j) - 1 - X) / 2 ^ k = 2 ^ j - 1 - X / 2 ^ k := by
  have p := two_pow_pos k
  have m := Int.emod_add_mul_ediv X (2 ^ k)
  have r0 := Int.emod_nonneg X (show (2 : Int) ^ k ≠ 0 by omega)
  have r1 := Int.emod_lt_of_pos X p
  have e : (2 : Int) ^ (k + j) - 1 - X = (2 ^ k - 1 - X % 2 ^ k) + 2 ^ k * (2 ^ j - 1 - X / 2 ^ k) := by
    rw [Int.pow_add]
    generalize (2 : Int) ^ k = K at *
    generalize (2 : Int) ^ j = J at *
    grind
  rw [e, Int.add_mul_ediv_left _ _ (by omega), Int.ediv_eq_zero_of_lt (by omega) (by omega), Int.zero_add]
theorem mask_and (k : Nat) (x0 : 0 ≤ X) : Builtin.bitAnd X (2 ^ k - 1) = X % 2 ^ k := by
  have p := two_pow_pos k
  obtain ⟨n, rfl⟩ := Int.eq_ofNat_of_zero_le x0
  rw [bitAnd_pp x0 (by omega), Int.toNat_natCast]
  have e : ((2 : Int) ^ k - 1).toNat = 2 ^ k - 1 := by have := pow_nat k; omega
  rw [e, Nat.and_two_pow_sub_one_eq_mod]
  simp
theorem m2a (b a : Int) (k j : Nat) : (lowS b j a - lowS b (k + j) a / 2 ^ k * 2 ^ k % 2 ^ j) % 2 ^ j = lowS b k a % 2 ^ j := by
  have e1 := low_less b a k j
  have e2 := low_less b a j k
  rw [Nat.add_comm j k] at e2
  rw [e1, e2]
  generalize lowS b (k + j) a = N
  have m1 := Int.emod_add_mul_ediv N (2 ^ j)
  have m2 := Int.emod_add_mul_ediv N (2 ^ k)
  have m3 := Int.emod_add_mul_ediv (N / 2 ^ k * 2 ^ k) (2 ^ j)
  have c : N / 2 ^ k * 2 ^ k = 2 ^ k * (N / 2 ^ k) := Int.mul_comm _ _
  rw [c] at m3 ⊢
  generalize (2 : Int) ^ k * (N / 2 ^ k) = y at *
  generalize N % 2 ^ j = r at *
  generalize N / 2 ^ j = q at *
  generalize y % 2 ^ j = u at *
  generalize y / 2 ^ j = v at *
  generalize N % 2 ^ k = w at *
  exact em (v - q) (by rw [Int.mul_sub]; omega)
theorem m2 (b a : Int) (k j : Nat) : lowS b k a % 2 ^ j = Builtin.bitAnd (lowS b j a) ((1 % 2 ^ j * 2 ^ k % 2 ^ j - 1 % 2 ^ j) % 2 ^ j) := by
  have p := two_pow_pos k
  have e1 := low_less b a k j
  have e2 := low_less b a j k
  rw [Nat.add_comm j k] at e2
  have e3 : (1 % 2 ^ j * 2 ^ k % 2 ^ j - 1 % 2 ^ j) % 2 ^ j = ((2 : Int) ^ k - 1) % 2 ^ j := by
    have m := Int.emod_add_mul_ediv (1 % 2 ^ j * 2 ^ k) (2 ^ j)
    have n := Int.emod_add_mul_ediv 1 (2 ^ j)
    generalize 1 % (2 : Int) ^ j * 2 ^ k % 2 ^ j = r at *
    generalize 1 % (2 : Int) ^ j * 2 ^ k / 2 ^ j = q at *
    generalize 1 % (2 : Int) ^ j = u at *
    generalize 1 / (2 : Int) ^ j = v at *
    exact em (v - v * 2 ^ k - q) (by grind)
  have n0 := (lowS_bd b (k + j) a).1
  rw [e1, e2, e3, ← opb_mod bf_and j n0 (by omega), mask_and k n0]
theorem m9 {A B Z w : Int} (ow : w % 2 = 1) (z : Lt j Z) (hx : X * (w % 2 ^ j) % 2 ^ j = A) (hy : Y * (w % 2 ^ j) % 2 ^ j = B) (hz : Z * (w % 2 ^ j) % 2 ^ j = (A + B) % 2 ^ j) : Z = (X + Y) % 2 ^ j := by
  have n := Int.emod_add_mul_ediv w (2 ^ j)
  have m1 := Int.emod_add_mul_ediv (X * (w % 2 ^ j)) (2 ^ j)
  have m2 := Int.emod_add_mul_ediv (Y * (w % 2 ^ j)) (2 ^ j)
  have m3 := Int.emod_add_mul_ediv (Z * (w % 2 ^ j)) (2 ^ j)
  have m4 := Int.emod_add_mul_ediv (A + B) (2 ^ j)
  have dv : (2 : Int) ^ j ∣ w * (Z - (X + Y)) := by
    rw [hx] at m1
    rw [hy] at m2
    rw [hz] at m3
    generalize X * (w % 2 ^ j) / 2 ^ j = q1 at *
    generalize Y * (w % 2 ^ j) / 2 ^ j = q2 at *
    generalize Z * (w % 2 ^ j) / 2 ^ j = q3 at *
    generalize (A + B) / 2 ^ j = q4 at *
    generalize (A + B) % 2 ^ j = r4 at *
    generalize w % 2 ^ j = r at *
    generalize w / 2 ^ j = v at *
    exact ⟨v * (Z - (X + Y)) + q3 - q4 - q1 - q2, by grind⟩
  obtain ⟨g, eg⟩ := dv_odd ow j dv
  rw [← em_lt z]
  exact em g (by omega)
theorem m10 (b a : Int) (k j : Nat) : (lowS b (k + j) a - lowS b k a % 2 ^ (k + j)) % 2 ^ (k + j) / 2 ^ k = lowS b (k + j) a / 2 ^ k := by
  have p := two_pow_pos k
  have e1 := low_less b a k j
  have l := lowS_bd b (k + j) a
  have lk := lowS_bd b k a
  have z : lowS b k a % 2 ^ (k + j) = lowS b k a := Int.emod_eq_of_lt lk.1 (Int.lt_of_lt_of_le lk.2 (by rw [Int.pow_add]; have := two_pow_pos j; have := Int.mul_le_mul_of_nonneg_left (show 1 ≤ (2 : Int) ^ j by omega) (show (0 : Int) ≤ 2 ^ k by omega); omega))
  rw [z, e1]
  generalize lowS b (k + j) a = N at *
  have m := Int.emod_add_mul_ediv N (2 ^ k)
  have q0 := Int.ediv_nonneg l.1 (show (0 : Int) ≤ 2 ^ k by omega)
  have e : N - N % 2 ^ k = 2 ^ k * (N / 2 ^ k) := by omega
  have nn : 0 ≤ 2 ^ k * (N / 2 ^ k) := Int.mul_nonneg (by omega) q0
  have r0 := Int.emod_nonneg N (show (2 : Int) ^ k ≠ 0 by omega)
  rw [e, Int.emod_eq_of_lt nn (by omega), Int.mul_ediv_cancel_left _ (by omega)]
theorem low_div {b d a c : Int} {n : Nat} (ob : b % 2 = 1) (od : d % 2 = 1) (oc : c % 2 = 1) : lowS (b * c) n (a * d) * lowS d n c % 2 ^ n = lowS b n a := by
  obtain ⟨k, e⟩ := low_dv (odd_mul ob oc) n (a * d)
  obtain ⟨k3, f⟩ := low_dv od n c
  generalize lowS (b * c) n (a * d) = x at *
  generalize hm : lowS d n c = m at *
  have dv : (2 : Int) ^ n ∣ d * (b * (x * m) - a) := ⟨k + b * x * k3, by grind⟩
  obtain ⟨g, eg⟩ := dv_odd od n dv
  exact (low_mk ob g (by omega)).symm
end
section
variable {F H : Hp} {L : List (Addr × HO)} {C NO I r d0 : Addr} {a b c d i : Int} {y : V} {R : VK} {E : XK} {n m : Nat}
theorem c_divS (h : Own F H L) (e : H r = some (cw C d0 a b)) (th : Tn C H y c d) (w1 : Wk n a b) (w2 : Wk m c d) (oc : c % 2 = 1) (hn : n ≤ 3900) (hm : m ≤ 3900)
    (k : ∀ P Q p dW H', H p = none → Own F H' ((p, cw C dW P Q) :: L) → Wk (n + m) P Q → (∀ j, lowS Q j P * lowS d j c % 2 ^ j = lowS b j a) → R (.ref p) H') : sp_div C NO [.ref r, y] H R E :=
  c_divC h e th w1.bd w2.bd hn hm (odd_wT oc) fun p dW H' np ow bw => k _ _ p dW H' np ow ⟨bw, odd_mul w1.oq oc⟩ (fun j => low_div w1.oq w2.oq oc)
/-- the bits of a word by its fraction as it stands -/
theorem hv_red (ob : b % 2 = 1) (i : Nat) : hvs (wB a b) i (wT a b) % 2 = hvs b i a % 2 := by
  rw [← bit_lowN (n := i + 1) (by omega), low_red ob, bit_lowN (by omega)]
theorem sB_same {v u : Int} (h : ∀ i, hvs b i a % 2 = hvs v i u % 2) (s k : Nat) : sB b a s k = sB v u s k := by
  unfold sB
  simp only [h]
theorem few_z (w : Wk n a b) (z : Z60 a b) (hn : n ≤ 80000) : Few (wT a b) (wB a b) :=
  few_sp (s := 60) w.bd (fun S h => Nat.le_of_dvd (by decide) (z_span z w.bd.ne (odd_nm w.bd.ok) h)) (by omega)
theorem nth_red {v : V} {x : Int} (ob : b % 2 = 1) (h : NthV (wB a b) (wT a b) x v) : NthV b a x v := by
  rcases h with ⟨P, e, o, c⟩ | ⟨e, al⟩
  · exact .inl ⟨P, e, by rw [← hv_red ob]; exact o, by rw [← sB_same (hv_red ob)]; exact c⟩
  · exact .inr ⟨e, fun P => by rw [← sB_same (hv_red ob)]; exact al P⟩
theorem c_lowbS (h : Own F H L) (e : H r = some (cw C d0 a b)) (w : Wk n a b) (hn : n ≤ 3900) (h0 : 0 ≤ i) (h1 : i ≤ 10000) (k : ∀ H', Own F H' L → R (.int (lowS b i.toNat a)) H') : sp_lowb C I ([.ref r, .int i] ++ []) H R E :=
  c_lowbP h e (w.bd.w2 hn) (odd_nm w.bd.ok) h0 (by omega) fun H' ow => by rw [low_red w.oq]; exact k H' ow
theorem c_countS (h : Own F H L) (e : H r = some (cw C d0 a b)) (w : Wk n a b) (z : Z60 a b) (hn : n ≤ 3900) (h0 : 0 ≤ i) (k : ∀ H', Own F H' L → R (.int (sB b a 0 i.toNat)) H') : sp_count C I ([.ref r, .int i] ++ []) H R E :=
  c_countP h e (w.bd.w2 hn) (few_z w z (by omega)) h0 fun H' ow => by rw [sB_same (hv_red w.oq)]; exact k H' ow
theorem c_nthS (h : Own F H L) (e : H r = some (cw C d0 a b)) (w : Wk n a b) (z : Z60 a b) (hn : n ≤ 3900) (h0 : 0 ≤ i) (k : ∀ v H', NthV b a i v → Own F H' L → R v H') : sp_nth C I ([.ref r, .int i] ++ []) H R E :=
  c_nthP h e (w.bd.w2 hn) (few_z w z (by omega)) h0 fun v H' hv ow => k v H' (nth_red w.oq hv) ow
theorem c_itemS (h : Own F H L) (e : H r = some (cw C d0 a b)) (w : Wk n a b) (z : Z60 a b) (hn : n ≤ 3900) (h0 : 0 ≤ i) (k : ∀ H', Own F H' L → R (.int (hvs b i.toNat a % 2)) H') : sp_getitem C I [.ref r, .int i] H R E := by
  have f := few_z w z (by omega)
  exact c_item h e f.pb f.ob f.g (w.bd.w2 hn) f.bd (fun _ H' ow => by rw [hv_red w.oq]; exact k H' ow) (fun x => by omega)
theorem first_lt {t u v : Int} {k : Nat} (f : First t b u v k) (h : (t * v - u * b).natAbs < 2 ^ n) : k < n := by
  obtain ⟨z, e, o⟩ := f
  rw [e, Int.natAbs_mul, Int.natAbs_pow] at h
  by_cases lt : k < n
  · exact lt
  · exfalso
    have h1 : 2 ^ n ≤ 2 ^ k := Nat.pow_le_pow_right (by decide) (by omega)
    have h2 : 2 ^ k * 1 ≤ 2 ^ k * z.natAbs := Nat.mul_le_mul_left _ (by omega)
    have h3 : (2 : Int).natAbs ^ k = 2 ^ k := rfl
    rw [h3] at h
    omega
/-- the first unlike bit is the first one of the xor -/
theorem c_fuS {dx dy r2 : Addr} {p q x : Int} {v : V} (h : Own F H L) (e1 : H r = some (cw C dx a b)) (e2 : H r2 = some (cw C dy c d)) (w1 : Wk n a b) (w2 : Wk m c d) (hn : n ≤ 3900) (hm : m ≤ 3900) (oq : q % 2 = 1) (hl : ∀ j, lowS q j p = Builtin.bitXor (lowS b j a) (lowS d j c)) (hx : x = 0) (hv : NthV q p x v)
    (k1 : v = .non → ∀ H', Own F H' L → R .non H') (k2 : ∀ P : Nat, v = .int P → P < n + m + 1 → ¬ hvs b P a % 2 = hvs d P c % 2 → ∀ H', Own F H' L → R (.int P) H') : sp_fu C ([.ref r, .ref r2] ++ []) H R E := by
  subst hx
  have bit : ∀ i, hvs q i p % 2 = if hvs b i a % 2 = hvs d i c % 2 then 0 else 1 := fun i => by
    rw [← bit_lowN (n := i + 1) (by omega), hl, b_xor i (lowS_bd b (i + 1) a).1 (lowS_bd d (i + 1) c).1, bit_lowN (by omega), bit_lowN (by omega)]
  have wd : (wT a b).natAbs < 2 ^ 3900 ∧ (wB a b).natAbs < 2 ^ 3900 ∧ (wT c d).natAbs < 2 ^ 3900 ∧ (wB c d).natAbs < 2 ^ 3900 := ⟨(w1.bd.w hn).1, (w1.bd.w hn).2, (w2.bd.w hm).1, (w2.bd.w hm).2⟩
  have o1 := odd_nm w1.bd.ok
  have o2 := odd_nm w2.bd.ok
  rcases hv with ⟨P, rfl, o, cn⟩ | ⟨rfl, al⟩
  · have lo : ∀ j, j < P → hvs b j a % 2 = hvs d j c % 2 := fun j hj => by
      have m1 := sB_mono q p 0 (show j + 1 ≤ P by omega)
      rw [sB_app, Nat.zero_add, sB_one] at m1
      have m2 := sB_nn q p 0 j
      have b1 := bit j
      by_cases g : hvs b j a % 2 = hvs d j c % 2
      · exact g
      · rw [if_neg g] at b1
        omega
    have un : ¬ hvs b P a % 2 = hvs d P c % 2 := fun g => by
      have b1 := bit P
      rw [if_pos g] at b1
      omega
    have f : First (wT a b) (wB a b) (wT c d) (wB c d) P := first_of o1 o2 (fun j hj => by rw [hv_red w1.oq, hv_red w2.oq]; exact lo j hj) (by rw [hv_red w1.oq, hv_red w2.oq]; exact un)
    have r1 := w1.bd
    have r2 := w2.bd
    have a1 := Nat.lt_of_le_of_lt (wT_le (t := a) r1.ne) r1.p1
    have a2 := Nat.lt_of_le_of_lt (wB_le (t := a) r1.ne) r1.q1
    have a3 := Nat.lt_of_le_of_lt (wT_le (t := c) r2.ne) r2.p1
    have a4 := Nat.lt_of_le_of_lt (wB_le (t := c) r2.ne) r2.q1
    have lt := first_lt f (subW (n + m) (mulW n m a1 a4) (by rw [Nat.add_comm]; exact mulW m n a3 a2))
    exact c_fuK h e1 e2 o1 o2 wd f fun H' ow => k2 P rfl lt un H' ow
  · have eq : ∀ j, lowS b j a = lowS d j c := fun j => lowS_same j fun i _ => by
      have m1 := al (i + 1)
      rw [sB_app, Nat.zero_add, sB_one] at m1
      have m2 := sB_nn q p 0 i
      have b1 := bit i
      by_cases g : hvs b i a % 2 = hvs d i c % 2
      · exact g
      · rw [if_neg g] at b1
        omega
    have z := eq_low w1 w2 eq
    exact c_fuN h e1 e2 o1 o2 wd (by rw [z.1, z.2, Int.sub_self]) fun H' ow => k1 rfl H' ow
theorem bit_or2 {p q : Int} (hl : ∀ j, lowS q j p = Builtin.bitOr (lowS b j a) (lowS d j c)) (i : Nat) : hvs q i p % 2 = max (hvs b i a % 2) (hvs d i c % 2) := by
  rw [← bit_lowN (n := i + 1) (by omega), hl, b_or i (lowS_bd b (i + 1) a).1 (lowS_bd d (i + 1) c).1, bit_lowN (by omega), bit_lowN (by omega)]
theorem bit_and2 {p q : Int} (hl : ∀ j, lowS q j p = Builtin.bitAnd (lowS b j a) (lowS d j c)) (i : Nat) : hvs q i p % 2 = (hvs b i a % 2) * (hvs d i c % 2) := by
  rw [← bit_lowN (n := i + 1) (by omega), hl, b_and i (lowS_bd b (i + 1) a).1 (lowS_bd d (i + 1) c).1, bit_lowN (by omega), bit_lowN (by omega)]
theorem bit_not2 {p q : Int} (hl : ∀ j, lowS q j p = 2 ^ j - 1 - lowS b j a) (i : Nat) : hvs q i p % 2 = 1 - hvs b i a % 2 := by
  rw [← bit_lowN (n := i + 1) (by omega), hl, bit_not i (i + 1) (lowS_bd b (i + 1) a).1 (lowS_bd b (i + 1) a).2 (by omega), bit_lowN (by omega)]
theorem count_both {p q p2 q2 : Int} (h1 : ∀ j, lowS q j p = Builtin.bitOr (lowS b j a) (lowS d j c)) (h2 : ∀ j, lowS q2 j p2 = Builtin.bitAnd (lowS b j a) (lowS d j c)) (s : Nat) : ∀ k : Nat, sB q p s k + sB q2 p2 s k = sB b a s k + sB d c s k
  | 0 => rfl
  | k + 1 => by
    rw [sB_app, sB_app, sB_app, sB_app, sB_one, sB_one, sB_one, sB_one, bit_or2 h1, bit_and2 h2]
    have ih := count_both h1 h2 s k
    rcases Int.emod_two_eq (hvs b (s + k) a) with h | h <;> rcases Int.emod_two_eq (hvs d (s + k) c) with g | g <;> rw [h, g] <;> omega
theorem count_not {p q : Int} (h1 : ∀ j, lowS q j p = 2 ^ j - 1 - lowS b j a) (s : Nat) : ∀ k : Nat, sB q p s k + sB b a s k = k
  | 0 => rfl
  | k + 1 => by
    rw [sB_app, sB_app, sB_one, sB_one, bit_not2 h1]
    have ih := count_not h1 s k
    omega
end

/-! lists put together -/
theorem o_cat {F H : Hp} {L : List (Addr × HO)} {a b : Addr} {xs ys : List V} {i j : Nat} {Q : VK} (h : Own F H L) (e1 : L[i]? = some (a, .lst xs)) (e2 : L[j]? = some (b, .lst ys)) (z : (xs.length + ys.length).ble 1000 = true) (k : ∀ p H', H p = none → Own F H' ((p, .lst (xs ++ ys)) :: L) → Q (.ref p) H') : rCat (.ref a) (.ref b) H Q :=
  ⟨a, b, xs, ys, rfl, rfl, h.get i e1, h.get j e2, Nat.le_trans (Nat.le_of_ble_eq_true z) (by decide), fun p n => k p _ n (h.new n)⟩
set_option hygiene false in
local macro_rules | `(tactic| walk_at "r1") => `(tactic| ((with_reducible refine' Bs.o_cat ?p1 ?p2 ?p3 ?p4 ?_); (case p1 => assumption); (case p2 => walk_at "oi"); (case p3 => walk_at "oi"); (case p4 => exact rfl); intro pL H' np ow; (try dsimp only [List.cons_append, List.nil_append] at ow)))

/-! k16: sums by bits, three words, moved words (not built yet) -/
abbrev s__law_sums : Stmt := top 30
theorem sc__law_sums : FnScope ["_law_a", "_law_b", "_law_pairs"] ["_law_a", "_law_b"] (defScope s__law_sums) := ⟨rfl, rfl, rfl, by decide +kernel, rfl, by decide +kernel, by decide +kernel⟩
abbrev s__law_three : Stmt := top 31
theorem sc__law_three : FnScope ["_law_a", "_law_b", "_law_c", "_law_pairs"] ["_law_a", "_law_b", "_law_c"] (defScope s__law_three) := ⟨rfl, rfl, rfl, by decide +kernel, rfl, by decide +kernel, by decide +kernel⟩
abbrev s__law_moved : Stmt := top 32
theorem sc__law_moved : FnScope ["_law_a", "_law_b", "_law_up", "_law_odd", "_law_low", "_law_one", "_law_pairs"] ["_law_a", "_law_b", "_law_up", "_law_odd"] (defScope s__law_moved) := ⟨rfl, rfl, rfl, by decide +kernel, rfl, by decide +kernel, by decide +kernel⟩
/-- pairs of equal words -/
def PrsE (C : Addr) (H : Hp) (xs : List V) : Prop := ∀ x ∈ xs, ∃ (p w1 w2 d1 d2 : Addr) (P Q P' Q' : Int), x = .ref p ∧ H p = some (.tup [.ref w1, .ref w2]) ∧ H w1 = some (cw C d1 P Q) ∧ H w2 = some (cw C d2 P' Q') ∧ wT P Q = wT P' Q' ∧ wB P Q = wB P' Q'
theorem prs_nil {C : Addr} {H : Hp} : PrsE C H [] := fun x h => by cases h
theorem prs_cons {C : Addr} {H : Hp} {p w1 w2 d1 d2 : Addr} {P Q P' Q' : Int} {xs : List V} {n m : Nat} (e : H p = some (.tup [.ref w1, .ref w2])) (e1 : H w1 = some (cw C d1 P Q)) (e2 : H w2 = some (cw C d2 P' Q')) (k1 : Wk n P Q) (k2 : Wk m P' Q') (h : ∀ j, lowS Q j P = lowS Q' j P') (g : PrsE C H xs) : PrsE C H (.ref p :: xs) := fun x hx => by
  rcases List.mem_cons.mp hx with rfl | hx
  · exact ⟨p, w1, w2, d1, d2, P, Q, P', Q', rfl, e, e1, e2, (eq_low k1 k2 h).1, (eq_low k1 k2 h).2⟩
  · exact g x hx
theorem prs_app {C : Addr} {H : Hp} {xs ys : List V} (h : PrsE C H xs) (g : PrsE C H ys) : PrsE C H (xs ++ ys) := fun x hx => (List.mem_append.mp hx).elim (h x) (g x)
theorem prs_same {C : Addr} {H H' : Hp} {xs : List V} (h : PrsE C H xs) (s : Same H H') : PrsE C H' xs := fun x hx => by
  obtain ⟨p, w1, w2, d1, d2, P, Q, P', Q', e0, e1, e2, e3, e4⟩ := h x hx
  exact ⟨p, w1, w2, d1, d2, P, Q, P', Q', e0, s _ _ e1, s _ _ e2, s _ _ e3, e4⟩
theorem wk_int {i : Int} (n : Nat) (h : i.natAbs < 2 ^ n) (hn : 1 ≤ n) : Wk n i 1 := ⟨bd_int n h hn, by decide⟩
theorem low_int (i : Int) (j : Nat) : lowS 1 j i = i % 2 ^ j := low_mk (by decide) 0 (by omega)
theorem ring1 (A B D : Int) (j : Nat) : A * ((B + D) % 2 ^ j) % 2 ^ j = (A * B % 2 ^ j + A * D % 2 ^ j) % 2 ^ j := by
  have e := Int.mul_emod A ((B + D) % 2 ^ j) (2 ^ j)
  rw [Int.emod_emod_of_dvd _ (Int.dvd_refl _), ← Int.mul_emod] at e
  rw [e, ← Int.add_emod, Int.mul_add]
theorem ring2 (A B D : Int) (j : Nat) : (A + (B + D) % 2 ^ j) % 2 ^ j = ((A + B) % 2 ^ j + D) % 2 ^ j := by
  rw [Int.add_emod_emod, Int.emod_add_emod, Int.add_assoc]
theorem ring3 (A B D : Int) (j : Nat) : (A - (B - D) % 2 ^ j) % 2 ^ j = ((A - B) % 2 ^ j + D) % 2 ^ j := by
  rw [Int.sub_emod_emod, Int.emod_add_emod]
  congr 1
  omega
def sp_sums (C : Addr) : Sp := fun vs H R _ => ∃ (p1 p2 dx dy : Addr) (a b c d : Int), vs = [.ref p1, .ref p2] ∧ H p1 = some (cw C dx a b) ∧ H p2 = some (cw C dy c d) ∧ Wk 12 a b ∧ Wk 12 c d ∧ Z60 a b ∧ Z60 c d ∧ ∀ r xs H', H r = none → Same H H' → H' r = some (.lst xs) → xs.length ≤ 100 → PrsE C H' xs → R (.ref r) H'
set_option hygiene false in
local macro_rules | `(tactic| walk_at "tn") => `(tactic| first | assumption | exact Bs.Tn.same (by assumption) (Bs.Own.toSame (by assumption)) | exact Or.inl ⟨rfl, rfl⟩ | exact Or.inr ⟨_, _, rfl, by walk_at "hx"⟩)
/-- what stands behind a statement: the pairs so far -/
def SumM (C : Addr) (H : Hp) (σ0 : L2.St) (n : Nat) (σ' : L2.St) (H' : Hp) : Prop := ∃ (r : Addr) (xs : List V), σ' = σ0 ++ [some (.ref r)] ∧ H r = none ∧ Same H H' ∧ H' r = some (.lst xs) ∧ xs.length ≤ n ∧ PrsE C H' xs
theorem non_same {H H' : Hp} {r : Addr} (s : Same H H') (n : H' r = none) : H r = none := by
  cases e : H r with
  | none => rfl
  | some o => rw [s _ _ e] at n; cases n
theorem mask_same {H H' : Hp} {r : Addr} (s : Same H H') (n : H r = none) : Same H (fun b => if b = r then none else H' b) := fun b o e => by
  have ne : b ≠ r := fun z => by rw [z, n] at e; cases e
  show (if b = r then none else H' b) = some o
  rw [if_neg ne]
  exact s _ _ e
theorem prs_mask {C : Addr} {H : Hp} {r : Addr} {xs ys : List V} (e : H r = some (.lst ys)) (h : PrsE C H xs) : PrsE C (fun b => if b = r then none else H b) xs := fun x hx => by
  obtain ⟨p, w1, w2, d1, d2, P, Q, P', Q', e0, e1, e2, e3, e4⟩ := h x hx
  have m : ∀ {b : Addr} {o : HO}, H b = some o → o ≠ .lst ys → (if b = r then none else H b) = some o := fun {b o} f g => by
    rw [if_neg (fun z => g (by rw [z, e] at f; exact (Option.some.inj f).symm))]
    exact f
  exact ⟨p, w1, w2, d1, d2, P, Q, P', Q', e0, m e1 (by simp), m e2 (by unfold cw; simp), m e3 (by unfold cw; simp), e4⟩
theorem Wk.mono {n m : Nat} {P Q : Int} (h : Wk n P Q) (l : n ≤ m) : Wk m P Q := ⟨h.bd.mono l, h.oq⟩
def sp_three16 (C : Addr) : Sp := fun vs H R _ => ∃ (p1 p2 p3 dx dy dz : Addr) (a b c d u v : Int), vs = [.ref p1, .ref p2, .ref p3] ∧ H p1 = some (cw C dx a b) ∧ H p2 = some (cw C dy c d) ∧ H p3 = some (cw C dz u v) ∧ Wk 12 a b ∧ Wk 12 c d ∧ Wk 12 u v ∧ Z60 a b ∧ Z60 c d ∧ Z60 u v ∧ ∀ r xs H', H r = none → Same H H' → H' r = some (.lst xs) → xs.length ≤ 100 → PrsE C H' xs → R (.ref r) H'
def sp_moved (C : Addr) : Sp := fun vs H R _ => ∃ (p1 p2 dx dy : Addr) (a b c d up od : Int), vs = [.ref p1, .ref p2, .int up, .int od] ∧ H p1 = some (cw C dx a b) ∧ H p2 = some (cw C dy c d) ∧ Wk 12 a b ∧ Wk 12 c d ∧ Z60 a b ∧ Z60 c d ∧ 0 ≤ up ∧ up ≤ 60 ∧ od % 2 = 1 ∧ od.natAbs ≤ 100 ∧ ∀ r xs H', H r = none → Same H H' → H' r = some (.lst xs) → xs.length ≤ 100 → PrsE C H' xs → R (.ref r) H'
set_option hygiene false in
local macro_rules | `(tactic| walk_at "prs") => `(tactic| (first | exact Bs.prs_nil | (refine Bs.prs_cons (ow.get _ (by walk_at "oi")) (by walk_at "hx") (by walk_at "hx") (by with_reducible assumption) (by with_reducible assumption) (fun j => ?_) ?_; rotate_left; walk_at "prs")))
theorem o_catS {F H : Hp} {L : List (Addr × HO)} {a b : Addr} {xs ys : List V} {Q : VK} (h : Own F H L) (e1 : H a = some (.lst xs)) (e2 : H b = some (.lst ys)) (z : xs.length ≤ 60) (z2 : ys.length.ble 40 = true) (k : ∀ p H', H p = none → Own F H' ((p, .lst (xs ++ ys)) :: L) → Q (.ref p) H') : rCat (.ref a) (.ref b) H Q :=
  ⟨a, b, xs, ys, rfl, rfl, e1, e2, Nat.le_trans (show xs.length + ys.length ≤ 100 by have := Nat.le_of_ble_eq_true z2; omega) (by decide), fun p n => k p _ n (h.new n)⟩
set_option hygiene false in
local macro_rules | `(tactic| walk_at "wk") => `(tactic| with_reducible assumption)
set_option hygiene false in
local macro_rules | `(tactic| walk_at "r1") => `(tactic| first
  | ((with_reducible refine' Bs.o_catS ?p1 ?p2 ?p3 ?p4 ?p5 ?_); (case p1 => assumption); (case p2 => walk_at "hx"); (case p3 => walk_at "hx"); (case p4 => omega); (case p5 => exact rfl); intro pL H' np ow)
  | ((with_reducible refine' Bs.o_WC ?p1 ?p2 ?p3 ?_); (case p1 => assumption); (case p2 => exact Bs.Wk.bd (by with_reducible assumption)); (case p3 => omega); intro pW dW H' np ow)
  | ((with_reducible refine' Bs.c_addS ?p1 ?p2 ?p3 ?p4 ?p5 ?p6 ?p7 ?_); (case p1 => assumption); (case p2 => walk_at "hx"); (case p3 => walk_at "tn"); (case p4 => walk_at "wk"); (case p5 => walk_at "wk"); (case p6 => omega); (case p7 => omega); intro xP xQ pW dW H' np ow wkx hl zz; (try have zx := zz (by with_reducible assumption) (by with_reducible assumption)))
  | ((with_reducible refine' Bs.c_subS ?p1 ?p2 ?p3 ?p4 ?p5 ?p6 ?p7 ?_); (case p1 => assumption); (case p2 => walk_at "hx"); (case p3 => walk_at "tn"); (case p4 => walk_at "wk"); (case p5 => walk_at "wk"); (case p6 => omega); (case p7 => omega); intro xP xQ pW dW H' np ow wkx hl zz; (try have zx := zz (by with_reducible assumption) (by with_reducible assumption)))
  | ((with_reducible refine' Bs.c_rsubS ?p1 ?p2 ?p3 ?p4 ?p5 ?p6 ?p7 ?_); (case p1 => assumption); (case p2 => walk_at "hx"); (case p3 => walk_at "tn"); (case p4 => walk_at "wk"); (case p5 => walk_at "wk"); (case p6 => omega); (case p7 => omega); intro xP xQ pW dW H' np ow wkx hl zz; (try have zx := zz (by with_reducible assumption) (by with_reducible assumption)))
  | ((with_reducible refine' Bs.c_mulS ?p1 ?p2 ?p3 ?p4 ?p5 ?p6 ?p7 ?_); (case p1 => assumption); (case p2 => walk_at "hx"); (case p3 => walk_at "tn"); (case p4 => walk_at "wk"); (case p5 => walk_at "wk"); (case p6 => omega); (case p7 => omega); intro xP xQ pW dW H' np ow wkx hl)
  | ((with_reducible refine' Bs.c_negS ?p1 ?p2 ?p4 ?p6 ?_); (case p1 => assumption); (case p2 => walk_at "hx"); (case p4 => walk_at "wk"); (case p6 => omega); intro xP xQ pW dW H' np ow wkx hl zz; (try have zx := zz (by with_reducible assumption)))
  | ((with_reducible refine' Bs.c_invS ?p1 ?p2 ?p4 ?p6 ?_); (case p1 => assumption); (case p2 => walk_at "hx"); (case p4 => walk_at "wk"); (case p6 => omega); intro xP xQ pW dW H' np ow wkx hl zz; (try have zx := zz (by with_reducible assumption)))
  | ((with_reducible refine' Bs.c_shlS ?p1 ?p2 ?p4 ?p6 ?p7 ?p8 ?_); (case p1 => assumption); (case p2 => walk_at "hx"); (case p4 => walk_at "wk"); (case p6 => omega); (case p7 => omega); (case p8 => omega); intro xP xQ pW dW H' np ow wkx hl zz; (try have zx := zz (by with_reducible assumption)))
  | ((with_reducible refine' Bs.c_shrS ?p1 ?p2 ?p4 ?p6 ?p7 ?p8 ?_); (case p1 => assumption); (case p2 => walk_at "hx"); (case p4 => walk_at "wk"); (case p6 => omega); (case p7 => omega); (case p8 => omega); intro xP xQ pW dW H' np ow wkx hl zz; (try have zx := zz (by with_reducible assumption)))
  | ((with_reducible refine' Bs.own_mixS ?q0 ?q9 ?p1 ?p2 ?p3 ?p4 ?p5 ?p6 ?q1 ?q2 ?p7 ?p8 ?_); (case q0 => first | exact Bs.bo_and | exact Bs.bo_or | exact Bs.bo_xor); (case q9 => first | exact Bs.bf_and | exact Bs.bf_or | exact Bs.bf_xor); (case p1 => assumption); (case p2 => walk_at "tn"); (case p3 => walk_at "tn"); (case p4 => first | assumption | exact .inl ⟨_, rfl⟩ | exact .inr ⟨_, rfl⟩); (case p5 => walk_at "wk"); (case p6 => walk_at "wk"); (case q1 => with_reducible assumption); (case q2 => with_reducible assumption); (case p7 => omega); (case p8 => omega); intro xP xQ pW dW H' np ow wkx hl zx)
  | ((with_reducible refine' Bs.c_divS ?p1 ?p2 ?p3 ?p4 ?p5 ?p6 ?p7 ?p8 ?_); (case p1 => assumption); (case p2 => walk_at "hx"); (case p3 => walk_at "tn"); (case p4 => walk_at "wk"); (case p5 => walk_at "wk"); (case p6 => assumption); (case p7 => omega); (case p8 => omega); intro xP xQ pW dW H' np ow wkx hl)
  | ((with_reducible refine' Bs.o_app ?p1 ?p2 ?p3 ?_); (case p1 => assumption); (case p2 => walk_at "oi"); (case p3 => omega); intro H' ow; walk_at "ow"))
section
variable {P : Program} {w : World} {K : PySem.W.Frag} {mg : Str → Option Value} {base : Heap} {C aInvalidWord aInvalidShift aNotOdd f : Addr} {fd : FuncData}
theorem ok__law_sums (F : FnP K "_law_sums" "_law_sums" s__law_sums f fd) (B : Bi mg) (o_Add : SA P w K mg base C) (o_BitXor : SMx P w K mg base C "xor" Builtin.bitXor) (o_LShift : SL P w K mg base C aInvalidShift) (o_BitAnd : SMx P w K mg base C "and" Builtin.bitAnd) (o_BitOr : SMx P w K mg base C "or" Builtin.bitOr) (o_Sub : SS P w K mg base C) (o_inv : MeC P w K mg base CX0 C "__invert__" 6 ["self"] (sp_un C (fun t b => -t - b)) ao_inv) (o_neg : MeC P w K mg base CX0 C "__neg__" 6 ["self"] (sp_un C (fun t b => -t)) ao_neg) (c_Word : WordC P w K mg base C aInvalidWord) : FnOk P w K mg base CX0 9 f fd ["_law_a", "_law_b"] (sp_sums C) := by
  refine F.ok sc__law_sums (fun vs H Q E h => by walk_at "len") (fun cdv A outer s H vs Q E hr h => ?_)
  have nd := sc__law_sums.nd
  obtain ⟨p1, p2, dx, dy, a, b, c, d, rfl, e1, e2, w1, w2, z1, z2, q⟩ := h
  refine ⟨_, PSs.nox (C8.pss_cut (ps_set (i := 2) nd rfl (Or.inl rfl) (pe_lst (pa_cons (pe_tup (pa_cons (pe_own o_Add hr (by decide) (fun _ => psE0) (pv 0) (pv 1)) (pa_cons (pe_own o_Add hr (by decide) (fun _ => psE0) (pe_own o_BitXor hr (by decide) (fun _ => psE0) (pv 0) (pv 1)) (pe_ownL o_LShift hr (by decide) (fun _ => psL0) (pe_own o_BitAnd hr (by decide) (fun _ => psE0) (pv 0) (pv 1)) pe_int)) pa_nil))) (pa_cons (pe_tup (pa_cons (pe_own o_BitOr hr (by decide) (fun _ => psE0) (pv 0) (pv 1)) (pa_cons (pe_own o_Sub hr (by decide) (fun _ => psE0) (pe_own o_Add hr (by decide) (fun _ => psE0) (pv 0) (pv 1)) (pe_own o_BitAnd hr (by decide) (fun _ => psE0) (pv 0) (pv 1))) pa_nil))) (pa_cons (pe_tup (pa_cons (pe_own o_BitXor hr (by decide) (fun _ => psE0) (pv 0) (pv 1)) (pa_cons (pe_own o_Sub hr (by decide) (fun _ => psE0) (pe_own o_BitOr hr (by decide) (fun _ => psE0) (pv 0) (pv 1)) (pe_own o_BitAnd hr (by decide) (fun _ => psE0) (pv 0) (pv 1))) pa_nil))) pa_nil)))))
      (C8.pss_cut (ps_set (i := 2) nd rfl (Or.inl rfl) (pe_op op_cat (pv 2) (pe_lst (pa_cons (pe_tup (pa_cons (pe_own o_Sub hr (by decide) (fun _ => psE0) (pv 0) (pv 1)) (pa_cons (pe_own o_Sub hr (by decide) (fun _ => psE0) (pe_own o_BitXor hr (by decide) (fun _ => psE0) (pv 0) (pv 1)) (pe_ownL o_LShift hr (by decide) (fun _ => psL0) (pe_own o_BitAnd hr (by decide) (fun _ => psE0) (pe_un (un_inv_own o_inv hr (by decide) (fun _ => psE0)) (pv 0)) (pv 1)) pe_int)) pa_nil))) (pa_cons (pe_tup (pa_cons (pe_un (un_inv_own o_inv hr (by decide) (fun _ => psE0)) (pv 0)) (pa_cons (pe_own o_Sub hr (by decide) (fun _ => psE0) (pe_own o_Sub hr (by decide) (fun _ => psE0) pe_int (pv 0)) pe_int) pa_nil))) (pa_cons (pe_tup (pa_cons (pe_un (un_neg_own o_neg hr (by decide) (fun _ => psE0)) (pv 0)) (pa_cons (pe_own o_Add hr (by decide) (fun _ => psE0) (pe_un (un_inv_own o_inv hr (by decide) (fun _ => psE0)) (pv 0)) pe_int) pa_nil))) (pa_cons (pe_tup (pa_cons (pe_own o_Sub hr (by decide) (fun _ => psE0) (pv 0) (pv 1)) (pa_cons (pe_un (un_inv_own o_inv hr (by decide) (fun _ => psE0)) (pe_own o_Add hr (by decide) (fun _ => psE0) (pe_un (un_inv_own o_inv hr (by decide) (fun _ => psE0)) (pv 0)) (pv 1))) pa_nil))) pa_nil)))))))
      (pss_one (ps_ret (pe_op op_cat (pv 2) (pe_lst (pa_cons (pe_tup (pa_cons (pe_un (un_inv_own o_inv hr (by decide) (fun _ => psE0)) (pe_own o_BitAnd hr (by decide) (fun _ => psE0) (pv 0) (pv 1))) (pa_cons (pe_own o_BitOr hr (by decide) (fun _ => psE0) (pe_un (un_inv_own o_inv hr (by decide) (fun _ => psE0)) (pv 0)) (pe_un (un_inv_own o_inv hr (by decide) (fun _ => psE0)) (pv 1))) pa_nil))) (pa_cons (pe_tup (pa_cons (pe_un (un_inv_own o_inv hr (by decide) (fun _ => psE0)) (pe_own o_BitOr hr (by decide) (fun _ => psE0) (pv 0) (pv 1))) (pa_cons (pe_own o_BitAnd hr (by decide) (fun _ => psE0) (pe_un (un_inv_own o_inv hr (by decide) (fun _ => psE0)) (pv 0)) (pe_un (un_inv_own o_inv hr (by decide) (fun _ => psE0)) (pv 1))) pa_nil))) (pa_cons (pe_tup (pa_cons (pe_own o_BitAnd hr (by decide) (fun _ => psE0) (pv 0) (pe_un (un_inv_own o_inv hr (by decide) (fun _ => psE0)) (pv 0))) (pa_cons (pe_W1 c_Word hr (by decide) (fun _ => psL0) (pa_cons pe_int pa_nil)) pa_nil))) (pa_cons (pe_tup (pa_cons (pe_own o_BitXor hr (by decide) (fun _ => psE0) (pv 0) (pe_un (un_inv_own o_inv hr (by decide) (fun _ => psE0)) (pv 0))) (pa_cons (pe_W1 c_Word hr (by decide) (fun _ => psL0) (pa_cons (pe_un un_neg pe_int) pa_nil)) pa_nil))) (pa_cons (pe_tup (pa_cons (pe_own o_BitXor hr (by decide) (fun _ => psE0) (pv 0) (pv 0)) (pa_cons (pe_W1 c_Word hr (by decide) (fun _ => psL0) (pa_cons pe_int pa_nil)) pa_nil))) pa_nil))))))))))), ?_⟩
  walk_at "s0"
  have ow := Own.start H
  have b1 := wk_int (i := 1) 1 (by decide) (by decide)
  have b0 := wk_int (i := 0) 1 (by decide) (by decide)
  have bm := wk_int (i := -1) 1 (by decide) (by decide)
  have y1 := z_int 1
  have y0 := z_int 0
  have ym := z_int (-1)
  have lx := fun j => lt_low b a j
  have ly := fun j => lt_low d c j
  have i0 := low_int 0
  have i1 := low_int 1
  have im := low_int (-1)
  refine r_cut (SumM C H [some (.ref p1), some (.ref p2)] 3) ?_ ?_
  · walk_at "go"
    refine ⟨pL, _, rfl, ow.new0 g0, ow.toSame_of, ow.get 0 rfl, by simp, ?_⟩
    walk_at "prs"
    · simp only [*]; exact s1 _ _ _
    · simp only [*]; exact s2 (lx j) (ly j)
    · simp only [*]; exact s3 (lx j) (ly j)
  rintro σ' H1 ⟨r, xs, rfl, nr, s, er, ln, pr⟩
  have e1 := s _ _ e1
  have e2 := s _ _ e2
  clear ow
  have ow := Own.start H1
  dsimp only [List.cons_append, List.nil_append]
  refine r_cut (SumM C H [some (.ref p1), some (.ref p2)] 7) ?_ ?_
  · walk_at "go"
    refine ⟨pL, _, rfl, non_same s (ow.new0 g0), s.trans ow.toSame_of, ow.get 0 rfl, by simp; omega, prs_app (prs_same pr ow.toSame_of) ?_⟩
    walk_at "prs"
    · simp only [*]; exact s4 (lx j) (ly j)
    · simp only [*]; exact s5 (lx j)
    · simp only [*]; exact s6 _ _
    · simp only [*]; exact s7 _ _ _
  clear e1 e2 ow
  rintro σ' H2 ⟨r, xs, rfl, nr, s, er, ln, pr⟩
  have e1 := s _ _ e1
  have e2 := s _ _ e2
  have ow := Own.start H2
  dsimp only [List.cons_append, List.nil_append]
  walk_at "go"
  refine q _ _ _ (non_same s (ow.new0 g0)) (s.trans ow.toSame_of) (ow.get 0 rfl) (by simp; omega) (prs_app (prs_same pr ow.toSame_of) ?_)
  walk_at "prs"
  · simp only [*]; exact s8 (lx j) (ly j)
  · simp only [*]; exact s9 (lx j) (ly j)
  · simp only [*]; exact (s10 (lx j)).trans (Int.zero_emod _).symm
  · simp only [*]; exact s11 (lx j)
  · simp only [*]; exact (s12 _).trans (Int.zero_emod _).symm
theorem ok__law_three (F : FnP K "_law_three" "_law_three" s__law_three f fd) (B : Bi mg) (o_BitAnd : SMx P w K mg base C "and" Builtin.bitAnd) (o_BitOr : SMx P w K mg base C "or" Builtin.bitOr) (o_BitXor : SMx P w K mg base C "xor" Builtin.bitXor) (o_Mult : SM P w K mg base C) (o_Add : SA P w K mg base C) (o_Sub : SS P w K mg base C) : FnOk P w K mg base CX0 9 f fd ["_law_a", "_law_b", "_law_c"] (sp_three16 C) := by
  refine F.ok sc__law_three (fun vs H Q E h => by walk_at "len") (fun cdv A outer s H vs Q E hr h => ?_)
  have nd := sc__law_three.nd
  obtain ⟨p1, p2, p3, dx, dy, dz, a, b, c, d, u, v, rfl, e1, e2, e3, w1, w2, w3, z1, z2, z3, q⟩ := h
  refine ⟨_, PSs.nox (C8.pss_cut (ps_set (i := 3) nd rfl (Or.inl rfl) (pe_lst (pa_cons (pe_tup (pa_cons (pe_own o_BitAnd hr (by decide) (fun _ => psE0) (pv 0) (pe_own o_BitOr hr (by decide) (fun _ => psE0) (pv 1) (pv 2))) (pa_cons (pe_own o_BitOr hr (by decide) (fun _ => psE0) (pe_own o_BitAnd hr (by decide) (fun _ => psE0) (pv 0) (pv 1)) (pe_own o_BitAnd hr (by decide) (fun _ => psE0) (pv 0) (pv 2))) pa_nil))) (pa_cons (pe_tup (pa_cons (pe_own o_BitOr hr (by decide) (fun _ => psE0) (pv 0) (pe_own o_BitAnd hr (by decide) (fun _ => psE0) (pv 1) (pv 2))) (pa_cons (pe_own o_BitAnd hr (by decide) (fun _ => psE0) (pe_own o_BitOr hr (by decide) (fun _ => psE0) (pv 0) (pv 1)) (pe_own o_BitOr hr (by decide) (fun _ => psE0) (pv 0) (pv 2))) pa_nil))) (pa_cons (pe_tup (pa_cons (pe_own o_BitAnd hr (by decide) (fun _ => psE0) (pv 0) (pe_own o_BitXor hr (by decide) (fun _ => psE0) (pv 1) (pv 2))) (pa_cons (pe_own o_BitXor hr (by decide) (fun _ => psE0) (pe_own o_BitAnd hr (by decide) (fun _ => psE0) (pv 0) (pv 1)) (pe_own o_BitAnd hr (by decide) (fun _ => psE0) (pv 0) (pv 2))) pa_nil))) pa_nil)))))
      (C8.pss_cut (ps_set (i := 3) nd rfl (Or.inl rfl) (pe_op op_cat (pv 3) (pe_lst (pa_cons (pe_tup (pa_cons (pe_own o_BitXor hr (by decide) (fun _ => psE0) (pv 0) (pe_own o_BitXor hr (by decide) (fun _ => psE0) (pv 1) (pv 2))) (pa_cons (pe_own o_BitXor hr (by decide) (fun _ => psE0) (pe_own o_BitXor hr (by decide) (fun _ => psE0) (pv 0) (pv 1)) (pv 2)) pa_nil))) (pa_cons (pe_tup (pa_cons (pe_own o_BitAnd hr (by decide) (fun _ => psE0) (pv 0) (pe_own o_BitAnd hr (by decide) (fun _ => psE0) (pv 1) (pv 2))) (pa_cons (pe_own o_BitAnd hr (by decide) (fun _ => psE0) (pe_own o_BitAnd hr (by decide) (fun _ => psE0) (pv 0) (pv 1)) (pv 2)) pa_nil))) (pa_cons (pe_tup (pa_cons (pe_own o_BitOr hr (by decide) (fun _ => psE0) (pv 0) (pe_own o_BitOr hr (by decide) (fun _ => psE0) (pv 1) (pv 2))) (pa_cons (pe_own o_BitOr hr (by decide) (fun _ => psE0) (pe_own o_BitOr hr (by decide) (fun _ => psE0) (pv 0) (pv 1)) (pv 2)) pa_nil))) pa_nil))))))
      (pss_one (ps_ret (pe_op op_cat (pv 3) (pe_lst (pa_cons (pe_tup (pa_cons (pe_own o_Mult hr (by decide) (fun _ => psE0) (pv 0) (pe_own o_Add hr (by decide) (fun _ => psE0) (pv 1) (pv 2))) (pa_cons (pe_own o_Add hr (by decide) (fun _ => psE0) (pe_own o_Mult hr (by decide) (fun _ => psE0) (pv 0) (pv 1)) (pe_own o_Mult hr (by decide) (fun _ => psE0) (pv 0) (pv 2))) pa_nil))) (pa_cons (pe_tup (pa_cons (pe_own o_Add hr (by decide) (fun _ => psE0) (pv 0) (pe_own o_Add hr (by decide) (fun _ => psE0) (pv 1) (pv 2))) (pa_cons (pe_own o_Add hr (by decide) (fun _ => psE0) (pe_own o_Add hr (by decide) (fun _ => psE0) (pv 0) (pv 1)) (pv 2)) pa_nil))) (pa_cons (pe_tup (pa_cons (pe_own o_Sub hr (by decide) (fun _ => psE0) (pv 0) (pe_own o_Sub hr (by decide) (fun _ => psE0) (pv 1) (pv 2))) (pa_cons (pe_own o_Add hr (by decide) (fun _ => psE0) (pe_own o_Sub hr (by decide) (fun _ => psE0) (pv 0) (pv 1)) (pv 2)) pa_nil))) (pa_cons (pe_tup (pa_cons (pe_own o_Mult hr (by decide) (fun _ => psE0) (pv 0) (pv 1)) (pa_cons (pe_own o_Mult hr (by decide) (fun _ => psE0) (pv 1) (pv 0)) pa_nil))) pa_nil)))))))))), ?_⟩
  walk_at "s0"
  have ow := Own.start H
  have lx := fun j => lt_low b a j
  have ly := fun j => lt_low d c j
  have lz := fun j => lt_low v u j
  refine r_cut (SumM C H [some (.ref p1), some (.ref p2), some (.ref p3)] 3) ?_ ?_
  · walk_at "go"
    refine ⟨pL, _, rfl, ow.new0 g0, ow.toSame_of, ow.get 0 rfl, by simp, ?_⟩
    walk_at "prs"
    · simp only [*]; exact a1 (lx j) (ly j) (lz j)
    · simp only [*]; exact a2 (lx j) (ly j) (lz j)
    · simp only [*]; exact a3 (lx j) (ly j) (lz j)
  rintro σ' H1 ⟨r, xs, rfl, nr, s, er, ln, pr⟩
  have e1 := s _ _ e1
  have e2 := s _ _ e2
  have e3 := s _ _ e3
  clear ow
  have ow := Own.start H1
  dsimp only [List.cons_append, List.nil_append]
  refine r_cut (SumM C H [some (.ref p1), some (.ref p2), some (.ref p3)] 6) ?_ ?_
  · walk_at "go"
    refine ⟨pL, _, rfl, non_same s (ow.new0 g0), s.trans ow.toSame_of, ow.get 0 rfl, by simp; omega, prs_app (prs_same pr ow.toSame_of) ?_⟩
    walk_at "prs"
    · simp only [*]; exact a4 (lx j) (ly j) (lz j)
    · simp only [*]; exact a5 (lx j) (ly j) (lz j)
    · simp only [*]; exact a6 (lx j) (ly j) (lz j)
  clear e1 e2 e3 ow
  rintro σ' H2 ⟨r, xs, rfl, nr, s, er, ln, pr⟩
  have e1 := s _ _ e1
  have e2 := s _ _ e2
  have e3 := s _ _ e3
  have ow := Own.start H2
  dsimp only [List.cons_append, List.nil_append]
  walk_at "go"
  refine q _ _ _ (non_same s (ow.new0 g0)) (s.trans ow.toSame_of) (ow.get 0 rfl) (by simp; omega) (prs_app (prs_same pr ow.toSame_of) ?_)
  walk_at "prs"
  · simp only [*]; exact ring1 _ _ _ _
  · simp only [*]; exact ring2 _ _ _ _
  · simp only [*]; exact ring3 _ _ _ _
  · simp only [*]; rw [Int.mul_comm]
theorem ok__law_moved (F : FnP K "_law_moved" "_law_moved" s__law_moved f fd) (B : Bi mg) (o_Sub : SS P w K mg base C) (o_LShift : SL P w K mg base C aInvalidShift) (o_RShift : SR P w K mg base C aInvalidShift) (c_Word : WordC P w K mg base C aInvalidWord) (o_BitAnd : SMx P w K mg base C "and" Builtin.bitAnd) (o_BitOr : SMx P w K mg base C "or" Builtin.bitOr) (o_BitXor : SMx P w K mg base C "xor" Builtin.bitXor) (o_Mult : SM P w K mg base C) (o_inv : MeC P w K mg base CX0 C "__invert__" 6 ["self"] (sp_un C (fun t b => -t - b)) ao_inv) (o_FloorDiv : SF P w K mg base C aNotOdd) (o_Add : SA P w K mg base C) : FnOk P w K mg base CX0 9 f fd ["_law_a", "_law_b", "_law_up", "_law_odd"] (sp_moved C) := by
  refine F.ok sc__law_moved (fun vs H Q E h => by walk_at "len") (fun cdv A outer s H vs Q E hr h => ?_)
  have nd := sc__law_moved.nd
  obtain ⟨p1, p2, dx, dy, a, b, c, d, up, od, rfl, e1, e2, w1, w2, z1, z2, u0, u1, oo, ob, q⟩ := h
  refine ⟨_, PSs.nox (C8.pss_cut (ps_par (i := 4) (j := 5) rfl nd rfl rfl (by decide) rfl rfl (pa_cons (pe_own o_Sub hr (by decide) (fun _ => psE0) (pv 0) (pe_ownL o_LShift hr (by decide) (fun _ => psL0) (pe_ownL o_RShift hr (by decide) (fun _ => psL0) (pv 0) (pv 2)) (pv 2))) (pa_cons (pe_ownL o_LShift hr (by decide) (fun _ => psL0) (pe_W1 c_Word hr (by decide) (fun _ => psL0) (pa_cons pe_int pa_nil)) (pv 2)) pa_nil)) rfl)
      (C8.pss_cut (ps_set (i := 6) nd rfl (Or.inl rfl) (pe_lst (pa_cons (pe_tup (pa_cons (pe_ownL o_RShift hr (by decide) (fun _ => psL0) (pe_ownL o_LShift hr (by decide) (fun _ => psL0) (pv 0) (pv 2)) (pv 2)) (pa_cons (pv 0) pa_nil))) (pa_cons (pe_tup (pa_cons (pv 4) (pa_cons (pe_own o_BitAnd hr (by decide) (fun _ => psE0) (pv 0) (pe_own o_Sub hr (by decide) (fun _ => psE0) (pv 5) pe_int)) pa_nil))) (pa_cons (pe_tup (pa_cons (pe_ownL o_LShift hr (by decide) (fun _ => psL0) (pe_own o_BitAnd hr (by decide) (fun _ => psE0) (pv 0) (pv 1)) (pv 2)) (pa_cons (pe_own o_BitAnd hr (by decide) (fun _ => psE0) (pe_ownL o_LShift hr (by decide) (fun _ => psL0) (pv 0) (pv 2)) (pe_ownL o_LShift hr (by decide) (fun _ => psL0) (pv 1) (pv 2))) pa_nil))) pa_nil)))))
      (C8.pss_cut (ps_expr (pe_bm PySem.F.plainAttrs_list PySem.F.slot_list_append PySem.F.type_list_append mt_append (pv 6) (pa_cons (pe_tup (pa_cons (pe_ownL o_RShift hr (by decide) (fun _ => psL0) (pe_own o_BitOr hr (by decide) (fun _ => psE0) (pv 0) (pv 1)) (pv 2)) (pa_cons (pe_own o_BitOr hr (by decide) (fun _ => psE0) (pe_ownL o_RShift hr (by decide) (fun _ => psL0) (pv 0) (pv 2)) (pe_ownL o_RShift hr (by decide) (fun _ => psL0) (pv 1) (pv 2))) pa_nil))) pa_nil)))
      (C8.pss_cut (ps_set (i := 6) nd rfl (Or.inl rfl) (pe_op op_cat (pv 6) (pe_lst (pa_cons (pe_tup (pa_cons (pe_ownL o_RShift hr (by decide) (fun _ => psL0) (pe_own o_BitXor hr (by decide) (fun _ => psE0) (pv 0) (pv 1)) (pv 2)) (pa_cons (pe_own o_BitXor hr (by decide) (fun _ => psE0) (pe_ownL o_RShift hr (by decide) (fun _ => psL0) (pv 0) (pv 2)) (pe_ownL o_RShift hr (by decide) (fun _ => psL0) (pv 1) (pv 2))) pa_nil))) (pa_cons (pe_tup (pa_cons (pe_ownL o_LShift hr (by decide) (fun _ => psL0) (pv 0) (pv 2)) (pa_cons (pe_own o_Mult hr (by decide) (fun _ => psE0) (pv 0) (pv 5)) pa_nil))) (pa_cons (pe_tup (pa_cons (pe_ownL o_RShift hr (by decide) (fun _ => psL0) (pe_un (un_inv_own o_inv hr (by decide) (fun _ => psE0)) (pv 0)) (pv 2)) (pa_cons (pe_un (un_inv_own o_inv hr (by decide) (fun _ => psE0)) (pe_ownL o_RShift hr (by decide) (fun _ => psL0) (pv 0) (pv 2))) pa_nil))) pa_nil))))))
      (pss_one (ps_ret (pe_op op_cat (pv 6) (pe_lst (pa_cons (pe_tup (pa_cons (pe_own o_Mult hr (by decide) (fun _ => psE0) (pe_own o_FloorDiv hr (by decide) (fun _ => psL0) (pv 0) (pv 3)) (pv 3)) (pa_cons (pv 0) pa_nil))) (pa_cons (pe_tup (pa_cons (pe_own o_FloorDiv hr (by decide) (fun _ => psL0) (pe_own o_Add hr (by decide) (fun _ => psE0) (pv 0) (pv 1)) (pv 3)) (pa_cons (pe_own o_Add hr (by decide) (fun _ => psE0) (pe_own o_FloorDiv hr (by decide) (fun _ => psL0) (pv 0) (pv 3)) (pe_own o_FloorDiv hr (by decide) (fun _ => psL0) (pv 1) (pv 3))) pa_nil))) (pa_cons (pe_tup (pa_cons (pe_ownL o_RShift hr (by decide) (fun _ => psL0) (pv 0) (pv 2)) (pa_cons (pe_ownL o_RShift hr (by decide) (fun _ => psL0) (pe_own o_Sub hr (by decide) (fun _ => psE0) (pv 0) (pv 4)) (pv 2)) pa_nil))) pa_nil))))))))))), ?_⟩
  walk_at "s0"
  have ow := Own.start H
  have b1 := wk_int (i := 1) 1 (by decide) (by decide)
  have bo := wk_int (i := od) 7 (by omega) (by decide)
  have y1 := z_int 1
  have i1 := low_int 1
  have lx := fun j => lt_low b a j
  have ly := fun j => lt_low d c j
  refine r_cut (fun σ' H' => ∃ (W1 W2 dW1 dW2 : Addr) (P1 Q1 P2 Q2 : Int), σ' = [some (.ref p1), some (.ref p2), some (.int up), some (.int od), some (.ref W1), some (.ref W2), none] ∧ Same H H' ∧ H' W1 = some (cw C dW1 P1 Q1) ∧ H' W2 = some (cw C dW2 P2 Q2) ∧ Wk 90 P1 Q1 ∧ Wk 90 P2 Q2 ∧ Z60 P1 Q1 ∧ Z60 P2 Q2 ∧ (∀ j, lowS Q1 j P1 = lowS b up.toNat a % 2 ^ j) ∧ ∀ j, lowS Q2 j P2 = 1 % 2 ^ j * 2 ^ up.toNat % 2 ^ j) ?_ ?_
  · walk_at "go"
    refine ⟨_, _, _, _, _, _, _, _, rfl, ow.toSame_of, by walk_at "hx", by walk_at "hx", Wk.mono (by with_reducible assumption) (by omega), Wk.mono (by with_reducible assumption) (by omega), by with_reducible assumption, by with_reducible assumption, fun j => ?_, fun j => ?_⟩
    · simp only [*]; exact m2a _ _ _ _
    · simp only [*]
  rintro σ' H0 ⟨W1, W2, dW1, dW2, P1, Q1, P2, Q2, rfl, s0, e3, e4, w3, w4, z3, z4, l3, l4⟩
  have e1 := s0 _ _ e1
  have e2 := s0 _ _ e2
  clear ow
  have ow := Own.start H0
  refine r_cut (SumM C H0 [some (.ref p1), some (.ref p2), some (.int up), some (.int od), some (.ref W1), some (.ref W2)] 3) ?_ ?_
  · walk_at "go"
    refine ⟨pL, _, rfl, ow.new0 g0, ow.toSame_of, ow.get 0 rfl, by simp, ?_⟩
    walk_at "prs"
    · simp only [*]; exact m1 _ _ _ _
    · simp only [*]; exact m2 _ _ _ _
    · simp only [*]; exact m3 (lx j).1 (ly j).1 _ _
  rintro σ' H1 ⟨r, xs, rfl, nr, s, er, ln, pr⟩
  clear ow
  dsimp only [List.cons_append, List.nil_append]
  refine r_cut (SumM C H0 [some (.ref p1), some (.ref p2), some (.int up), some (.int od), some (.ref W1), some (.ref W2)] 4) ?_ ?_
  · have sm := mask_same s nr
    have pm := prs_mask er pr
    have ow := Own.take1 er
    have e1 := sm _ _ e1
    have e2 := sm _ _ e2
    walk_at "go"
    refine ⟨r, _, rfl, nr, sm.trans ow.toSame_of, ow.get _ (by walk_at "oi"), by simp; omega, prs_app (prs_same pm ow.toSame_of) ?_⟩
    walk_at "prs"
    · simp only [*]; exact opb_shr bf_or _ (lx _).1 (ly _).1
  clear s er pr ln nr
  rintro σ' H2 ⟨r, xs, rfl, nr, s, er, ln, pr⟩
  dsimp only [List.cons_append, List.nil_append]
  refine r_cut (SumM C H0 [some (.ref p1), some (.ref p2), some (.int up), some (.int od), some (.ref W1), some (.ref W2)] 7) ?_ ?_
  · have ow := Own.start H2
    have e1 := s _ _ e1
    have e2 := s _ _ e2
    have e3 := s _ _ e3
    have e4 := s _ _ e4
    walk_at "go"
    refine ⟨pL, _, rfl, non_same s (ow.new0 g0), s.trans ow.toSame_of, ow.get 0 rfl, by simp; omega, prs_app (prs_same pr ow.toSame_of) ?_⟩
    walk_at "prs"
    · simp only [*]; exact opb_shr bf_xor _ (lx _).1 (ly _).1
    · simp only [*]; exact m6 _ _ _
    · simp only [*]; exact m7 (lx _)
  clear s er pr ln nr
  rintro σ' H2 ⟨r, xs, rfl, nr, s, er, ln, pr⟩
  dsimp only [List.cons_append, List.nil_append]
  have ow := Own.start H2
  have e1 := s _ _ e1
  have e2 := s _ _ e2
  have e3 := s _ _ e3
  have e4 := s _ _ e4
  walk_at "go"
  refine q _ _ _ (non_same s0 (non_same s (ow.new0 g0))) ((s0.trans s).trans ow.toSame_of) (ow.get 0 rfl) (by simp; omega) (prs_app (prs_same pr ow.toSame_of) ?_)
  walk_at "prs"
  · simp only [*]
  · simp only [*]
    refine m9 (w := od) (A := lowS b j a) (B := lowS d j c) oo (lt_low _ _ j) ?_ ?_ ?_ <;> rw [← low_int od j] <;> simp only [*]
  · simp only [*]; exact (m10 _ _ _ _).symm
end

/-! the law's loops -/
abbrev s_law : Stmt := top 35
theorem sc_law : FnScope ["_law_script", "_law_place", "_law_well_here", "_law_turn"] ["_law_script"] (defScope s_law) := ⟨rfl, rfl, rfl, by decide +kernel, rfl, by decide +kernel, by decide +kernel⟩
def sp_fits : Sp := fun vs H Q _ => ∃ (a : Addr) (x y z : Int), vs = [.ref a] ∧ H a = some (wl x y z) ∧ WOk y z ∧ z + 200 ≤ 1000000 ∧ ∀ x' z' H', z ≤ z' → z' ≤ z + 200 → Mut a (wl x' y z') H H' → Q (.bl true) H'
section
variable {P : Program} {w : World} {K : PySem.W.Frag} {mg : Str → Option Value} {base : Heap}
def sp_law (K : PySem.W.Frag) : Sp := fun vs H Q _ => ∃ (a : Addr) (ns : List Int), vs = [.ref a] ∧ SqL K H a (ns.map V.int) ∧ ns.length ≤ 63 ∧ ∀ H', Same H H' → Q (.bl true) H'
theorem c_well {F H : Hp} {L : List (Addr × HO)} {a : Addr} {ns : List Int} {k : Nat} {i : Int} {Q : VK} {E : XK} (h : Own F H L) (hS : SqL K H a (ns.map V.int)) (hl : ns.length ≤ 63) (hi : i = (k : Int)) (hk : k ≤ 63) (q : ∀ p x y H', H p = none → WOk y 0 → Own F H' ((p, wl x y 0) :: L) → Q (.ref p) H') : sp_well K ([.ref a, .int i] ++ []) H Q E :=
  ⟨a, ns, k, by rw [hi]; rfl, hS, hl, hk, fun p x y H' n e s w => q p x y H' n w (h.newS n s e)⟩
theorem c_fits {F H : Hp} {L : List (Addr × HO)} {i : Nat} {a : Addr} {x y z : Int} {Q : VK} {E : XK} (h : Own F H L) (e : L[i]? = some (a, wl x y z)) (wk : WOk y z) (hz : z + 200 ≤ 1000000)
    (k : ∀ x' z' H', z ≤ z' → z' ≤ z + 200 → WOk y z' → Own F H' (L.set i (a, wl x' y z')) → Q (.bl true) H') : sp_fits ([.ref a] ++ []) H Q E :=
  ⟨a, x, y, z, rfl, h.get i e, wk, hz, fun x' z' H' h1 h2 m => k x' z' H' h1 h2 ⟨wk.y0, wk.y1, by have := wk.z0; omega, by omega⟩ (h.mut i e m)⟩
theorem ok_law {f : Addr} {fd : FuncData} (F : FnP K "law" "law" s_law f fd) (B : Bi mg) (c__law_well : Fo P w K mg base CX0 1 "_law_well" ["_law_script", "_law_place"] (sp_well K)) (c__law_fits : FoG P w K mg base CX0 20 "_law_fits" ["_law_well_here"] sp_fits) : FnG P w K mg base CX0 21 f fd ["_law_script"] (sp_law K) := by
  refine FunD_okG F sc_law (fun vs H Q E h => ?_) (fun cdv A outer s H vs Q E gd hr h => ?_)
  · obtain ⟨a, ns, rfl, _⟩ := h
    rfl
  · obtain ⟨a, ns, rfl, hS, hl, q⟩ := h
    have nd := sc_law.nd
    refine ⟨_, PSs.nox (pss_cons (ps_for PassesOwn.never rfl (pi_range1 rfl B.range (pa_cons (pe_callB (cb_max2 rfl) rfl B.max (by decide +kernel) (pa_cons pe_int (pa_cons (pe_callB (cb_min2 rfl) rfl B.min (by decide +kernel) (pa_cons pe_int (pa_cons (pe_callB cb_len rfl B.len (by decide +kernel) (pa_cons (pv 0) pa_nil)) pa_nil))) pa_nil))) pa_nil)) (pg_name (i := 1) nd rfl (.inl rfl))
      (pss_cons (ps_set (i := 2) nd rfl (Or.inl rfl) (pe_fo c__law_well hr (by decide) (pa_cons (pv 0) (pa_cons (pv 1) pa_nil))))
      (pss_one (ps_for PassesOwn.never rfl (pi_range1 rfl B.range (pa_cons pe_int pa_nil)) (pg_name (i := 3) nd rfl (.inl rfl))
      (pss_one (ps_if (pt_not (pt_val (pe_foG c__law_fits gd hr (by decide) (pa_cons (pv 2) pa_nil)))) (pss_one (ps_ret pe_bl)) pss_nil))))))
      (pss_one (ps_ret pe_bl))), ?_⟩
    walk_at "s0"
    have hl2 : (ns.map V.int).length ≤ 63 := by rw [List.length_map]; exact hl
    walk_at "go"
    refine for_range (fun _ σ' H' => ∃ u1 u2 u3 : Option V, σ' = [some (.ref a), u1, u2, u3] ∧ Same H H') ⟨_, _, _, rfl, Same.refl H⟩ ?_ ?_
    · rintro i σ' H1 hi ⟨u1, u2, u3, rfl, s1⟩
      have ow := Own.start H1
      have hS1 := s1.seq hS
      walk_at "go"
      refine c_well (k := i) ow hS1 hl (by omega) (by omega) ?_
      intro pL x y H' np wk ow
      walk_at "go"
      refine for_range (fun j σ' H' => ∃ (x' z' : Int) (u : Option V), σ' = [some (.ref a), some (.int (0 + (i : Int))), some (.ref pL), u] ∧ WOk y z' ∧ z' ≤ 200 * j ∧ Own H1 H' [(pL, wl x' y z')]) ⟨_, _, _, rfl, wk, by omega, ow⟩ ?_ ?_
      · rintro j σ' H2 hj ⟨x', z', u, rfl, wk, hz, ow⟩
        walk_at "go"
        refine c_fits ow g0 wk (by have := wk.z0; omega) ?_
        intro x2 z2 H3 h1 h2 wk ow
        walk_at "go"
        exact ⟨_, _, _, rfl, wk, by omega, ow⟩
      · rintro σ' H2 ⟨x', z', u, rfl, wk, hz, ow⟩
        exact ⟨_, _, _, rfl, s1.trans ow.toSame_of⟩
    · rintro σ' H1 ⟨u1, u2, u3, rfl, s1⟩
      walk_at "go"
      exact q H1 s1
end

/-! k16: short words, low bits and counts, the law -/
abbrev s__law_short : Stmt := top 29
theorem sc__law_short : FnScope ["_law_well_here", "_law_bottom", "_law_top"] ["_law_well_here"] (defScope s__law_short) := ⟨rfl, rfl, rfl, by decide +kernel, rfl, by decide +kernel, by decide +kernel⟩
abbrev s__law_low_right : Stmt := top 33
theorem sc__law_low_right : FnScope ["_law_a", "_law_b", "_law_width", "_law_top", "_law_one", "_law_two", "_law_told", "_law_want", "_law_both", "_law_place"] ["_law_a", "_law_b", "_law_width"] (defScope s__law_low_right) := ⟨rfl, rfl, rfl, by decide +kernel, rfl, by decide +kernel, by decide +kernel⟩
abbrev s__law_fits : Stmt := top 34
theorem sc__law_fits : FnScope ["_law_well_here", "_law_a", "_law_b", "_law_c", "_law_up", "_law_odd", "_law_one", "_law_two", "_law_low", "_law_index", "_law_place"] ["_law_well_here"] (defScope s__law_fits) := ⟨rfl, rfl, rfl, by decide +kernel, rfl, by decide +kernel, by decide +kernel⟩
theorem Own.frzs {H : Hp} {x : Addr × HO} : ∀ (L1 : List (Addr × HO)) {F : Hp}, Own F H (L1 ++ [x]) → ∃ F', Own F' H [x] ∧ Same F F' ∧ ∀ (i : Nat) (a : Addr) (o : HO), L1[i]? = some (a, o) → F' a = some o
  | [], F, h => ⟨F, h, Same.refl F, fun i a o e => by simp at e⟩
  | (p, o) :: L1, F, h => by
    obtain ⟨h2, s⟩ := Own.frz (L := L1 ++ [x]) h
    obtain ⟨F', h3, s3, g⟩ := Own.frzs L1 h2
    refine ⟨F', h3, s.trans s3, fun i a u e => ?_⟩
    cases i with
    | zero => simp at e; obtain ⟨rfl, rfl⟩ := e; exact s3 _ _ upd_same
    | succ i => exact g i a u (by simpa using e)
theorem at8 {v : Int} (h0 : 0 ≤ v) (h1 : v < 8) : ∃ b : Int, atI [V.int 1, V.int 3, V.int 5, V.int 7, V.int 9, V.int 15, V.int 21, V.int 31] v = some (V.int b) ∧ b % 2 = 1 ∧ 1 ≤ b ∧ b ≤ 31 ∧ b ∣ 2 ^ 60 - 1 := by
  have : v = 0 ∨ v = 1 ∨ v = 2 ∨ v = 3 ∨ v = 4 ∨ v = 5 ∨ v = 6 ∨ v = 7 := by omega
  rcases this with rfl | rfl | rfl | rfl | rfl | rfl | rfl | rfl
  · exact ⟨1, rfl, by decide, by decide, by decide, ⟨(2 ^ 60 - 1) / 1, by decide⟩⟩
  · exact ⟨3, rfl, by decide, by decide, by decide, ⟨(2 ^ 60 - 1) / 3, by decide⟩⟩
  · exact ⟨5, rfl, by decide, by decide, by decide, ⟨(2 ^ 60 - 1) / 5, by decide⟩⟩
  · exact ⟨7, rfl, by decide, by decide, by decide, ⟨(2 ^ 60 - 1) / 7, by decide⟩⟩
  · exact ⟨9, rfl, by decide, by decide, by decide, ⟨(2 ^ 60 - 1) / 9, by decide⟩⟩
  · exact ⟨15, rfl, by decide, by decide, by decide, ⟨(2 ^ 60 - 1) / 15, by decide⟩⟩
  · exact ⟨21, rfl, by decide, by decide, by decide, ⟨(2 ^ 60 - 1) / 21, by decide⟩⟩
  · exact ⟨31, rfl, by decide, by decide, by decide, ⟨(2 ^ 60 - 1) / 31, by decide⟩⟩
theorem at2 {A B : V} {v : Int} (h0 : 0 ≤ v) (h1 : v < 2) : ∃ u, atI [A, B] v = some u ∧ (u = A ∨ u = B) := by
  have : v = 0 ∨ v = 1 := by omega
  rcases this with rfl | rfl
  · exact ⟨A, rfl, .inl rfl⟩
  · exact ⟨B, rfl, .inr rfl⟩
def sp_short (C : Addr) : Sp := fun vs H R _ => ∃ (a : Addr) (x y z : Int), vs = [.ref a] ∧ H a = some (wl x y z) ∧ WOk y z ∧ z + 10 ≤ 1000000 ∧
  ∀ W dW t b x' z' H', Wk 12 t b → Z60 t b → z ≤ z' → z' ≤ z + 10 → H W = none → H' W = some (cw C dW t b) → Mut a (wl x' y z') H H' → R (.ref W) H'
def sp_lowr (C : Addr) : Sp := fun vs H Q _ => ∃ (p1 p2 dx dy : Addr) (a b c d n : Int), vs = [.ref p1, .ref p2, .int n] ∧ H p1 = some (cw C dx a b) ∧ H p2 = some (cw C dy c d) ∧ Wk 12 a b ∧ Wk 12 c d ∧ Z60 a b ∧ Z60 c d ∧ 0 ≤ n ∧ n ≤ 120 ∧ ∀ H', Same H H' → Q (.bl true) H'
theorem fu_cases {p q a b c d : Int} {n m : Nat} {v : V} (w1 : Wk n a b) (w2 : Wk m c d) (oq : q % 2 = 1) (hl : ∀ j, lowS q j p = Builtin.bitXor (lowS b j a) (lowS d j c)) (hv : NthV q p 0 v) :
    (v = .non ∧ wT a b * wB c d - wT c d * wB a b = 0) ∨ ∃ P : Nat, v = .int P ∧ P < n + m + 1 ∧ First (wT a b) (wB a b) (wT c d) (wB c d) P ∧ ¬ hvs b P a % 2 = hvs d P c % 2 := by
  have bit : ∀ i, hvs q i p % 2 = if hvs b i a % 2 = hvs d i c % 2 then 0 else 1 := fun i => by
    rw [← bit_lowN (n := i + 1) (by omega), hl, b_xor i (lowS_bd b (i + 1) a).1 (lowS_bd d (i + 1) c).1, bit_lowN (by omega), bit_lowN (by omega)]
  have o1 := odd_nm w1.bd.ok
  have o2 := odd_nm w2.bd.ok
  rcases hv with ⟨P, rfl, o, cn⟩ | ⟨rfl, al⟩
  · have lo : ∀ j, j < P → hvs b j a % 2 = hvs d j c % 2 := fun j hj => by
      have m1 := sB_mono q p 0 (show j + 1 ≤ P by omega)
      rw [sB_app, Nat.zero_add, sB_one] at m1
      have m2 := sB_nn q p 0 j
      have b1 := bit j
      by_cases g : hvs b j a % 2 = hvs d j c % 2
      · exact g
      · rw [if_neg g] at b1
        omega
    have un : ¬ hvs b P a % 2 = hvs d P c % 2 := fun g => by
      have b1 := bit P
      rw [if_pos g] at b1
      omega
    have f : First (wT a b) (wB a b) (wT c d) (wB c d) P := first_of o1 o2 (fun j hj => by rw [hv_red w1.oq, hv_red w2.oq]; exact lo j hj) (by rw [hv_red w1.oq, hv_red w2.oq]; exact un)
    have r1 := w1.bd
    have r2 := w2.bd
    have a1 := Nat.lt_of_le_of_lt (wT_le (t := a) r1.ne) r1.p1
    have a2 := Nat.lt_of_le_of_lt (wB_le (t := a) r1.ne) r1.q1
    have a3 := Nat.lt_of_le_of_lt (wT_le (t := c) r2.ne) r2.p1
    have a4 := Nat.lt_of_le_of_lt (wB_le (t := c) r2.ne) r2.q1
    exact .inr ⟨P, rfl, first_lt f (subW (n + m) (mulW n m a1 a4) (by rw [Nat.add_comm]; exact mulW m n a3 a2)), f, un⟩
  · have eq : ∀ j, lowS b j a = lowS d j c := fun j => lowS_same j fun i _ => by
      have m1 := al (i + 1)
      rw [sB_app, Nat.zero_add, sB_one] at m1
      have m2 := sB_nn q p 0 i
      have b1 := bit i
      by_cases g : hvs b i a % 2 = hvs d i c % 2
      · exact g
      · rw [if_neg g] at b1
        omega
    have z := eq_low w1 w2 eq
    exact .inl ⟨rfl, by rw [z.1, z.2, Int.sub_self]⟩
theorem rq_lt {k m j : Nat} {X : Int} (x : Lt j X) (hj : j ≤ 121) (hm : Nat.ble 123 m = true) : Rp k m (.int X) := by
  have h : X.natAbs < 2 ^ 121 := by
    have h1 : (2 : Nat) ^ j ≤ 2 ^ 121 := Nat.pow_le_pow_right (by decide) hj
    have h2 : ((2 ^ j : Nat) : Int) = 2 ^ j := by simp
    have h3 := x.1
    have h4 := x.2
    omega
  exact (rp_intS 121 h (by decide) (by decide)).mono (Nat.zero_le _) (Nat.le_of_ble_eq_true hm)
theorem lt_one {j : Nat} {X : Int} (x : Lt j X) : Lt j (1 * 2 ^ j - 1 - X) := by rw [Int.one_mul]; exact lt_not x
theorem lt_mod1 (j : Nat) (X : Int) : Lt j (X % (1 * 2 ^ j)) := by rw [Int.one_mul]; exact lt_mod j X
theorem i_intNon {i : Int} {A B : Prop} (k : B) : if decide (V.int i = V.non) = true then A else B := by rw [if_neg (by simp)]; exact k
section
variable {K : PySem.W.Frag} {F H : Hp} {L : List (Addr × HO)} {C rx ry dx dy p1 p2 p3 dz : Addr} {a b c d u v m up od : Int} {x y : V} {Q : VK} {E : XK} {n1 n2 i : Nat}
theorem o_eqO2 {t b u v : Int} (e1 : H rx = some (.ins C dx (wfl t b))) (e2 : H ry = some (.ins C dy (wfl u v))) (z : t = u ∧ b = v) (k : Q (.bl true) H) : rEqO C (sp_eqW C) (.ref rx) (.ref ry) H Q := ⟨rx, ry, dx, dy, _, _, rfl, rfl, e1, e2, rx, ry, dx, dy, t, b, u, v, rfl, e1, e2, by rw [decide_eq_true z]; exact k⟩
theorem o_neO2 {t b u v : Int} (e1 : H rx = some (.ins C dx (wfl t b))) (e2 : H ry = some (.ins C dy (wfl u v))) (z : t = u ∧ b = v) (k : Q (.bl false) H) : rNeO C (sp_eqW C) (.ref rx) (.ref ry) H Q := ⟨rx, ry, dx, dy, _, _, rfl, rfl, e1, e2, rx, ry, dx, dy, t, b, u, v, rfl, e1, e2, _, rfl, by rw [decide_eq_true z]; exact k⟩
theorem c_short {a : Addr} {x y z : Int} (h : Own F H L) (e : L[i]? = some (a, wl x y z)) (wk : WOk y z) (hz : z + 10 ≤ 1000000)
    (k : ∀ W dW t b x' z' H', Wk 12 t b → Z60 t b → z ≤ z' → z' ≤ z + 10 → WOk y z' → Own F H' ((W, cw C dW t b) :: L.set i (a, wl x' y z')) → Q (.ref W) H') : sp_short C ([.ref a] ++ []) H Q E :=
  ⟨a, x, y, z, rfl, h.get i e, wk, hz, fun W dW t b x' z' H' w1 zz h2 h3 h4 h5 h6 => k W dW t b x' z' H' w1 zz h2 h3 ⟨wk.y0, wk.y1, by have := wk.z0; omega, by omega⟩ (h.mutnew e h6 h4 h5)⟩
theorem c_sums (h : Own F H L) (e1 : H p1 = some (cw C dx a b)) (e2 : H p2 = some (cw C dy c d)) (w1 : Wk 12 a b) (w2 : Wk 12 c d) (z1 : Z60 a b) (z2 : Z60 c d)
    (k : ∀ r xs H', xs.length ≤ 100 → PrsE C H' xs → Own F H' ((r, .lst xs) :: L) → Q (.ref r) H') : sp_sums C ([.ref p1, .ref p2] ++ []) H Q E :=
  ⟨p1, p2, dx, dy, a, b, c, d, rfl, e1, e2, w1, w2, z1, z2, fun r xs H' n s e l pr => k r xs H' l pr (h.newS n s e)⟩
theorem c_three16 (h : Own F H L) (e1 : H p1 = some (cw C dx a b)) (e2 : H p2 = some (cw C dy c d)) (e3 : H p3 = some (cw C dz u v)) (w1 : Wk 12 a b) (w2 : Wk 12 c d) (w3 : Wk 12 u v) (z1 : Z60 a b) (z2 : Z60 c d) (z3 : Z60 u v)
    (k : ∀ r xs H', Same H H' → xs.length ≤ 100 → PrsE C H' xs → Own F H' ((r, .lst xs) :: L) → Q (.ref r) H') : sp_three16 C ([.ref p1, .ref p2, .ref p3] ++ []) H Q E :=
  ⟨p1, p2, p3, dx, dy, dz, a, b, c, d, u, v, rfl, e1, e2, e3, w1, w2, w3, z1, z2, z3, fun r xs H' n s e l pr => k r xs H' s l pr (h.newS n s e)⟩
theorem c_moved (h : Own F H L) (e1 : H p1 = some (cw C dx a b)) (e2 : H p2 = some (cw C dy c d)) (w1 : Wk 12 a b) (w2 : Wk 12 c d) (z1 : Z60 a b) (z2 : Z60 c d) (u0 : 0 ≤ up) (u1 : up ≤ 60) (oo : od % 2 = 1) (o1 : od.natAbs ≤ 100)
    (k : ∀ r xs H', Same H H' → xs.length ≤ 100 → PrsE C H' xs → Own F H' ((r, .lst xs) :: L) → Q (.ref r) H') : sp_moved C ([.ref p1, .ref p2, .int up, .int od] ++ []) H Q E :=
  ⟨p1, p2, dx, dy, a, b, c, d, up, od, rfl, e1, e2, w1, w2, z1, z2, u0, u1, oo, o1, fun r xs H' n s e l pr => k r xs H' s l pr (h.newS n s e)⟩
theorem c_lowr (h : Own F H L) (e1 : H p1 = some (cw C dx a b)) (e2 : H p2 = some (cw C dy c d)) (w1 : Wk 12 a b) (w2 : Wk 12 c d) (z1 : Z60 a b) (z2 : Z60 c d) (u0 : 0 ≤ m) (u1 : m ≤ 120) (k : ∀ H', Own F H' L → Q (.bl true) H') : sp_lowr C ([.ref p1, .ref p2, .int m] ++ []) H Q E :=
  ⟨p1, p2, dx, dy, a, b, c, d, m, rfl, e1, e2, w1, w2, z1, z2, u0, u1, fun H' s => k H' (h.same s)⟩
theorem o_catV {a b : Addr} {xs ys : List V} (h : Own F H L) (e1 : H a = some (.lst xs)) (e2 : H b = some (.lst ys)) (z : xs.length + ys.length ≤ 1000) (k : ∀ p H', Same H H' → H p = none → Own F H' ((p, .lst (xs ++ ys)) :: L) → Q (.ref p) H') : rCat (.ref a) (.ref b) H Q :=
  ⟨a, b, xs, ys, rfl, rfl, e1, e2, Nat.le_trans z (by decide), fun p n => k p _ ((Own.start _).new n).sub n (h.new n)⟩
end
set_option hygiene false in
local macro_rules | `(tactic| walk_at "wk") => `(tactic| with_reducible assumption)
set_option hygiene false in
local macro_rules | `(tactic| walk_at "rp") => `(tactic| first
  | assumption
  | exact Bs.rq_lt (Bs.lt_mod1 _ _) (by omega) (by simp)
  | exact Bs.rq_lt (Bs.lt_low _ _ _) (by omega) (by simp)
  | exact Bs.rq_lt (Bs.lt_and (Bs.lt_low _ _ _) (Bs.lt_low _ _ _)) (by omega) (by simp)
  | exact Bs.rq_lt (Bs.lt_or (Bs.lt_low _ _ _) (Bs.lt_low _ _ _)) (by omega) (by simp)
  | exact Bs.rq_lt (Bs.lt_xor (Bs.lt_low _ _ _) (Bs.lt_low _ _ _)) (by omega) (by simp)
  | exact Bs.rq_lt (Bs.lt_one (Bs.lt_low _ _ _)) (by omega) (by simp))
set_option hygiene false in
local macro_rules | `(tactic| walk_at "r1") => `(tactic| first
  | with_reducible refine Bs.i_intNon ?_
  | ((with_reducible refine' Bs.o_eqO2 ?p1 ?p2 ?p3 ?_); (case p1 => walk_at "hx"); (case p2 => walk_at "hx"); (case p3 => with_reducible assumption))
  | ((with_reducible refine' Bs.o_neO2 ?p1 ?p2 ?p3 ?_); (case p1 => walk_at "hx"); (case p2 => walk_at "hx"); (case p3 => with_reducible assumption))
  | ((with_reducible refine' Bs.o_catV ?p1 ?p2 ?p3 ?p4 ?_); (case p1 => assumption); (case p2 => walk_at "hx"); (case p3 => walk_at "hx"); (case p4 => first | omega | exact Nat.le_of_ble_eq_true rfl | (rw [List.length_append]; omega)); intro pL H' sc np ow; (try dsimp only [List.cons_append, List.nil_append] at ow); (try have pr1 := Bs.prs_same (Bs.prs_app pr1 pr2) sc))
  | ((with_reducible refine' Bs.c_short ?p1 ?p2 ?p3 ?p4 ?_); (case p1 => assumption); (case p2 => walk_at "oi"); (case p3 => assumption); (case p4 => omega); intro pW dW xP xQ xw zw H' wkx zx z0 z1 wk ow; walk_at "ow")
  | ((with_reducible refine' Bs.c_sums ?p1 ?p2 ?p3 ?p4 ?p5 ?p6 ?p7 ?_); (case p1 => assumption); (case p2 => walk_at "hx"); (case p3 => walk_at "hx"); (case p4 => walk_at "wk"); (case p5 => walk_at "wk"); (case p6 => walk_at "wk"); (case p7 => walk_at "wk"); intro pL xL H' ln1 pr1 ow)
  | ((with_reducible refine' Bs.c_three16 ?p1 ?p2 ?p3 ?p4 ?p5 ?p6 ?p7 ?p8 ?p9 ?q1 ?_); (case p1 => assumption); (case p2 => walk_at "hx"); (case p3 => walk_at "hx"); (case p4 => walk_at "hx"); (case p5 => walk_at "wk"); (case p6 => walk_at "wk"); (case p7 => walk_at "wk"); (case p8 => walk_at "wk"); (case p9 => walk_at "wk"); (case q1 => walk_at "wk"); intro pL yL H' sm2 ln2 pr2 ow; have pr1 := Bs.prs_same pr1 sm2)
  | ((with_reducible refine' Bs.c_moved ?p1 ?p2 ?p3 ?p4 ?p5 ?p6 ?p7 ?p8 ?p9 ?q1 ?q2 ?_); (case p1 => assumption); (case p2 => walk_at "hx"); (case p3 => walk_at "hx"); (case p4 => walk_at "wk"); (case p5 => walk_at "wk"); (case p6 => walk_at "wk"); (case p7 => walk_at "wk"); (case p8 => omega); (case p9 => omega); (case q1 => omega); (case q2 => omega); intro pL zL H' sm3 ln3 pr2 ow; have pr1 := Bs.prs_same pr1 sm3)
  | ((with_reducible refine' Bs.c_lowr ?p1 ?p2 ?p3 ?p4 ?p5 ?p6 ?p7 ?p8 ?p9 ?_); (case p1 => assumption); (case p2 => walk_at "hx"); (case p3 => walk_at "hx"); (case p4 => walk_at "wk"); (case p5 => walk_at "wk"); (case p6 => walk_at "wk"); (case p7 => walk_at "wk"); (case p8 => omega); (case p9 => omega); intro H' ow)
  | ((with_reducible refine' Bs.o_WC ?p1 ?p2 ?p3 ?_); (case p1 => assumption); (case p2 => exact Bs.Wk.bd (by with_reducible assumption)); (case p3 => omega); intro pW dW H' np ow)
  | ((with_reducible refine' Bs.c_addS ?p1 ?p2 ?p3 ?p4 ?p5 ?p6 ?p7 ?_); (case p1 => assumption); (case p2 => walk_at "hx"); (case p3 => walk_at "tn"); (case p4 => walk_at "wk"); (case p5 => walk_at "wk"); (case p6 => omega); (case p7 => omega); intro xP xQ pW dW H' np ow wkx hl zz; (try have zx := zz (by with_reducible assumption) (by with_reducible assumption)))
  | ((with_reducible refine' Bs.c_subS ?p1 ?p2 ?p3 ?p4 ?p5 ?p6 ?p7 ?_); (case p1 => assumption); (case p2 => walk_at "hx"); (case p3 => walk_at "tn"); (case p4 => walk_at "wk"); (case p5 => walk_at "wk"); (case p6 => omega); (case p7 => omega); intro xP xQ pW dW H' np ow wkx hl zz; (try have zx := zz (by with_reducible assumption) (by with_reducible assumption)))
  | ((with_reducible refine' Bs.c_mulS ?p1 ?p2 ?p3 ?p4 ?p5 ?p6 ?p7 ?_); (case p1 => assumption); (case p2 => walk_at "hx"); (case p3 => walk_at "tn"); (case p4 => walk_at "wk"); (case p5 => walk_at "wk"); (case p6 => omega); (case p7 => omega); intro xP xQ pW dW H' np ow wkx hl)
  | ((with_reducible refine' Bs.c_invS ?p1 ?p2 ?p4 ?p6 ?_); (case p1 => assumption); (case p2 => walk_at "hx"); (case p4 => walk_at "wk"); (case p6 => omega); intro xP xQ pW dW H' np ow wkx hl zz; (try have zx := zz (by with_reducible assumption)))
  | ((with_reducible refine' Bs.c_shlS ?p1 ?p2 ?p4 ?p6 ?p7 ?p8 ?_); (case p1 => assumption); (case p2 => walk_at "hx"); (case p4 => walk_at "wk"); (case p6 => omega); (case p7 => omega); (case p8 => omega); intro xP xQ pW dW H' np ow wkx hl zz; (try have zx := zz (by with_reducible assumption)))
  | ((with_reducible refine' Bs.c_shrS ?p1 ?p2 ?p4 ?p6 ?p7 ?p8 ?_); (case p1 => assumption); (case p2 => walk_at "hx"); (case p4 => walk_at "wk"); (case p6 => omega); (case p7 => omega); (case p8 => omega); intro xP xQ pW dW H' np ow wkx hl zz; (try have zx := zz (by with_reducible assumption)))
  | ((with_reducible refine' Bs.own_mixS ?q0 ?q9 ?p1 ?p2 ?p3 ?p4 ?p5 ?p6 ?q1 ?q2 ?p7 ?p8 ?_); (case q0 => first | exact Bs.bo_and | exact Bs.bo_or | exact Bs.bo_xor); (case q9 => first | exact Bs.bf_and | exact Bs.bf_or | exact Bs.bf_xor); (case p1 => assumption); (case p2 => walk_at "tn"); (case p3 => walk_at "tn"); (case p4 => first | assumption | exact .inl ⟨_, rfl⟩ | exact .inr ⟨_, rfl⟩); (case p5 => walk_at "wk"); (case p6 => walk_at "wk"); (case q1 => with_reducible assumption); (case q2 => with_reducible assumption); (case p7 => omega); (case p8 => omega); intro xP xQ pW dW H' np ow wkx hl zx)
  | ((with_reducible refine' Bs.c_lowbS ?p1 ?p2 ?p3 ?p4 ?p5 ?p6 ?_); (case p1 => assumption); (case p2 => walk_at "hx"); (case p3 => walk_at "wk"); (case p4 => omega); (case p5 => omega); (case p6 => omega); intro H' ow)
  | ((with_reducible refine' Bs.c_countS ?p1 ?p2 ?p3 ?p4 ?p5 ?p6 ?_); (case p1 => assumption); (case p2 => walk_at "hx"); (case p3 => walk_at "wk"); (case p4 => walk_at "wk"); (case p5 => omega); (case p6 => first | assumption | omega); intro H' ow)
  | ((with_reducible refine' Bs.c_nthS ?p1 ?p2 ?p3 ?p4 ?p5 ?p6 ?_); (case p1 => assumption); (case p2 => walk_at "hx"); (case p3 => walk_at "wk"); (case p4 => walk_at "wk"); (case p5 => omega); (case p6 => omega); intro vN H' hv ow)
  | ((with_reducible refine' Bs.c_itemS ?p1 ?p2 ?p3 ?p4 ?p5 ?p6 ?_); (case p1 => assumption); (case p2 => walk_at "hx"); (case p3 => walk_at "wk"); (case p4 => walk_at "wk"); (case p5 => omega); (case p6 => omega); intro H' ow)
  | ((with_reducible refine' Bs.c_fuN ?p1 ?p2 ?p3 ?p4 ?p5 ?p6 ?p7 ?_); (case p1 => assumption); (case p2 => walk_at "hx"); (case p3 => walk_at "hx"); (case p4 => assumption); (case p5 => assumption); (case p6 => assumption); (case p7 => assumption); intro H' ow)
  | ((with_reducible refine' Bs.c_fuK ?p1 ?p2 ?p3 ?p4 ?p5 ?p6 ?p7 ?_); (case p1 => assumption); (case p2 => walk_at "hx"); (case p3 => walk_at "hx"); (case p4 => assumption); (case p5 => assumption); (case p6 => assumption); (case p7 => assumption); intro H' ow))
section
variable {P : Program} {w : World} {K : PySem.W.Frag} {mg : Str → Option Value} {base : Heap} {C aInvalidWord aInvalidShift aInvalidWidth aInvalidIndex aInvalidPlace aNotOdd am_getitem f : Addr} {fd : FuncData}
theorem ok__law_short (F : FnP K "_law_short" "_law_short" s__law_short f fd) (B : Bi mg) (c__law_take : Fo P w K mg base CX0 1 "_law_take" ["_law_well_here", "_law_many"] (sp_take)) (c_Word : WordC P w K mg base C aInvalidWord) : FnOk P w K mg base CX0 6 f fd ["_law_well_here"] (sp_short C) := by
  refine F.ok sc__law_short (fun vs H Q E h => by walk_at "len") (fun cdv A outer s H vs Q E hr h => ?_)
  have nd := sc__law_short.nd
  obtain ⟨a, x, y, z, rfl, ha, wk, hz, q⟩ := h
  refine ⟨_, PSs.nox (pss_cons (ps_set (i := 1) nd rfl (Or.inl rfl) (pe_ix ix_list (pe_lst (pa_cons pe_int (pa_cons pe_int (pa_cons pe_int (pa_cons pe_int (pa_cons pe_int (pa_cons pe_int (pa_cons pe_int (pa_cons pe_int pa_nil))))))))) (pe_fo c__law_take hr (by decide) (pa_cons (pv 0) (pa_cons pe_int pa_nil))) (fun _ _ => rfl)))
      (pss_cons (ps_set (i := 2) nd rfl (Or.inl rfl) (pe_ix ix_list (pe_lst (pa_cons (pe_op op_sub (pe_fo c__law_take hr (by decide) (pa_cons (pv 0) (pa_cons pe_int pa_nil))) pe_int) (pa_cons (pe_op op_sub (pe_fo c__law_take hr (by decide) (pa_cons (pv 0) (pa_cons pe_int pa_nil))) pe_int) pa_nil))) (pe_fo c__law_take hr (by decide) (pa_cons (pv 0) (pa_cons pe_int pa_nil))) (fun _ _ => rfl)))
      (pss_one (ps_ret (pe_W2 c_Word hr (by decide) (fun _ => psL0) (pa_cons (pv 2) (pa_cons (pv 1) pa_nil))))))), ?_⟩
  walk_at "s0"
  have ow := Own.take1 ha
  walk_at "go"
  obtain ⟨b, hb, ob, b0, b1, bz⟩ := at8 v0 v1
  refine o_ixL ow (by walk_at "oi") hb ?_
  walk_at "go"
  obtain ⟨u, hu, hu2⟩ := at2 v0 v1
  refine o_ixL ow (by walk_at "oi") hu ?_
  obtain ⟨t, rfl, ht⟩ : ∃ t : Int, u = .int t ∧ t.natAbs ≤ 1000 := by
    rcases hu2 with rfl | rfl
    · exact ⟨_, rfl, by omega⟩
    · exact ⟨_, rfl, by omega⟩
  have wt : Wk 12 t b := ⟨⟨ok_odd ob, by omega, by omega⟩, ob⟩
  have zt : Z60 t b := z_bot bz
  walk_at "go"
  exact q pW _ t b _ _ _ wt zt (by omega) (by omega) (own_new ow 0 3 rfl rfl (by decide)) (ow.get 0 rfl) (ow.mut_of g3)
theorem ok__law_low_right (F : FnP K "_law_low_right" "_law_low_right" s__law_low_right f fd) (B : Bi mg) (c_low_bits : Fo P w K mg base (L2.CX P w) 4 "low_bits" ["word", "width"] (sp_lowb C aInvalidWidth)) (o_Add : SA P w K mg base C) (o_Sub : SS P w K mg base C) (o_Mult : SM P w K mg base C) (o_BitAnd : SMx P w K mg base C "and" Builtin.bitAnd) (o_BitOr : SMx P w K mg base C "or" Builtin.bitOr) (o_BitXor : SMx P w K mg base C "xor" Builtin.bitXor) (o_inv : MeC P w K mg base CX0 C "__invert__" 6 ["self"] (sp_un C (fun t b => -t - b)) ao_inv) (c_count_ones : Fo P w K mg base (L2.CX P w) 6 "count_ones" ["word", "width"] (sp_count C aInvalidWidth)) (c_nth_one : Fo P w K mg base (L2.CX P w) 6 "nth_one" ["word", "index"] (sp_nth C aInvalidIndex)) (c_first_unlike : Fo P w K mg base (L2.CX P w) 4 "first_unlike" ["word", "other"] (sp_fu C)) (m_getitem : MeC P w K mg base (L2.CX P w) C "__getitem__" 4 ["self", "at"] (sp_getitem C aInvalidPlace) am_getitem) (hfG : PySem.W.fnIn K am_getitem = true) : FnG P w K mg base CX0 9 f fd ["_law_a", "_law_b", "_law_width"] (sp_lowr C) := by
  refine FunD_okG F sc__law_low_right (fun vs H Q E h => by walk_at "len") (fun cdv A outer s H vs Q E gd hr h => ?_)
  have nd := sc__law_low_right.nd
  obtain ⟨p1, p2, dx, dy, a, b, c, d, n, rfl, e1, e2, w1, w2, z1, z2, n0, n1, q⟩ := h
  refine ⟨_, PSs.nox (pss_cons (ps_par3 (i := 3) (j := 4) (l := 5) rfl nd rfl rfl rfl (by decide) (by decide) (by decide) rfl rfl rfl (pa_cons (pe_op op_shlW pe_int (pv 2)) (pa_cons (pe_fx c_low_bits hr (by decide) (fun _ => psL0) (pa_cons (pv 0) (pa_cons (pv 2) pa_nil))) (pa_cons (pe_fx c_low_bits hr (by decide) (fun _ => psL0) (pa_cons (pv 1) (pa_cons (pv 2) pa_nil))) pa_nil))) rfl)
      (pss_cons (ps_set (i := 6) nd rfl (Or.inl rfl) (pe_lst (pa_cons (pe_fx c_low_bits hr (by decide) (fun _ => psL0) (pa_cons (pe_own o_Add hr (by decide) (fun _ => psE0) (pv 0) (pv 1)) (pa_cons (pv 2) pa_nil))) (pa_cons (pe_fx c_low_bits hr (by decide) (fun _ => psL0) (pa_cons (pe_own o_Sub hr (by decide) (fun _ => psE0) (pv 0) (pv 1)) (pa_cons (pv 2) pa_nil))) (pa_cons (pe_fx c_low_bits hr (by decide) (fun _ => psL0) (pa_cons (pe_own o_Mult hr (by decide) (fun _ => psE0) (pv 0) (pv 1)) (pa_cons (pv 2) pa_nil))) (pa_cons (pe_fx c_low_bits hr (by decide) (fun _ => psL0) (pa_cons (pe_own o_BitAnd hr (by decide) (fun _ => psE0) (pv 0) (pv 1)) (pa_cons (pv 2) pa_nil))) pa_nil))))))
      (pss_cons (ps_set (i := 7) nd rfl (Or.inl rfl) (pe_lst (pa_cons (pe_op op_mod (pe_callTy cb_int1 rfl B.int (by decide +kernel) (pa_cons (pe_op op_add (pv 4) (pv 5)) pa_nil)) (pv 3)) (pa_cons (pe_op op_mod (pe_callTy cb_int1 rfl B.int (by decide +kernel) (pa_cons (pe_op op_sub (pv 4) (pv 5)) pa_nil)) (pv 3)) (pa_cons (pe_op op_mod (pe_callTy cb_int1 rfl B.int (by decide +kernel) (pa_cons (pe_op op_mulO (pv 4) (pv 5)) pa_nil)) (pv 3)) (pa_cons (pe_op op_and (pv 4) (pv 5)) pa_nil))))))
      (C8.pss_cut (ps_set (i := 6) nd rfl (Or.inl rfl) (pe_op op_cat (pv 6) (pe_lst (pa_cons (pe_fx c_low_bits hr (by decide) (fun _ => psL0) (pa_cons (pe_own o_BitOr hr (by decide) (fun _ => psE0) (pv 0) (pv 1)) (pa_cons (pv 2) pa_nil))) (pa_cons (pe_fx c_low_bits hr (by decide) (fun _ => psL0) (pa_cons (pe_own o_BitXor hr (by decide) (fun _ => psE0) (pv 0) (pv 1)) (pa_cons (pv 2) pa_nil))) (pa_cons (pe_fx c_low_bits hr (by decide) (fun _ => psL0) (pa_cons (pe_un (un_inv_own o_inv hr (by decide) (fun _ => psE0)) (pv 0)) (pa_cons (pv 2) pa_nil))) pa_nil))))))
      (C8.pss_cut (ps_if (pt_cmpR op_ne (pe_callB (call_reprD gd hr) rfl B.repr (by decide +kernel) (pa_cons (pv 6) pa_nil)) (pe_callB (call_reprD gd hr) rfl B.repr (by decide +kernel) (pa_cons (pe_op op_cat (pv 7) (pe_lst (pa_cons (pe_op op_or (pv 4) (pv 5)) (pa_cons (pe_op op_xor (pv 4) (pv 5)) (pa_cons (pe_op op_sub (pe_op op_sub (pv 3) pe_int) (pv 4)) pa_nil))))) pa_nil)) (nomark _)) (pss_one (ps_ret pe_bl)) pss_nil)
      (C8.pss_cut (ps_set (i := 8) nd rfl (Or.inl rfl) (pe_op op_add (pe_fx c_count_ones hr (by decide) (fun _ => psL0) (pa_cons (pe_own o_BitOr hr (by decide) (fun _ => psE0) (pv 0) (pv 1)) (pa_cons (pv 2) pa_nil))) (pe_fx c_count_ones hr (by decide) (fun _ => psL0) (pa_cons (pe_own o_BitAnd hr (by decide) (fun _ => psE0) (pv 0) (pv 1)) (pa_cons (pv 2) pa_nil)))))
      (C8.pss_cut (ps_if (PW.pt (pw_or (pt_cmpR op_ne (pv 8) (pe_op op_add (pe_fx c_count_ones hr (by decide) (fun _ => psL0) (pa_cons (pv 0) (pa_cons (pv 2) pa_nil))) (pe_fx c_count_ones hr (by decide) (fun _ => psL0) (pa_cons (pv 1) (pa_cons (pv 2) pa_nil)))) (nomark _)) (pw_or1 (pt_cmpR op_ne (pe_op op_add (pe_fx c_count_ones hr (by decide) (fun _ => psL0) (pa_cons (pe_un (un_inv_own o_inv hr (by decide) (fun _ => psE0)) (pv 0)) (pa_cons (pv 2) pa_nil))) (pe_fx c_count_ones hr (by decide) (fun _ => psL0) (pa_cons (pv 0) (pa_cons (pv 2) pa_nil)))) (pv 2) (nomark _))))) (pss_one (ps_ret pe_bl)) pss_nil)
      (C8.pss_cut (ps_set (i := 9) nd rfl (Or.inl rfl) (pe_fx c_nth_one hr (by decide) (fun _ => psL0) (pa_cons (pe_own o_BitXor hr (by decide) (fun _ => psE0) (pv 0) (pv 1)) (pa_cons pe_int pa_nil))))
      (pss_cons (ps_if (pt_cmpR op_ne (pe_callB (call_reprD gd hr) rfl B.repr (by decide +kernel) (pa_cons (pe_fx c_first_unlike hr (by decide) (fun _ => psL0) (pa_cons (pv 0) (pa_cons (pv 1) pa_nil))) pa_nil)) (pe_callB (call_reprD gd hr) rfl B.repr (by decide +kernel) (pa_cons (pv 9) pa_nil)) (nomark _)) (pss_one (ps_ret pe_bl)) pss_nil)
      (pss_one (ps_ret (pe_or (pe_cmpR op_isN (pv 9) pe_non (nomark _)) (pe_one (pe_cmpR op_ne (pe_ixOwn m_getitem hfG hr (by decide) (fun _ => psL0) (pv 0) (pv 9)) (pe_ixOwn m_getitem hfG hr (by decide) (fun _ => psL0) (pv 1) (pv 9)) (nomark _))))))))))))))), ?_⟩
  walk_at "s0"
  have ow := Own.start H
  have pp := two_pow_pos n.toNat
  have lx := lt_low b a n.toNat
  have ly := lt_low d c n.toNat
  have c1 : IntMulOk (lowS b n.toNat a) (lowS d n.toNat c) := by
    have h1 : (2 : Nat) ^ n.toNat ≤ 2 ^ 121 := Nat.pow_le_pow_right (by decide) (by omega)
    have h2 : ((2 ^ n.toNat : Nat) : Int) = 2 ^ n.toNat := by simp
    have h3 := lx.1
    have h4 := lx.2
    have h5 := ly.1
    have h6 := ly.2
    exact mok_w 121 121 (by omega) (by omega) (by decide)
  walk_at "go"
  refine r_cut (fun σ' H' => ∃ T U : Addr, σ' = [some (.ref p1), some (.ref p2), some (.int n), some (.int (1 * 2 ^ n.toNat)), some (.int (lowS b n.toNat a)), some (.int (lowS d n.toNat c)), some (.ref T), some (.ref U), none, none] ∧ Same H H' ∧
      H' T = some (.lst [.int ((lowS b n.toNat a + lowS d n.toNat c) % (1 * 2 ^ n.toNat)), .int ((lowS b n.toNat a - lowS d n.toNat c) % (1 * 2 ^ n.toNat)), .int ((lowS b n.toNat a * lowS d n.toNat c) % (1 * 2 ^ n.toNat)), .int (Builtin.bitAnd (lowS b n.toNat a) (lowS d n.toNat c)), .int (Builtin.bitOr (lowS b n.toNat a) (lowS d n.toNat c)), .int (Builtin.bitXor (lowS b n.toNat a) (lowS d n.toNat c)), .int (1 * 2 ^ n.toNat - 1 - lowS b n.toNat a)]) ∧
      H' U = some (.lst [.int ((lowS b n.toNat a + lowS d n.toNat c) % (1 * 2 ^ n.toNat)), .int ((lowS b n.toNat a - lowS d n.toNat c) % (1 * 2 ^ n.toNat)), .int ((lowS b n.toNat a * lowS d n.toNat c) % (1 * 2 ^ n.toNat)), .int (Builtin.bitAnd (lowS b n.toNat a) (lowS d n.toNat c))])) ?_ ?_
  · walk_at "go"
    exact ⟨ow.toSame_of, (ow.get _ (by walk_at "oi")).trans (by simp only [*, Int.one_mul]), ow.get _ (by walk_at "oi")⟩
  rintro σ' H1 ⟨T, U, rfl, s, eT, eU⟩
  have e1 := s _ _ e1
  have e2 := s _ _ e2
  clear ow
  have ow := Own.start H1
  refine r_cut (fun σ' H' => σ' = [some (.ref p1), some (.ref p2), some (.int n), some (.int (1 * 2 ^ n.toNat)), some (.int (lowS b n.toNat a)), some (.int (lowS d n.toNat c)), some (.ref T), some (.ref U), none, none] ∧ Same H1 H') ?_ ?_
  · walk_at "go"
    exact ⟨rfl, ow.toSame_of⟩
  rintro σ' H2 ⟨rfl, s2⟩
  have e1 := s2 _ _ e1
  have e2 := s2 _ _ e2
  clear ow eT eU
  have ow := Own.start H2
  refine r_cut (fun σ' H' => σ' = [some (.ref p1), some (.ref p2), some (.int n), some (.int (1 * 2 ^ n.toNat)), some (.int (lowS b n.toNat a)), some (.int (lowS d n.toNat c)), some (.ref T), some (.ref U), some (.int (sB b a 0 n.toNat + sB d c 0 n.toNat)), none] ∧ Same H2 H') ?_ ?_
  · walk_at "go"
    rw [count_both (by with_reducible assumption) (by with_reducible assumption)]
    exact ⟨rfl, ow.toSame_of⟩
  rintro σ' H3 ⟨rfl, s3⟩
  have e1 := s3 _ _ e1
  have e2 := s3 _ _ e2
  clear ow
  have ow := Own.start H3
  refine r_cut (fun σ' H' => σ' = [some (.ref p1), some (.ref p2), some (.int n), some (.int (1 * 2 ^ n.toNat)), some (.int (lowS b n.toNat a)), some (.int (lowS d n.toNat c)), some (.ref T), some (.ref U), some (.int (sB b a 0 n.toNat + sB d c 0 n.toNat)), none] ∧ Same H3 H') ?_ ?_
  · walk_at "go"
    · rw [count_not (by with_reducible assumption)] at hc
      omega
    · exact ⟨rfl, ow.toSame_of⟩
  rintro σ' H4 ⟨rfl, s4⟩
  have e1 := s4 _ _ e1
  have e2 := s4 _ _ e2
  clear ow
  have ow := Own.start H4
  refine r_cut (fun σ' H' => ∃ v, σ' = [some (.ref p1), some (.ref p2), some (.int n), some (.int (1 * 2 ^ n.toNat)), some (.int (lowS b n.toNat a)), some (.int (lowS d n.toNat c)), some (.ref T), some (.ref U), some (.int (sB b a 0 n.toNat + sB d c 0 n.toNat)), some v] ∧ Same H4 H' ∧
      ((v = .non ∧ wT a b * wB c d - wT c d * wB a b = 0) ∨ ∃ P : Nat, v = .int P ∧ P < 12 + 12 + 1 ∧ First (wT a b) (wB a b) (wT c d) (wB c d) P ∧ ¬ hvs b P a % 2 = hvs d P c % 2)) ?_ ?_
  · walk_at "go"
    exact ⟨ow.toSame_of, fu_cases w1 w2 (Wk.oq (by with_reducible assumption)) hl hv⟩
  rintro σ' H5 ⟨v, rfl, s5, hf⟩
  have e1 := s5 _ _ e1
  have e2 := s5 _ _ e2
  clear ow
  have ow := Own.start H5
  have sH := (((s.trans s2).trans s3).trans s4).trans s5
  have o1 := odd_nm w1.bd.ok
  have o2 := odd_nm w2.bd.ok
  have wd : (wT a b).natAbs < 2 ^ 3900 ∧ (wB a b).natAbs < 2 ^ 3900 ∧ (wT c d).natAbs < 2 ^ 3900 ∧ (wB c d).natAbs < 2 ^ 3900 := ⟨(w1.bd.w (by decide)).1, (w1.bd.w (by decide)).2, (w2.bd.w (by decide)).1, (w2.bd.w (by decide)).2⟩
  rcases hf with ⟨rfl, g0⟩ | ⟨P, rfl, lP, f0, un⟩
  · walk_at "go"
    exact q _ (sH.trans ow.toSame_of)
  · walk_at "go"
    rw [Int.toNat_natCast, decide_eq_false (by simpa using un)]
    exact q _ (sH.trans ow.toSame_of)
theorem ok__law_fits (F : FnP K "_law_fits" "_law_fits" s__law_fits f fd) (B : Bi mg) (c__law_short : Fo P w K mg base CX0 6 "_law_short" ["_law_well_here"] (sp_short C)) (c__law_take : Fo P w K mg base CX0 1 "_law_take" ["_law_well_here", "_law_many"] (sp_take)) (c__law_sums : Fo P w K mg base CX0 9 "_law_sums" ["_law_a", "_law_b"] (sp_sums C)) (c__law_three : Fo P w K mg base CX0 9 "_law_three" ["_law_a", "_law_b", "_law_c"] (sp_three16 C)) (c__law_moved : Fo P w K mg base CX0 9 "_law_moved" ["_law_a", "_law_b", "_law_up", "_law_odd"] (sp_moved C)) (e_Word : EqO P w K mg base C 2 (sp_eqW C)) (c__law_low_right : FoG P w K mg base CX0 9 "_law_low_right" ["_law_a", "_law_b", "_law_width"] (sp_lowr C)) (o_Sub : SS P w K mg base C) (o_LShift : SL P w K mg base C aInvalidShift) (o_RShift : SR P w K mg base C aInvalidShift) (p_top : PrC P w K mg base CX0 C "top" 1 (getSp C "kept_top")) (p_bottom : PrC P w K mg base CX0 C "bottom" 1 (getSp C "kept_bottom")) (c_low_bits : Fo P w K mg base (L2.CX P w) 4 "low_bits" ["word", "width"] (sp_lowb C aInvalidWidth)) (c_nth_one : Fo P w K mg base (L2.CX P w) 6 "nth_one" ["word", "index"] (sp_nth C aInvalidIndex)) (c_count_ones : Fo P w K mg base (L2.CX P w) 6 "count_ones" ["word", "width"] (sp_count C aInvalidWidth)) (m_getitem : MeC P w K mg base (L2.CX P w) C "__getitem__" 4 ["self", "at"] (sp_getitem C aInvalidPlace) am_getitem) (hfG : PySem.W.fnIn K am_getitem = true) : FnG P w K mg base CX0 20 f fd ["_law_well_here"] (sp_fits) := by
  refine FnG.mono (j := 12) ?_ (by decide)
  refine FunD_okG F sc__law_fits (fun vs H Q E h => by walk_at "len") (fun cdv A outer s H vs Q E gd hr h => ?_)
  have nd := sc__law_fits.nd
  obtain ⟨a, x, y, z, rfl, ha, wk, hz, q⟩ := h
  refine ⟨_, PSs.nox (pss_cons (ps_par3 (i := 1) (j := 2) (l := 3) rfl nd rfl rfl rfl (by decide) (by decide) (by decide) rfl rfl rfl (pa_cons (pe_fo c__law_short hr (by decide) (pa_cons (pv 0) pa_nil)) (pa_cons (pe_fo c__law_short hr (by decide) (pa_cons (pv 0) pa_nil)) (pa_cons (pe_fo c__law_short hr (by decide) (pa_cons (pv 0) pa_nil)) pa_nil))) rfl)
      (C8.pss_cut (ps_par (i := 4) (j := 5) rfl nd rfl rfl (by decide) rfl rfl (pa_cons (pe_fo c__law_take hr (by decide) (pa_cons (pv 0) (pa_cons pe_int pa_nil))) (pa_cons (pe_op op_add (pe_op op_mulO pe_int (pe_fo c__law_take hr (by decide) (pa_cons (pv 0) (pa_cons pe_int pa_nil)))) pe_int) pa_nil)) rfl)
      (C8.pss_cut (ps_for PassesOwn.never rfl (pi_list (pe_op op_cat (pe_op op_cat (pe_fo c__law_sums hr (by decide) (pa_cons (pv 1) (pa_cons (pv 2) pa_nil))) (pe_fo c__law_three hr (by decide) (pa_cons (pv 1) (pa_cons (pv 2) (pa_cons (pv 3) pa_nil))))) (pe_fo c__law_moved hr (by decide) (pa_cons (pv 1) (pa_cons (pv 2) (pa_cons (pv 4) (pa_cons (pv 5) pa_nil))))))) (pg_tup rfl (pgs_cons (pg_name (i := 6) nd rfl (.inl rfl)) (pgs_cons (pg_name (i := 7) nd rfl (.inl rfl)) pgs_nil)))
      (pss_one (ps_if (PW.pt (pw_or (pt_not (pt_cmpR (op_eqO e_Word hr (by decide)) (pv 6) (pv 7) (nomark _))) (pw_or1 (pt_cmpR (op_neO e_Word hr (by decide)) (pv 6) (pv 7) (nomark _))))) (pss_one (ps_ret pe_bl)) pss_nil)))
      (pss_cons (ps_if (pt_not (pt_val (pe_foG c__law_low_right gd hr (by decide) (pa_cons (pv 1) (pa_cons (pv 2) (pa_cons (pe_fo c__law_take hr (by decide) (pa_cons (pv 0) (pa_cons pe_int pa_nil))) pa_nil)))))) (pss_one (ps_ret pe_bl)) pss_nil)
      (C8.pss_cut (ps_set (i := 8) nd rfl (Or.inl rfl) (pe_own o_Sub hr (by decide) (fun _ => psE0) (pv 1) (pe_ownL o_LShift hr (by decide) (fun _ => psL0) (pe_ownL o_RShift hr (by decide) (fun _ => psL0) (pv 1) (pv 4)) (pv 4))))
      (pss_cons (ps_if (pt_cmpR op_ne (pe_callB (call_reprD gd hr) rfl B.repr (by decide +kernel) (pa_cons (pe_tup (pa_cons (pe_wp p_top hr (by decide) (pv 8)) (pa_cons (pe_wp p_bottom hr (by decide) (pv 8)) pa_nil))) pa_nil)) (pe_callB (call_reprD gd hr) rfl B.repr (by decide +kernel) (pa_cons (pe_tup (pa_cons (pe_fx c_low_bits hr (by decide) (fun _ => psL0) (pa_cons (pv 1) (pa_cons (pv 4) pa_nil))) (pa_cons pe_int pa_nil))) pa_nil)) (nomark _)) (pss_one (ps_ret pe_bl)) pss_nil)
      (pss_cons (ps_set (i := 9) nd rfl (Or.inl rfl) (pe_fo c__law_take hr (by decide) (pa_cons (pv 0) (pa_cons pe_int pa_nil))))
      (pss_cons (ps_set (i := 10) nd rfl (Or.inl rfl) (pe_fx c_nth_one hr (by decide) (fun _ => psL0) (pa_cons (pv 1) (pa_cons (pv 9) pa_nil))))
      (pss_cons (ps_if (pt_cmpR op_isN (pv 10) pe_non (nomark _)) (pss_one (ps_ret (pe_cmpR op_le (pe_fx c_count_ones hr (by decide) (fun _ => psL0) (pa_cons (pv 1) (pa_cons (pe_op op_powW pe_int pe_int) pa_nil))) (pv 9) (nomark _)))) pss_nil)
      (pss_one (ps_ret (pe_and (pe_cmpR op_eq (pe_ixOwn m_getitem hfG hr (by decide) (fun _ => psL0) (pv 1) (pv 10)) pe_int (nomark _)) (pe_and (pe_cmpR op_eq (pe_fx c_count_ones hr (by decide) (fun _ => psL0) (pa_cons (pv 1) (pa_cons (pv 10) pa_nil))) (pv 9) (nomark _)) (pe_one (pe_cmpR op_eq (pe_fx c_count_ones hr (by decide) (fun _ => psL0) (pa_cons (pv 1) (pa_cons (pe_op op_add (pv 10) pe_int) pa_nil))) (pe_op op_add (pv 9) pe_int) (nomark _)))))))))))))))), ?_⟩
  walk_at "s0"
  have ow := Own.take1 ha
  walk_at "go"
  refine r_cut (fun σ' H' => ∃ (F' : Hp) (W1 W2 W3 d1 d2 d3 : Addr) (a1 b1 a2 b2 a3 b3 up od x' z' : Int), σ' = [some (.ref a), some (.ref W1), some (.ref W2), some (.ref W3), some (.int up), some (.int od), none, none, none, none, none] ∧ Wk 12 a1 b1 ∧ Wk 12 a2 b2 ∧ Wk 12 a3 b3 ∧ Z60 a1 b1 ∧ Z60 a2 b2 ∧ Z60 a3 b3 ∧ 0 ≤ up ∧ up ≤ 60 ∧ od % 2 = 1 ∧ od.natAbs ≤ 100 ∧ WOk y z' ∧ z ≤ z' ∧ z' ≤ z + 40 ∧ Own F' H' [(a, wl x' y z')] ∧
      Same (fun b => if b = a then none else H b) F' ∧ F' W1 = some (cw C d1 a1 b1) ∧ F' W2 = some (cw C d2 a2 b2) ∧ F' W3 = some (cw C d3 a3 b3)) ?_ ?_
  · walk_at "go"
    obtain ⟨F', o2, s2, hg⟩ := Own.frzs [_, _, _] ow
    exact ⟨F', _, _, _, _, _, _, _, _, _, _, _, _, _, _, _, _, rfl, by with_reducible assumption, by with_reducible assumption, by with_reducible assumption, by with_reducible assumption, by with_reducible assumption, by with_reducible assumption, by omega, by omega, by omega, by omega, by assumption, by omega, by omega, o2, s2, hg 2 _ _ rfl, hg 1 _ _ rfl, hg 0 _ _ rfl⟩
  clear ow wk
  rintro σ' H1 ⟨F1, W1, W2, W3, d1, d2, d3, a1, b1, a2, b2, a3, b3, up, od, x', z', rfl, w1, w2, w3, y1, y2, y3, u0, u1, oo, o1, wk, z2, z3, ow, sF, e1, e2, e3⟩
  refine r_cut (fun σ' H' => ∃ (F2 : Hp) (u6 u7 : Option V), σ' = [some (.ref a), some (.ref W1), some (.ref W2), some (.ref W3), some (.int up), some (.int od), u6, u7, none, none, none] ∧ Own F2 H' [(a, wl x' y z')] ∧ Same F1 F2) ?_ ?_
  · walk_at "go"
    have ow0 := ow
    have sq : SqL K H' pL _ := SqL.of (ow0.get 0 rfl)
    refine for_list (fun _ σ' H'' => ∃ u6 u7 : Option V, σ' = [some (.ref a), some (.ref W1), some (.ref W2), some (.ref W3), some (.int up), some (.int od), u6, u7, none, none, none] ∧ Same H' H'') ⟨_, _, rfl, Same.refl _⟩ (fun i σ' H'' hi ⟨u6, u7, e, s⟩ => s.seq sq) ?_ ?_
    · rintro i x σ' H'' hx ⟨u6, u7, rfl, s⟩
      obtain ⟨p, V1, V2, dd1, dd2, P, Q, P', Q', rfl, e0, f1, f2, f3⟩ := pr1 _ (List.mem_of_getElem? hx)
      have sq2 : SqT K H'' p [.ref V1, .ref V2] := SqT.of (s _ _ e0)
      have f1 := s _ _ f1
      have f2 := s _ _ f2
      have ow := Own.start H''
      walk_at "go"
      exact s
    · rintro σ' H'' ⟨u6, u7, rfl, s⟩
      obtain ⟨F2, o2, s2, hg⟩ := Own.frzs [_, _, _, _, _] (ow0.same s)
      exact ⟨F2, _, _, rfl, o2, s2⟩
  clear ow
  rintro σ' H2 ⟨F2, u6, u7, rfl, ow, s2⟩
  have e1 := s2 _ _ e1
  have e2 := s2 _ _ e2
  have lL := lt_low b1 a1 up.toNat
  walk_at "go"
  refine r_cut (fun σ' H' => ∃ (F3 : Hp) (W dW : Addr) (x' z' : Int), σ' = [some (.ref a), some (.ref W1), some (.ref W2), some (.ref W3), some (.int up), some (.int od), u6, u7, some (.ref W), none, none] ∧ WOk y z' ∧ z ≤ z' ∧ z' ≤ z + 60 ∧ Own F3 H' [(a, wl x' y z')] ∧ Same F2 F3 ∧ F3 W = some (.ins C dW (wfl (lowS b1 up.toNat a1) 1))) ?_ ?_
  · walk_at "go"
    obtain ⟨F3, o2, s3, hg⟩ := Own.frzs [_, _, _] ow
    have lb : (lowS b1 up.toNat a1).natAbs < 2 ^ 61 := by
      have h1 : (2 : Nat) ^ up.toNat ≤ 2 ^ 61 := Nat.pow_le_pow_right (by decide) (by omega)
      have h2 : ((2 ^ up.toNat : Nat) : Int) = 2 ^ up.toNat := by simp
      have h3 := lL.1
      have h4 := lL.2
      omega
    have eq := eq_low (by with_reducible assumption : Wk _ xP xQ) (wk_int 61 lb (by decide)) (fun j => by
      simp only [*]
      rw [low_int]
      exact m2a _ _ _ _)
    have hW := hg 0 _ _ rfl
    unfold cw at hW
    rw [eq.1, eq.2, wT_one, wB_one] at hW
    exact ⟨F3, _, _, _, _, rfl, by assumption, by omega, by omega, o2, s3, hW⟩
  clear ow wk
  rintro σ' H3 ⟨F3, W, dW, x2, z4, rfl, wk, z5, z6, ow, s3, eW⟩
  have e1 := s3 _ _ e1
  have eW' := ow.gets eW
  have p30 : 0 ≤ (10 : Int) ^ Int.toNat 30 := by decide
  walk_at "go"
  · rcases hv with ⟨P, rfl, o, cn⟩ | ⟨rfl, al⟩
    · cases hc
    · rw [decide_eq_true (al _)]
      exact q _ _ _ (by omega) (by omega) ((ow.weak ((sF.trans s2).trans s3)).mut_of g2)
  · rcases hv with ⟨P, rfl, o, cn⟩ | ⟨rfl, al⟩
    · have o : hvs b1 (Int.toNat (P : Int)) a1 % 2 = 1 := by rw [Int.toNat_natCast]; exact o
      have c2 : sB b1 a1 0 (Int.toNat ((P : Int) + 1)) = vw + 1 := by
        rw [show Int.toNat ((P : Int) + 1) = P + 1 by omega, sB_app, Nat.zero_add, sB_one, cn]
        rw [Int.toNat_natCast] at o
        omega
      have cn : sB b1 a1 0 (Int.toNat (P : Int)) = vw := by rw [Int.toNat_natCast]; exact cn
      walk_at "go"
      rw [decide_eq_true (by rw [c2])]
      exact q _ _ _ (by omega) (by omega) ((ow.weak ((sF.trans s2).trans s3)).mut_of g2)
    · exact absurd rfl hc
end

/-! the class Word by the head -/
theorem gFlip_rel : ∀ {vs zs : List V} {us ws : List Value}, Vals vs us → Vals zs ws → Vals (gFlip vs zs) (gFlip us ws)
  | _, _, _, _, .nil, _ => .nil
  | _, _, _, _, .cons _ _, .nil => .nil
  | _, _, _, _, .cons _ _, .cons _ .nil => .nil
  | _, _, _, _, .cons a _, .cons b (.cons c _) => .cons a (.cons c (.cons b .nil))
theorem wordC_of {P : Program} {w : World} {K : PySem.W.Frag} {h base : Heap} {mg : Str → Option Value} {fd : FuncData} {I : Addr} (X : K.In h) (G : h.Ns mainGlobals mg) (g : qGlo "Word" K = true) (c : qCls "Word" K = true) (n1 : qNoat "Word" "kept_top" K = true) (n2 : qNoat "Word" "kept_bottom" K = true) (m : qMkr "Word" K = true)
    (F : FunD K "__init__" "Word.__init__" (defArgs s_Word___init__) (defBody s_Word___init__) (defScope s_Word___init__) [.int 1] [] (He.ma K (He.ga K "Word") "__init__") fd)
    (ok : FnOk P w K mg base (L2.CX P w) 4 (He.ma K (He.ga K "Word") "__init__") fd ["self", "top", "bottom"] (sp_Word_init (He.ga K "Word") I)) : WordC P w K mg base (He.ga K "Word") I := by
  refine ⟨He.cls_ok c, He.noat_ok n1, He.noat_ok n2, He.glo_ok X G g, _, fd, He.mkr_ok m, ok, ?_, ?_, ?_, ?_⟩
  · exact cb_dfl F 3 [] (fun vs _ _ => vs) (by simp) (fun r _ _ => r) fun T kV doc pm an cdv ct us its ws l1 l2 l3 => match us, its, ws, l1, l2, l3 with | [_, _, _], [_], [], _, _, _ => ⟨_, rfl, rfl⟩
  · exact cb_dfl F 2 [] gPo1 (by simp) (fun r d _ => vals_app r d) fun T kV doc pm an cdv ct us its ws l1 l2 l3 => match us, its, ws, l1, l2, l3 with | [_, _], [_], [], _, _, _ => ⟨_, rfl, rfl⟩
  · exact cb_dfl F 1 ["bottom", "top"] (fun vs _ zs => gFlip vs zs) (by simp) (fun r _ z => gFlip_rel r z) fun T kV doc pm an cdv ct us its ws l1 l2 l3 => match us, its, ws, l1, l2, l3 with | [_], [_], [_, _], _, _, _ => ⟨_, rfl, rfl⟩
  · exact cb_dfl F 1 ["top"] gKw1 (by simp) (fun r d z => vals_app (vals_app r z) d) fun T kV doc pm an cdv ct us its ws l1 l2 l3 => match us, its, ws, l1, l2, l3 with | [_], [_], [_], _, _, _ => ⟨_, rfl, rfl⟩

/-! the signs by the head -/
def qTy (x : Str) : Qn := fun K => decide (PySem.W.findIn K (.ref (He.ga K x)) "__class__" = some (some (.builtin "object.__class__"))) && (decide (PySem.W.specialIn K (.builtin "object.__class__") "__get__" = some (some (.builtin "getset_descriptor.__get__"))) && (decide (PySem.W.takesIn K (.builtin "object.__class__") = some true) &&
  (decide (PySem.W.mroIn K (He.ga K x) (.type "object") = some true) && (decide (PySem.W.kitOne K (.ref (He.ga K x)) (.ref (He.ga K x)) = some true) && (decide (PySem.W.kitOne K (.type "int") (.ref (He.ga K x)) = some false) && decide (PySem.W.kitOne K (.type "int") (.type "int") = some true))))))
theorem ty_of {K : PySem.W.Frag} {x : Str} (cl : Cls K (He.ga K x)) (h : qTy x K = true) : WTy K (He.ga K x) := by
  obtain ⟨h1, h⟩ := ban h
  obtain ⟨h2, h⟩ := ban h
  obtain ⟨h3, h⟩ := ban h
  obtain ⟨h4, h⟩ := ban h
  obtain ⟨h5, h⟩ := ban h
  obtain ⟨h6, h7⟩ := ban h
  exact ⟨cl, of_decide_eq_true h1, of_decide_eq_true h2, of_decide_eq_true h3, of_decide_eq_true h4, of_decide_eq_true h5, of_decide_eq_true h6, of_decide_eq_true h7⟩
def qTyB : Qn := fun K => decide (PySem.W.kitOne K (.type "int") (.type "bool") = some false) && decide (PySem.W.kitOne K (.type "int") (.type "int") = some true)
theorem cb_non {K : PySem.W.Frag} {x qual : Str} {params : Arguments} {body : List Stmt} {scope : Scope} {f : Addr} {fd : FuncData} {ps : List Str} (F : FunD K x qual params body scope [] [] f fd) (n : Nat) (ks : List Str) (g : {α : Type} → List α → List α → List α) (hrel : ∀ {vs zs : List V} {us ws : List Value}, Vals vs us → Vals zs ws → Vals (g vs zs) (g us ws))
    (h : ∀ (kV doc pm : Value) (an : Option Addr) (cdv ct : Value) (us ws : List Value), us.length = n → ws.length = ks.length → PySem.bindArgs (PySem.W.fnOf x qual params body scope .none kV doc pm an cdv ct) ⟨us, ks.zip ws⟩ = pure (ps.zip (g us ws))) : Cb K fd ps n ks g := by
  obtain ⟨oc, od, dV, kV, doc, pm, an, cdv, ct, osl, rfl, lk, hcd, hD, hK⟩ := F.ex
  rcases hD with ⟨_, rfl⟩ | ⟨e, _⟩
  · exact ⟨g, ⟨fun s us ws X l1 l2 => .of_eq (h kV doc pm an cdv ct us ws l1 l2), fun r1 r2 => hrel r1 r2⟩⟩
  · exact absurd rfl e
def qRn (x : Str) (nm : String) : Qn := fun K => decide (PySem.W.findIn K (.ref (He.ga K x)) (dunderR nm) = some none)
theorem rn_of {K : PySem.W.Frag} {x : Str} {nm : String} (h : qRn x nm K = true) : PySem.W.findIn K (.ref (He.ga K x)) (dunderR nm) = some none := of_decide_eq_true h

/-! == of words by the head -/
def qEqO (x : Str) : Qn := fun K => decide (PySem.W.notFirst K (He.ga K x) (.ref (He.ga K x)) = true) && (decide (PySem.W.findIn K (.ref (He.ga K x)) "__ne__" = some (some (.builtin "object.__ne__"))) && decide (PySem.W.mroIn K (He.ga K x) (.type "object") = some true))
theorem eqO_of {P : Program} {w : World} {K : PySem.W.Frag} {mg : Str → Option Value} {base : Heap} {x : Str} {k : Nat} {sp : Sp} {f : Addr} (h : qEqO x K = true) (m : MeC P w K mg base CX0 (He.ga K x) "__eq__" k ["self", "other"] sp f) : EqO P w K mg base (He.ga K x) k sp := by
  obtain ⟨h1, h⟩ := ban h
  obtain ⟨h2, h3⟩ := ban h
  exact ⟨of_decide_eq_true h1, of_decide_eq_true h2, of_decide_eq_true h3, _, m⟩

def d__law_well : He5.DefA := ⟨fun K => He.ga K "_law_well", "_law_well", "_law_well", defArgs s__law_well, defBody s__law_well, defScope s__law_well, [], []⟩
def d__law_take : He5.DefA := ⟨fun K => He.ga K "_law_take", "_law_take", "_law_take", defArgs s__law_take, defBody s__law_take, defScope s__law_take, [], []⟩
def d_common_part : He5.DefA := ⟨fun K => He.ga K "common_part", "common_part", "common_part", defArgs s_common_part, defBody s_common_part, defScope s_common_part, [], []⟩
def d_BitError___init__ : He5.DefA := ⟨fun K => He.ma K (He.ga K "BitError") "__init__", "__init__", "BitError.__init__", defArgs s_BitError___init__, defBody s_BitError___init__, defScope s_BitError___init__, [], []⟩
def d_Word___init__ : He5.DefA := ⟨fun K => He.ma K (He.ga K "Word") "__init__", "__init__", "Word.__init__", defArgs s_Word___init__, defBody s_Word___init__, defScope s_Word___init__, [.int 1], []⟩
def d__law_short : He5.DefA := ⟨fun K => He.ga K "_law_short", "_law_short", "_law_short", defArgs s__law_short, defBody s__law_short, defScope s__law_short, [], []⟩
def d_fraction_of : He5.DefA := ⟨fun K => He.ga K "fraction_of", "fraction_of", "fraction_of", defArgs s_fraction_of, defBody s_fraction_of, defScope s_fraction_of, [], []⟩
def d_Word___add__ : He5.DefA := ⟨fun K => He.ma K (He.ga K "Word") "__add__", "__add__", "Word.__add__", defArgs s_Word___add__, defBody s_Word___add__, defScope s_Word___add__, [], []⟩
def d_Word___radd__ : He5.DefA := ⟨fun K => He.ma K (He.ga K "Word") "__radd__", "__radd__", "Word.__radd__", defArgs s_Word___radd__, defBody s_Word___radd__, defScope s_Word___radd__, [], []⟩
def d_lead_of : He5.DefA := ⟨fun K => He.ga K "lead_of", "lead_of", "lead_of", defArgs s_lead_of, defBody s_lead_of, defScope s_lead_of, [], []⟩
def d_span_of : He5.DefA := ⟨fun K => He.ga K "span_of", "span_of", "span_of", defArgs s_span_of, defBody s_span_of, defScope s_span_of, [], []⟩
def d_inverse_low : He5.DefA := ⟨fun K => He.ga K "inverse_low", "inverse_low", "inverse_low", defArgs s_inverse_low, defBody s_inverse_low, defScope s_inverse_low, [], []⟩
def d_low_of : He5.DefA := ⟨fun K => He.ga K "low_of", "low_of", "low_of", defArgs s_low_of, defBody s_low_of, defScope s_low_of, [], []⟩
def d_repeated : He5.DefA := ⟨fun K => He.ga K "repeated", "repeated", "repeated", defArgs s_repeated, defBody s_repeated, defScope s_repeated, [], []⟩
def d_bits_mixed : He5.DefA := ⟨fun K => He.ga K "bits_mixed", "bits_mixed", "bits_mixed", defArgs s_bits_mixed, defBody s_bits_mixed, defScope s_bits_mixed, [], []⟩
def d_Word___xor__ : He5.DefA := ⟨fun K => He.ma K (He.ga K "Word") "__xor__", "__xor__", "Word.__xor__", defArgs s_Word___xor__, defBody s_Word___xor__, defScope s_Word___xor__, [], []⟩
def d_Word___rxor__ : He5.DefA := ⟨fun K => He.ma K (He.ga K "Word") "__rxor__", "__rxor__", "Word.__rxor__", defArgs s_Word___rxor__, defBody s_Word___rxor__, defScope s_Word___rxor__, [], []⟩
def d_Word___lshift__ : He5.DefA := ⟨fun K => He.ma K (He.ga K "Word") "__lshift__", "__lshift__", "Word.__lshift__", defArgs s_Word___lshift__, defBody s_Word___lshift__, defScope s_Word___lshift__, [], []⟩
def d_Word___and__ : He5.DefA := ⟨fun K => He.ma K (He.ga K "Word") "__and__", "__and__", "Word.__and__", defArgs s_Word___and__, defBody s_Word___and__, defScope s_Word___and__, [], []⟩
def d_Word___rand__ : He5.DefA := ⟨fun K => He.ma K (He.ga K "Word") "__rand__", "__rand__", "Word.__rand__", defArgs s_Word___rand__, defBody s_Word___rand__, defScope s_Word___rand__, [], []⟩
def d_Word___or__ : He5.DefA := ⟨fun K => He.ma K (He.ga K "Word") "__or__", "__or__", "Word.__or__", defArgs s_Word___or__, defBody s_Word___or__, defScope s_Word___or__, [], []⟩
def d_Word___ror__ : He5.DefA := ⟨fun K => He.ma K (He.ga K "Word") "__ror__", "__ror__", "Word.__ror__", defArgs s_Word___ror__, defBody s_Word___ror__, defScope s_Word___ror__, [], []⟩
def d_Word___sub__ : He5.DefA := ⟨fun K => He.ma K (He.ga K "Word") "__sub__", "__sub__", "Word.__sub__", defArgs s_Word___sub__, defBody s_Word___sub__, defScope s_Word___sub__, [], []⟩
def d_Word___rsub__ : He5.DefA := ⟨fun K => He.ma K (He.ga K "Word") "__rsub__", "__rsub__", "Word.__rsub__", defArgs s_Word___rsub__, defBody s_Word___rsub__, defScope s_Word___rsub__, [], []⟩
def d_Word___invert__ : He5.DefA := ⟨fun K => He.ma K (He.ga K "Word") "__invert__", "__invert__", "Word.__invert__", defArgs s_Word___invert__, defBody s_Word___invert__, defScope s_Word___invert__, [], []⟩
def d_Word___neg__ : He5.DefA := ⟨fun K => He.ma K (He.ga K "Word") "__neg__", "__neg__", "Word.__neg__", defArgs s_Word___neg__, defBody s_Word___neg__, defScope s_Word___neg__, [], []⟩
def d__law_sums : He5.DefA := ⟨fun K => He.ga K "_law_sums", "_law_sums", "_law_sums", defArgs s__law_sums, defBody s__law_sums, defScope s__law_sums, [], []⟩
def d_Word___mul__ : He5.DefA := ⟨fun K => He.ma K (He.ga K "Word") "__mul__", "__mul__", "Word.__mul__", defArgs s_Word___mul__, defBody s_Word___mul__, defScope s_Word___mul__, [], []⟩
def d_Word___rmul__ : He5.DefA := ⟨fun K => He.ma K (He.ga K "Word") "__rmul__", "__rmul__", "Word.__rmul__", defArgs s_Word___rmul__, defBody s_Word___rmul__, defScope s_Word___rmul__, [], []⟩
def d__law_three : He5.DefA := ⟨fun K => He.ga K "_law_three", "_law_three", "_law_three", defArgs s__law_three, defBody s__law_three, defScope s__law_three, [], []⟩
def d_Word___rshift__ : He5.DefA := ⟨fun K => He.ma K (He.ga K "Word") "__rshift__", "__rshift__", "Word.__rshift__", defArgs s_Word___rshift__, defBody s_Word___rshift__, defScope s_Word___rshift__, [], []⟩
def d_Word___floordiv__ : He5.DefA := ⟨fun K => He.ma K (He.ga K "Word") "__floordiv__", "__floordiv__", "Word.__floordiv__", defArgs s_Word___floordiv__, defBody s_Word___floordiv__, defScope s_Word___floordiv__, [], []⟩
def d_Word___rfloordiv__ : He5.DefA := ⟨fun K => He.ma K (He.ga K "Word") "__rfloordiv__", "__rfloordiv__", "Word.__rfloordiv__", defArgs s_Word___rfloordiv__, defBody s_Word___rfloordiv__, defScope s_Word___rfloordiv__, [], []⟩
def d__law_moved : He5.DefA := ⟨fun K => He.ga K "_law_moved", "_law_moved", "_law_moved", defArgs s__law_moved, defBody s__law_moved, defScope s__law_moved, [], []⟩
def d_Word___eq__ : He5.DefA := ⟨fun K => He.ma K (He.ga K "Word") "__eq__", "__eq__", "Word.__eq__", defArgs s_Word___eq__, defBody s_Word___eq__, defScope s_Word___eq__, [], []⟩
def d_check_width : He5.DefA := ⟨fun K => He.ga K "check_width", "check_width", "check_width", defArgs s_check_width, defBody s_check_width, defScope s_check_width, [], []⟩
def d_Word_top : He5.DefA := ⟨fun K => prp K (He.ga K "Word") "top", "top", "Word.top", defArgs s_Word_top, defBody s_Word_top, defScope s_Word_top, [], []⟩
def d_Word_bottom : He5.DefA := ⟨fun K => prp K (He.ga K "Word") "bottom", "bottom", "Word.bottom", defArgs s_Word_bottom, defBody s_Word_bottom, defScope s_Word_bottom, [], []⟩
def d_low_bits : He5.DefA := ⟨fun K => He.ga K "low_bits", "low_bits", "low_bits", defArgs s_low_bits, defBody s_low_bits, defScope s_low_bits, [], []⟩
def d_Word_lead : He5.DefA := ⟨fun K => prp K (He.ga K "Word") "lead", "lead", "Word.lead", defArgs s_Word_lead, defBody s_Word_lead, defScope s_Word_lead, [], []⟩
def d_Word_span : He5.DefA := ⟨fun K => prp K (He.ga K "Word") "span", "span", "Word.span", defArgs s_Word_span, defBody s_Word_span, defScope s_Word_span, [], []⟩
def d_ones_of : He5.DefA := ⟨fun K => He.ga K "ones_of", "ones_of", "ones_of", defArgs s_ones_of, defBody s_ones_of, defScope s_ones_of, [], []⟩
def d_ones_by_parts : He5.DefA := ⟨fun K => He.ga K "ones_by_parts", "ones_by_parts", "ones_by_parts", defArgs s_ones_by_parts, defBody s_ones_by_parts, defScope s_ones_by_parts, [], []⟩
def d_count_ones : He5.DefA := ⟨fun K => He.ga K "count_ones", "count_ones", "count_ones", defArgs s_count_ones, defBody s_count_ones, defScope s_count_ones, [], []⟩
def d_nth_one : He5.DefA := ⟨fun K => He.ga K "nth_one", "nth_one", "nth_one", defArgs s_nth_one, defBody s_nth_one, defScope s_nth_one, [], []⟩
def d_first_unlike : He5.DefA := ⟨fun K => He.ga K "first_unlike", "first_unlike", "first_unlike", defArgs s_first_unlike, defBody s_first_unlike, defScope s_first_unlike, [], []⟩
def d_Word___getitem__ : He5.DefA := ⟨fun K => He.ma K (He.ga K "Word") "__getitem__", "__getitem__", "Word.__getitem__", defArgs s_Word___getitem__, defBody s_Word___getitem__, defScope s_Word___getitem__, [], []⟩
def d__law_low_right : He5.DefA := ⟨fun K => He.ga K "_law_low_right", "_law_low_right", "_law_low_right", defArgs s__law_low_right, defBody s__law_low_right, defScope s__law_low_right, [], []⟩
def d__law_fits : He5.DefA := ⟨fun K => He.ga K "_law_fits", "_law_fits", "_law_fits", defArgs s__law_fits, defBody s__law_fits, defScope s__law_fits, [], []⟩
def d_law : He5.DefA := ⟨fun K => He.ga K "law", "law", "law", defArgs s_law, defBody s_law, defScope s_law, [], []⟩
def fn : List He5.DefA := [d__law_well, d__law_take, d_common_part, d_BitError___init__, d_Word___init__, d__law_short, d_fraction_of, d_Word___add__, d_Word___radd__, d_lead_of, d_span_of, d_inverse_low, d_low_of, d_repeated, d_bits_mixed, d_Word___xor__, d_Word___rxor__, d_Word___lshift__, d_Word___and__, d_Word___rand__, d_Word___or__, d_Word___ror__, d_Word___sub__, d_Word___rsub__, d_Word___invert__, d_Word___neg__, d__law_sums, d_Word___mul__, d_Word___rmul__, d__law_three, d_Word___rshift__, d_Word___floordiv__, d_Word___rfloordiv__, d__law_moved, d_Word___eq__, d_check_width, d_Word_top, d_Word_bottom, d_low_bits, d_Word_lead, d_Word_span, d_ones_of, d_ones_by_parts, d_count_ones, d_nth_one, d_first_unlike, d_Word___getitem__, d__law_low_right, d__law_fits, d_law]
def fa : List Qn := [qBi, qGlo "law", qGlo "_law_well", qGlo "_law_take", qCls "Word", qNoat "Word" "kept_top", qNoat "Word" "kept_bottom", qGlo "common_part", qGlo "InvalidWord", qXc "InvalidWord", qGlo "Word", qMkr "Word", qGlo "_law_short", qCs "Word", qTy "Word", qGlo "fraction_of", qMe "Word" "__add__", qMe "Word" "__radd__", qRi "add", qGlo "lead_of", qGlo "span_of", qGlo "inverse_low", qGlo "low_of", qGlo "repeated", qGlo "bits_mixed", qMe "Word" "__xor__", qMe "Word" "__rxor__", qRi "xor", qGlo "InvalidShift", qXc "InvalidShift", qMe "Word" "__lshift__", qRi "lshift", qRn "Word" "lshift", qMe "Word" "__and__", qMe "Word" "__rand__", qRi "and", qMe "Word" "__or__", qMe "Word" "__ror__", qRi "or", qMe "Word" "__sub__", qMe "Word" "__rsub__", qRi "sub", qMe "Word" "__invert__", qMe "Word" "__neg__", qGlo "_law_sums", qMe "Word" "__mul__", qMe "Word" "__rmul__", qRi "mul", qGlo "_law_three", qMe "Word" "__rshift__", qRi "rshift", qRn "Word" "rshift", qGlo "NotOdd", qXc "NotOdd", qMe "Word" "__floordiv__", qMe "Word" "__rfloordiv__", qRi "floordiv", qGlo "_law_moved", qMe "Word" "__eq__", qEqO "Word", qGlo "InvalidWidth", qXc "InvalidWidth", qGlo "check_width", qProp "Word" "top", qProp "Word" "bottom", qGlo "low_bits", qProp "Word" "lead", qProp "Word" "span", qGlo "ones_of", qGlo "ones_by_parts", qGlo "count_ones", qGlo "InvalidIndex", qXc "InvalidIndex", qGlo "nth_one", qGlo "first_unlike", qGlo "InvalidPlace", qXc "InvalidPlace", qMe "Word" "__getitem__", qMeF "Word" "__getitem__", qGlo "_law_low_right", qGlo "_law_fits"]
abbrev Rw : PySem.W.OpenRow := PySem.W.OpenLaw.row PySem.Challenge.rw_bitsolve_k16_whole_words_as_numbers_and
abbrev hkM : PySem.W.Hook := hookM 6 fa fn
def ob (s : PySem.W.SharedT) : He.AlD := obsMG 6 fa fn (HandSHeadRun.getT s)
theorem ob_eq (s : PySem.W.SharedT) : ob s = hkM.obs s.abs := obsMG_eq (HandSHeadRun.getT_eq s)
theorem headRun (w : World) : HandSHeadRun.RunEq Rw (PySem.W.view Rw.prog [35]) hkM ob 6000 ["BitError", "InvalidWord", "NotOdd", "InvalidPlace", "InvalidWidth", "InvalidIndex", "InvalidShift", "common_part", "inverse_low", "low_of", "lead_of", "span_of", "fraction_of", "repeated", "bits_mixed", "Word", "check_width", "ones_of", "ones_by_parts", "low_bits", "count_ones", "nth_one", "first_unlike", "_law_well", "_law_take", "_law_short", "_law_sums", "_law_three", "_law_moved", "_law_low_right", "_law_fits"] w := by
  intro os
  kernel_rfl
theorem facts {P : Program} {w : World} {K : PySem.W.Frag} {h : Heap} {mg : Str → Option Value} {f : Addr} (X : K.In h) (G : h.Ns mainGlobals mg) (hf : mg ("law" : Str) = some (.ref f)) (c : SaysM fa fn K) :
    ∃ fd : FuncData, (∀ (s : Shared) (v : Value), BindsTo s fd ⟨[v], []⟩ [("_law_script", v)]) ∧ ∀ base : Heap, K.In base → base.Ns mainGlobals mg → FnG P w K mg base CX0 21 f fd ["_law_script"] (sp_law K) := by
  obtain ⟨f__law_well, F__law_well⟩ := c.d 0 (d := d__law_well) rfl
  obtain ⟨f__law_take, F__law_take⟩ := c.d 1 (d := d__law_take) rfl
  obtain ⟨f_common_part, F_common_part⟩ := c.d 2 (d := d_common_part) rfl
  obtain ⟨f_BitError___init__, F_BitError___init__⟩ := c.d 3 (d := d_BitError___init__) rfl
  obtain ⟨f_Word___init__, F_Word___init__⟩ := c.d 4 (d := d_Word___init__) rfl
  obtain ⟨f__law_short, F__law_short⟩ := c.d 5 (d := d__law_short) rfl
  obtain ⟨f_fraction_of, F_fraction_of⟩ := c.d 6 (d := d_fraction_of) rfl
  obtain ⟨f_Word___add__, F_Word___add__⟩ := c.d 7 (d := d_Word___add__) rfl
  obtain ⟨f_Word___radd__, F_Word___radd__⟩ := c.d 8 (d := d_Word___radd__) rfl
  obtain ⟨f_lead_of, F_lead_of⟩ := c.d 9 (d := d_lead_of) rfl
  obtain ⟨f_span_of, F_span_of⟩ := c.d 10 (d := d_span_of) rfl
  obtain ⟨f_inverse_low, F_inverse_low⟩ := c.d 11 (d := d_inverse_low) rfl
  obtain ⟨f_low_of, F_low_of⟩ := c.d 12 (d := d_low_of) rfl
  obtain ⟨f_repeated, F_repeated⟩ := c.d 13 (d := d_repeated) rfl
  obtain ⟨f_bits_mixed, F_bits_mixed⟩ := c.d 14 (d := d_bits_mixed) rfl
  obtain ⟨f_Word___xor__, F_Word___xor__⟩ := c.d 15 (d := d_Word___xor__) rfl
  obtain ⟨f_Word___rxor__, F_Word___rxor__⟩ := c.d 16 (d := d_Word___rxor__) rfl
  obtain ⟨f_Word___lshift__, F_Word___lshift__⟩ := c.d 17 (d := d_Word___lshift__) rfl
  obtain ⟨f_Word___and__, F_Word___and__⟩ := c.d 18 (d := d_Word___and__) rfl
  obtain ⟨f_Word___rand__, F_Word___rand__⟩ := c.d 19 (d := d_Word___rand__) rfl
  obtain ⟨f_Word___or__, F_Word___or__⟩ := c.d 20 (d := d_Word___or__) rfl
  obtain ⟨f_Word___ror__, F_Word___ror__⟩ := c.d 21 (d := d_Word___ror__) rfl
  obtain ⟨f_Word___sub__, F_Word___sub__⟩ := c.d 22 (d := d_Word___sub__) rfl
  obtain ⟨f_Word___rsub__, F_Word___rsub__⟩ := c.d 23 (d := d_Word___rsub__) rfl
  obtain ⟨f_Word___invert__, F_Word___invert__⟩ := c.d 24 (d := d_Word___invert__) rfl
  obtain ⟨f_Word___neg__, F_Word___neg__⟩ := c.d 25 (d := d_Word___neg__) rfl
  obtain ⟨f__law_sums, F__law_sums⟩ := c.d 26 (d := d__law_sums) rfl
  obtain ⟨f_Word___mul__, F_Word___mul__⟩ := c.d 27 (d := d_Word___mul__) rfl
  obtain ⟨f_Word___rmul__, F_Word___rmul__⟩ := c.d 28 (d := d_Word___rmul__) rfl
  obtain ⟨f__law_three, F__law_three⟩ := c.d 29 (d := d__law_three) rfl
  obtain ⟨f_Word___rshift__, F_Word___rshift__⟩ := c.d 30 (d := d_Word___rshift__) rfl
  obtain ⟨f_Word___floordiv__, F_Word___floordiv__⟩ := c.d 31 (d := d_Word___floordiv__) rfl
  obtain ⟨f_Word___rfloordiv__, F_Word___rfloordiv__⟩ := c.d 32 (d := d_Word___rfloordiv__) rfl
  obtain ⟨f__law_moved, F__law_moved⟩ := c.d 33 (d := d__law_moved) rfl
  obtain ⟨f_Word___eq__, F_Word___eq__⟩ := c.d 34 (d := d_Word___eq__) rfl
  obtain ⟨f_check_width, F_check_width⟩ := c.d 35 (d := d_check_width) rfl
  obtain ⟨f_Word_top, F_Word_top⟩ := c.d 36 (d := d_Word_top) rfl
  obtain ⟨f_Word_bottom, F_Word_bottom⟩ := c.d 37 (d := d_Word_bottom) rfl
  obtain ⟨f_low_bits, F_low_bits⟩ := c.d 38 (d := d_low_bits) rfl
  obtain ⟨f_Word_lead, F_Word_lead⟩ := c.d 39 (d := d_Word_lead) rfl
  obtain ⟨f_Word_span, F_Word_span⟩ := c.d 40 (d := d_Word_span) rfl
  obtain ⟨f_ones_of, F_ones_of⟩ := c.d 41 (d := d_ones_of) rfl
  obtain ⟨f_ones_by_parts, F_ones_by_parts⟩ := c.d 42 (d := d_ones_by_parts) rfl
  obtain ⟨f_count_ones, F_count_ones⟩ := c.d 43 (d := d_count_ones) rfl
  obtain ⟨f_nth_one, F_nth_one⟩ := c.d 44 (d := d_nth_one) rfl
  obtain ⟨f_first_unlike, F_first_unlike⟩ := c.d 45 (d := d_first_unlike) rfl
  obtain ⟨f_Word___getitem__, F_Word___getitem__⟩ := c.d 46 (d := d_Word___getitem__) rfl
  obtain ⟨f__law_low_right, F__law_low_right⟩ := c.d 47 (d := d__law_low_right) rfl
  obtain ⟨f__law_fits, F__law_fits⟩ := c.d 48 (d := d__law_fits) rfl
  obtain ⟨f_law, F_law⟩ := c.d 49 (d := d_law) rfl
  have e := hf.symm.trans (He.glo_ok X G (c.q 1 (f := qGlo "law") rfl))
  cases e
  have B := bi_of X G (c.q 0 (f := qBi) rfl)
  have b := FunD.bindsA (ps := ["_law_script"]) F_law (fun _ _ _ _ _ _ us hl => match us, hl with | [_], _ => rfl)
  refine ⟨f_law, fun s v => b s [v] rfl, fun base Xb Gb => ?_⟩
  have c__law_well : Fo P w K mg base CX0 1 "_law_well" _ _ := fo_of X G (c.q 2 (f := qGlo "_law_well") rfl) (ok_well F__law_well B) F__law_well.kp (F__law_well.bindsN (fun _ _ _ _ _ _ us hl => match us, hl with | [_, _], _ => rfl))
  have c__law_take : Fo P w K mg base CX0 1 "_law_take" _ _ := fo_of X G (c.q 3 (f := qGlo "_law_take") rfl) (ok_take F__law_take B) F__law_take.kp (F__law_take.bindsN (fun _ _ _ _ _ _ us hl => match us, hl with | [_, _], _ => rfl))
  have cl := He.cls_ok (c.q 4 (f := qCls "Word") rfl)
  have nT := He.noat_ok (c.q 5 (f := qNoat "Word" "kept_top") rfl)
  have nB := He.noat_ok (c.q 6 (f := qNoat "Word" "kept_bottom") rfl)
  have c_common_part : Fo P w K mg base CX0 1 "common_part" _ _ := fo_of X G (c.q 7 (f := qGlo "common_part") rfl) (ok_common_part F_common_part B) F_common_part.kp (F_common_part.bindsN (fun _ _ _ _ _ _ us hl => match us, hl with | [_, _], _ => rfl))
  have xi := ok_excInit (P := P) (w := w) (mg := mg) (base := base) F_BitError___init__
  have bi := F_BitError___init__.bindsN (ps := ["self", "value"]) (fun _ _ _ _ _ _ us hl => match us, hl with | [_, _], _ => rfl)
  have x_InvalidWord : Xc P w K mg base "InvalidWord" _ := xc_of X G (c.q 8 (f := qGlo "InvalidWord") rfl) (c.q 9 (f := qXc "InvalidWord") rfl) xi bi
  have c_Word := wordC_of (P := P) (w := w) (base := base) X G (c.q 10 (f := qGlo "Word") rfl) (c.q 4 (f := qCls "Word") rfl) (c.q 5 (f := qNoat "Word" "kept_top") rfl) (c.q 6 (f := qNoat "Word" "kept_bottom") rfl) (c.q 11 (f := qMkr "Word") rfl) F_Word___init__ (ok_Word_init F_Word___init__ B cl nT nB c_common_part x_InvalidWord)
  have c__law_short : Fo P w K mg base CX0 6 "_law_short" _ _ := fo_of X G (c.q 12 (f := qGlo "_law_short") rfl) (ok__law_short F__law_short B c__law_take c_Word) F__law_short.kp (F__law_short.bindsN (fun _ _ _ _ _ _ us hl => match us, hl with | [_], _ => rfl))
  have cs := cs_of (c.q 13 (f := qCs "Word") rfl)
  have ty_Word := ty_of cl (c.q 14 (f := qTy "Word") rfl)
  have g_Word := He.glo_ok X G (c.q 10 (f := qGlo "Word") rfl)
  have c_fraction_of : Fo P w K mg base CX0 1 "fraction_of" _ _ := fo_of X G (c.q 15 (f := qGlo "fraction_of") rfl) (ok_fraction_of F_fraction_of B ty_Word g_Word nT nB) F_fraction_of.kp (F_fraction_of.bindsN (fun _ _ _ _ _ _ us hl => match us, hl with | [_], _ => rfl))
  have m_add := me_of (P := P) (w := w) (mg := mg) (base := base) (c.q 16 (f := qMe "Word" "__add__") rfl) (ok_Word___add__ F_Word___add__ B c_Word c_fraction_of) (F_Word___add__.bindsN (ps := ["self", "other"]) (fun _ _ _ _ _ _ us hl => match us, hl with | [_, _], _ => rfl))
  have m_radd := me_of (P := P) (w := w) (mg := mg) (base := base) (c.q 17 (f := qMe "Word" "__radd__") rfl) (ok_Word___radd__ F_Word___radd__ B c_Word c_fraction_of) (F_Word___radd__.bindsN (ps := ["self", "other"]) (fun _ _ _ _ _ _ us hl => match us, hl with | [_, _], _ => rfl))
  have o_Add : SA P w K mg base _ := ⟨cs, is_add, ri_of (c.q 18 (f := qRi "add") rfl), _, _, m_add, m_radd⟩
  have c_lead_of : Fo P w K mg base CX0 1 "lead_of" _ _ := fo_of X G (c.q 19 (f := qGlo "lead_of") rfl) (ok_lead_of F_lead_of B) F_lead_of.kp (F_lead_of.bindsN (fun _ _ _ _ _ _ us hl => match us, hl with | [_, _], _ => rfl))
  have c_span_of : Fo P w K mg base CX0 1 "span_of" _ _ := fo_of X G (c.q 20 (f := qGlo "span_of") rfl) (ok_span_of F_span_of B) F_span_of.kp (F_span_of.bindsN (fun _ _ _ _ _ _ us hl => match us, hl with | [_], _ => rfl))
  have c_inverse_low : Fo P w K mg base CX0 1 "inverse_low" _ _ := fo_of X G (c.q 21 (f := qGlo "inverse_low") rfl) (ok_inverse_low F_inverse_low B) F_inverse_low.kp (F_inverse_low.bindsN (fun _ _ _ _ _ _ us hl => match us, hl with | [_, _], _ => rfl))
  have c_low_of : Fo P w K mg base CX0 2 "low_of" _ _ := fo_of X G (c.q 22 (f := qGlo "low_of") rfl) (ok_low_of F_low_of B c_inverse_low) F_low_of.kp (F_low_of.bindsN (fun _ _ _ _ _ _ us hl => match us, hl with | [_, _, _], _ => rfl))
  have c_repeated : Fo P w K mg base CX0 1 "repeated" _ _ := fo_of X G (c.q 23 (f := qGlo "repeated") rfl) (ok_repeated F_repeated B) F_repeated.kp (F_repeated.bindsN (fun _ _ _ _ _ _ us hl => match us, hl with | [_, _, _, _], _ => rfl))
  have c_bits_mixed : Fo P w K mg base CX0 3 "bits_mixed" _ _ := fo_of X G (c.q 24 (f := qGlo "bits_mixed") rfl) (ok_bits_mixed F_bits_mixed B c_lead_of c_span_of c_common_part c_low_of c_repeated) F_bits_mixed.kp (F_bits_mixed.bindsN (fun _ _ _ _ _ _ us hl => match us, hl with | [_, _, _], _ => rfl))
  have m_xor := me_of (P := P) (w := w) (mg := mg) (base := base) (c.q 25 (f := qMe "Word" "__xor__") rfl) (ok_Word___xor__ F_Word___xor__ B c_fraction_of c_bits_mixed c_Word) (F_Word___xor__.bindsN (ps := ["self", "other"]) (fun _ _ _ _ _ _ us hl => match us, hl with | [_, _], _ => rfl))
  have m_rxor := me_of (P := P) (w := w) (mg := mg) (base := base) (c.q 26 (f := qMe "Word" "__rxor__") rfl) (ok_Word___rxor__ F_Word___rxor__ B c_fraction_of c_bits_mixed c_Word) (F_Word___rxor__.bindsN (ps := ["self", "other"]) (fun _ _ _ _ _ _ us hl => match us, hl with | [_, _], _ => rfl))
  have o_BitXor : SMx P w K mg base _ "xor" Builtin.bitXor := ⟨cs, is_xor, ri_of (c.q 27 (f := qRi "xor") rfl), _, _, m_xor, m_rxor⟩
  have x_InvalidShift : Xc P w K mg base "InvalidShift" _ := xc_of X G (c.q 28 (f := qGlo "InvalidShift") rfl) (c.q 29 (f := qXc "InvalidShift") rfl) xi bi
  have m_lshift := me_of (P := P) (w := w) (mg := mg) (base := base) (c.q 30 (f := qMe "Word" "__lshift__") rfl) (ok_Word___lshift__ F_Word___lshift__ B x_InvalidShift c_Word) (F_Word___lshift__.bindsN (ps := ["self", "other"]) (fun _ _ _ _ _ _ us hl => match us, hl with | [_, _], _ => rfl))
  have o_LShift : SL P w K mg base _ _ := ⟨cs, PySem.F.fills_int_lshift, ri_of (c.q 31 (f := qRi "lshift") rfl), rn_of (c.q 32 (f := qRn "Word" "lshift") rfl), _, m_lshift⟩
  have m_and := me_of (P := P) (w := w) (mg := mg) (base := base) (c.q 33 (f := qMe "Word" "__and__") rfl) (ok_Word___and__ F_Word___and__ B c_fraction_of c_bits_mixed c_Word) (F_Word___and__.bindsN (ps := ["self", "other"]) (fun _ _ _ _ _ _ us hl => match us, hl with | [_, _], _ => rfl))
  have m_rand := me_of (P := P) (w := w) (mg := mg) (base := base) (c.q 34 (f := qMe "Word" "__rand__") rfl) (ok_Word___rand__ F_Word___rand__ B c_fraction_of c_bits_mixed c_Word) (F_Word___rand__.bindsN (ps := ["self", "other"]) (fun _ _ _ _ _ _ us hl => match us, hl with | [_, _], _ => rfl))
  have o_BitAnd : SMx P w K mg base _ "and" Builtin.bitAnd := ⟨cs, is_and, ri_of (c.q 35 (f := qRi "and") rfl), _, _, m_and, m_rand⟩
  have m_or := me_of (P := P) (w := w) (mg := mg) (base := base) (c.q 36 (f := qMe "Word" "__or__") rfl) (ok_Word___or__ F_Word___or__ B c_fraction_of c_bits_mixed c_Word) (F_Word___or__.bindsN (ps := ["self", "other"]) (fun _ _ _ _ _ _ us hl => match us, hl with | [_, _], _ => rfl))
  have m_ror := me_of (P := P) (w := w) (mg := mg) (base := base) (c.q 37 (f := qMe "Word" "__ror__") rfl) (ok_Word___ror__ F_Word___ror__ B c_fraction_of c_bits_mixed c_Word) (F_Word___ror__.bindsN (ps := ["self", "other"]) (fun _ _ _ _ _ _ us hl => match us, hl with | [_, _], _ => rfl))
  have o_BitOr : SMx P w K mg base _ "or" Builtin.bitOr := ⟨cs, is_or, ri_of (c.q 38 (f := qRi "or") rfl), _, _, m_or, m_ror⟩
  have m_sub := me_of (P := P) (w := w) (mg := mg) (base := base) (c.q 39 (f := qMe "Word" "__sub__") rfl) (ok_Word___sub__ F_Word___sub__ B c_Word c_fraction_of) (F_Word___sub__.bindsN (ps := ["self", "other"]) (fun _ _ _ _ _ _ us hl => match us, hl with | [_, _], _ => rfl))
  have m_rsub := me_of (P := P) (w := w) (mg := mg) (base := base) (c.q 40 (f := qMe "Word" "__rsub__") rfl) (ok_Word___rsub__ F_Word___rsub__ B c_Word c_fraction_of) (F_Word___rsub__.bindsN (ps := ["self", "other"]) (fun _ _ _ _ _ _ us hl => match us, hl with | [_, _], _ => rfl))
  have o_Sub : SS P w K mg base _ := ⟨cs, is_sub, ri_of (c.q 41 (f := qRi "sub") rfl), _, _, m_sub, m_rsub⟩
  have o_inv := me_of (P := P) (w := w) (mg := mg) (base := base) (c.q 42 (f := qMe "Word" "__invert__") rfl) (ok_Word___invert__ F_Word___invert__ B c_Word) (F_Word___invert__.bindsN (ps := ["self"]) (fun _ _ _ _ _ _ us hl => match us, hl with | [_], _ => rfl))
  have o_neg := me_of (P := P) (w := w) (mg := mg) (base := base) (c.q 43 (f := qMe "Word" "__neg__") rfl) (ok_Word___neg__ F_Word___neg__ B c_Word) (F_Word___neg__.bindsN (ps := ["self"]) (fun _ _ _ _ _ _ us hl => match us, hl with | [_], _ => rfl))
  have c__law_sums : Fo P w K mg base CX0 9 "_law_sums" _ _ := fo_of X G (c.q 44 (f := qGlo "_law_sums") rfl) (ok__law_sums F__law_sums B o_Add o_BitXor o_LShift o_BitAnd o_BitOr o_Sub o_inv o_neg c_Word) F__law_sums.kp (F__law_sums.bindsN (fun _ _ _ _ _ _ us hl => match us, hl with | [_, _], _ => rfl))
  have m_mul := me_of (P := P) (w := w) (mg := mg) (base := base) (c.q 45 (f := qMe "Word" "__mul__") rfl) (ok_Word___mul__ F_Word___mul__ B c_Word c_fraction_of) (F_Word___mul__.bindsN (ps := ["self", "other"]) (fun _ _ _ _ _ _ us hl => match us, hl with | [_, _], _ => rfl))
  have m_rmul := me_of (P := P) (w := w) (mg := mg) (base := base) (c.q 46 (f := qMe "Word" "__rmul__") rfl) (ok_Word___rmul__ F_Word___rmul__ B c_Word c_fraction_of) (F_Word___rmul__.bindsN (ps := ["self", "other"]) (fun _ _ _ _ _ _ us hl => match us, hl with | [_, _], _ => rfl))
  have o_Mult : SM P w K mg base _ := ⟨cs, is_mul, ri_of (c.q 47 (f := qRi "mul") rfl), _, _, m_mul, m_rmul⟩
  have c__law_three : Fo P w K mg base CX0 9 "_law_three" _ _ := fo_of X G (c.q 48 (f := qGlo "_law_three") rfl) (ok__law_three F__law_three B o_BitAnd o_BitOr o_BitXor o_Mult o_Add o_Sub) F__law_three.kp (F__law_three.bindsN (fun _ _ _ _ _ _ us hl => match us, hl with | [_, _, _], _ => rfl))
  have m_rshift := me_of (P := P) (w := w) (mg := mg) (base := base) (c.q 49 (f := qMe "Word" "__rshift__") rfl) (ok_Word___rshift__ F_Word___rshift__ B x_InvalidShift c_low_of c_Word) (F_Word___rshift__.bindsN (ps := ["self", "other"]) (fun _ _ _ _ _ _ us hl => match us, hl with | [_, _], _ => rfl))
  have o_RShift : SR P w K mg base _ _ := ⟨cs, PySem.F.fills_int_rshift, ri_of (c.q 50 (f := qRi "rshift") rfl), rn_of (c.q 51 (f := qRn "Word" "rshift") rfl), _, m_rshift⟩
  have x_NotOdd : Xc P w K mg base "NotOdd" _ := xc_of X G (c.q 52 (f := qGlo "NotOdd") rfl) (c.q 53 (f := qXc "NotOdd") rfl) xi bi
  have m_floordiv := me_of (P := P) (w := w) (mg := mg) (base := base) (c.q 54 (f := qMe "Word" "__floordiv__") rfl) (ok_Word___floordiv__ F_Word___floordiv__ B c_fraction_of x_NotOdd c_Word) (F_Word___floordiv__.bindsN (ps := ["self", "other"]) (fun _ _ _ _ _ _ us hl => match us, hl with | [_, _], _ => rfl))
  have m_rfloordiv := me_of (P := P) (w := w) (mg := mg) (base := base) (c.q 55 (f := qMe "Word" "__rfloordiv__") rfl) (ok_Word___rfloordiv__ F_Word___rfloordiv__ B c_fraction_of x_NotOdd c_Word) (F_Word___rfloordiv__.bindsN (ps := ["self", "other"]) (fun _ _ _ _ _ _ us hl => match us, hl with | [_, _], _ => rfl))
  have o_FloorDiv : SF P w K mg base _ _ := ⟨cs, is_floordiv, ri_of (c.q 56 (f := qRi "floordiv") rfl), _, _, m_floordiv, m_rfloordiv⟩
  have c__law_moved : Fo P w K mg base CX0 9 "_law_moved" _ _ := fo_of X G (c.q 57 (f := qGlo "_law_moved") rfl) (ok__law_moved F__law_moved B o_Sub o_LShift o_RShift c_Word o_BitAnd o_BitOr o_BitXor o_Mult o_inv o_FloorDiv o_Add) F__law_moved.kp (F__law_moved.bindsN (fun _ _ _ _ _ _ us hl => match us, hl with | [_, _, _, _], _ => rfl))
  have m_eq := me_of (P := P) (w := w) (mg := mg) (base := base) (c.q 58 (f := qMe "Word" "__eq__") rfl) (ok_Word___eq__ F_Word___eq__ B g_Word ty_Word cl nT nB) (F_Word___eq__.bindsN (ps := ["self", "other"]) (fun _ _ _ _ _ _ us hl => match us, hl with | [_, _], _ => rfl))
  have e_Word : EqO P w K mg base _ 2 _ := eqO_of (c.q 59 (f := qEqO "Word") rfl) m_eq
  have x_InvalidWidth : Xc P w K mg base "InvalidWidth" _ := xc_of X G (c.q 60 (f := qGlo "InvalidWidth") rfl) (c.q 61 (f := qXc "InvalidWidth") rfl) xi bi
  have c_check_width : Fo P w K mg base (L2.CX P w) 3 "check_width" _ _ := fo_of X G (c.q 62 (f := qGlo "check_width") rfl) (ok_check_width F_check_width B x_InvalidWidth) F_check_width.kp (F_check_width.bindsN (fun _ _ _ _ _ _ us hl => match us, hl with | [_], _ => rfl))
  have p_top : PrC P w K mg base CX0 _ "top" 1 _ := prc_of (c.q 4 (f := qCls "Word") rfl) (c.q 63 (f := qProp "Word" "top") rfl) (ok_Word_top F_Word_top cl nT) (F_Word_top.bindsN (fun _ _ _ _ _ _ us hl => match us, hl with | [_], _ => rfl))
  have p_bottom : PrC P w K mg base CX0 _ "bottom" 1 _ := prc_of (c.q 4 (f := qCls "Word") rfl) (c.q 64 (f := qProp "Word" "bottom") rfl) (ok_Word_bottom F_Word_bottom cl nB) (F_Word_bottom.bindsN (fun _ _ _ _ _ _ us hl => match us, hl with | [_], _ => rfl))
  have c_low_bits : Fo P w K mg base (L2.CX P w) 4 "low_bits" _ _ := fo_of X G (c.q 65 (f := qGlo "low_bits") rfl) (ok_low_bits F_low_bits B c_check_width c_low_of p_top p_bottom) F_low_bits.kp (F_low_bits.bindsN (fun _ _ _ _ _ _ us hl => match us, hl with | [_, _], _ => rfl))
  have p_lead : PrC P w K mg base CX0 _ "lead" 2 _ := prc_of (c.q 4 (f := qCls "Word") rfl) (c.q 66 (f := qProp "Word" "lead") rfl) (ok_Word_lead F_Word_lead B c_lead_of cl nT nB) (F_Word_lead.bindsN (fun _ _ _ _ _ _ us hl => match us, hl with | [_], _ => rfl))
  have p_span : PrC P w K mg base CX0 _ "span" 2 _ := prc_of (c.q 4 (f := qCls "Word") rfl) (c.q 67 (f := qProp "Word" "span") rfl) (ok_Word_span F_Word_span B c_span_of cl nB) (F_Word_span.bindsN (fun _ _ _ _ _ _ us hl => match us, hl with | [_], _ => rfl))
  have c_ones_of : Fo P w K mg base CX0 1 "ones_of" _ _ := fo_of X G (c.q 68 (f := qGlo "ones_of") rfl) (ok_ones_of F_ones_of B) F_ones_of.kp (F_ones_of.bindsN (fun _ _ _ _ _ _ us hl => match us, hl with | [_], _ => rfl))
  have c_ones_by_parts : Fo P w K mg base CX0 4 "ones_by_parts" _ _ := fo_of X G (c.q 69 (f := qGlo "ones_by_parts") rfl) (ok_ones_by_parts F_ones_by_parts B p_lead p_span c_ones_of c_low_of p_top p_bottom) F_ones_by_parts.kp (F_ones_by_parts.bindsN (fun _ _ _ _ _ _ us hl => match us, hl with | [_], _ => rfl))
  have c_count_ones : Fo P w K mg base (L2.CX P w) 6 "count_ones" _ _ := fo_of X G (c.q 70 (f := qGlo "count_ones") rfl) (ok_count_ones F_count_ones B c_check_width c_ones_by_parts p_lead p_span) F_count_ones.kp (F_count_ones.bindsN (fun _ _ _ _ _ _ us hl => match us, hl with | [_, _], _ => rfl))
  have x_InvalidIndex : Xc P w K mg base "InvalidIndex" _ := xc_of X G (c.q 71 (f := qGlo "InvalidIndex") rfl) (c.q 72 (f := qXc "InvalidIndex") rfl) xi bi
  have c_nth_one : Fo P w K mg base (L2.CX P w) 6 "nth_one" _ _ := fo_of X G (c.q 73 (f := qGlo "nth_one") rfl) (ok_nth_one F_nth_one B x_InvalidIndex c_ones_by_parts p_span) F_nth_one.kp (F_nth_one.bindsN (fun _ _ _ _ _ _ us hl => match us, hl with | [_, _], _ => rfl))
  have c_first_unlike : Fo P w K mg base (L2.CX P w) 4 "first_unlike" _ _ := fo_of X G (c.q 74 (f := qGlo "first_unlike") rfl) (ok_first_unlike F_first_unlike B p_top p_bottom c_ones_of) F_first_unlike.kp (F_first_unlike.bindsN (fun _ _ _ _ _ _ us hl => match us, hl with | [_, _], _ => rfl))
  have x_InvalidPlace : Xc P w K mg base "InvalidPlace" _ := xc_of X G (c.q 75 (f := qGlo "InvalidPlace") rfl) (c.q 76 (f := qXc "InvalidPlace") rfl) xi bi
  have m_getitem := me_of (P := P) (w := w) (mg := mg) (base := base) (c.q 77 (f := qMe "Word" "__getitem__") rfl) (ok_getitem F_Word___getitem__ B cl nT nB x_InvalidPlace c_lead_of c_span_of c_low_of) (F_Word___getitem__.bindsN (ps := ["self", "at"]) (fun _ _ _ _ _ _ us hl => match us, hl with | [_, _], _ => rfl))
  have hfG := (c.q 78 (f := qMeF "Word" "__getitem__") rfl)
  have c__law_low_right : FoG P w K mg base CX0 9 "_law_low_right" _ _ := foG_of X G (c.q 79 (f := qGlo "_law_low_right") rfl) (ok__law_low_right F__law_low_right B c_low_bits o_Add o_Sub o_Mult o_BitAnd o_BitOr o_BitXor o_inv c_count_ones c_nth_one c_first_unlike m_getitem hfG) F__law_low_right.kp (F__law_low_right.bindsN (fun _ _ _ _ _ _ us hl => match us, hl with | [_, _, _], _ => rfl))
  have c__law_fits : FoG P w K mg base CX0 20 "_law_fits" _ _ := foG_of X G (c.q 80 (f := qGlo "_law_fits") rfl) (ok__law_fits F__law_fits B c__law_short c__law_take c__law_sums c__law_three c__law_moved e_Word c__law_low_right o_Sub o_LShift o_RShift p_top p_bottom c_low_bits c_nth_one c_count_ones m_getitem hfG) F__law_fits.kp (F__law_fits.bindsN (fun _ _ _ _ _ _ us hl => match us, hl with | [_], _ => rfl))
  exact ok_law F_law B c__law_well c__law_fits
end Bs
open PySem PySem.W PySem.Calls PyProof.Rows
theorem PySem.Challenge.cw_bitsolve_k16_whole_words_as_numbers_and_holds : PySem.Challenge.rw_bitsolve_k16_whole_words_as_numbers_and.Holds := by
  w_on; o_law
  refine HandSHeadRun.head_any (r := Bs.Rw) (q := view Bs.Rw.prog [35]) (H := Bs.hkM) (ob := Bs.ob) (M := 6000) (loose := ["BitError", "InvalidWord", "NotOdd", "InvalidPlace", "InvalidWidth", "InvalidIndex", "InvalidShift", "common_part", "inverse_low", "low_of", "lead_of", "span_of", "fraction_of", "repeated", "bits_mixed", "Word", "check_width", "ones_of", "ones_by_parts", "low_bits", "count_ones", "nth_one", "first_unlike", "_law_well", "_law_take", "_law_short", "_law_sums", "_law_three", "_law_moved", "_law_low_right", "_law_fits"]) (d := HandSHeadRun.topDef Bs.Rw.prog 35) (kwd := []) Bs.ob_eq
    (by kernel_rfl) (fun s => by kernel_rfl) Bs.headRun (by kernel_rfl) (by kernel_rfl) (by kernel_rfl) (by rfl) (by first | assumption | decide +kernel) (by decide +kernel) ⟨rfl, rfl, rfl, rfl, rfl, by decide +kernel⟩ ?hw ?hc
  case hw => w_witness2
  case hc =>
    refine Bs.walk_G (l := PySem.Challenge.rw_bitsolve_k16_whole_words_as_numbers_and) (n := 63) (k := 21) (x := "_law_script") rfl (by decide) (by kernel_rfl) (Bs.room30.mono (by decide)) ?_
    intro w mg fa h Y G hmg0
    obtain ⟨K, KX, c⟩ := Y
    have hmg : mg ("law" : PySem.Str) = some (.ref fa) := by
      have e : (HandSHeadRun.topDef Bs.Rw.prog 35).name = ("law" : PySem.Str) := by kernel_rfl
      rw [← e]
      exact hmg0
    obtain ⟨fd, hb, hF⟩ := Bs.facts (P := (PySem.Challenge.rw_bitsolve_k16_whole_words_as_numbers_and).prog) (w := w) KX G hmg c
    exact ⟨K, fd, Bs.sp_law K, KX, hb, fun H a ns hl hbits hS => ⟨a, ns, rfl, hS, hl, fun _ _ => rfl⟩, hF⟩
