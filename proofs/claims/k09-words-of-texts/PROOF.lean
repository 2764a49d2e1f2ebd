import PyProof.Rows.All
import Wide.All
import OpenK.AllK
import Wide.FinOn
import PyProof.ReprRoads
import KE.KExcIs
import HandS.ForMost
import HandS.ForExc
import HandS.Defaults
import HandS.Wide
import HandS.WideBits
import HandS.ExcInit
import HandS.ExcField
import HandS.Property
import HandS.MakeKw
import HandS.IsInst
import HandS.Style
import HandS.TupAny
import HandS.Codes
import HandS.MakeKwOnly
import HandS.ExcIs
import PyProof.ReprLen
import KE.KOpsOwn
import PyProof.StrReplace2
import PyProof.TwoTypes
import PyProof.Walk
import PyProof.WalkLemmas
import HandS.Spec
import HandS.EndBits
import HandS.HeadNt
import HandS.Head0
import HandS.Head1
import HandS.Head2
import HandS.Small
import HandS.WordsDict
import HandS.Comp
import PyProof.SliceList
import KE.KRevSl
import PyProof.SliceStr2
import HandS.Text
import HandS.Call
import PySem.Challenge.RW_bitsolve_k09_words_of_texts
set_option Elab.async false
set_option linter.all false
set_option maxRecDepth 100000
set_option maxHeartbeats 4000000
set_option Elab.async false
set_option linter.all false
set_option maxRecDepth 100000
set_option maxHeartbeats 2000000
/-! Rules of my own over the hand layer; law-independent. -/
namespace Bs
open PySem PySem.Spec PySem.Calls PyProof.Rows L2

/-! ### integer operators at full width -/
section
variable {X : Cx}
theorem mok_l {i j : Int} (h1 : -(2 ^ 64) < i) (h2 : i < 2 ^ 64) : IntMulOk i j := CMul.ok (.inl ⟨h1, h2⟩)
theorem mok_r {i j : Int} (h1 : -(2 ^ 64) < j) (h2 : j < 2 ^ 64) : IntMulOk i j := CMul.ok (.inr ⟨h1, h2⟩)
theorem mok_w {i j : Int} (a b : Nat) (ha : i.natAbs < 2 ^ a) (hb : j.natAbs < 2 ^ b) (h : a + b ≤ 134217728) : IntMulOk i j := (mulx_ok ha hb h).ok
theorem op_mulO : OpR X (binaryOp .Mult) (rI IntMulOk fun i j => .int (i * j)) := opI fun _ _ _ _ _ _ _ hc q => mul_int q hc
def CFd (_ j : Int) : Prop := j ≠ 0 ∧ j.natAbs.log2 < 9000
theorem cfd {i j : Int} (b : Nat) (h : j ≠ 0) (hb : j.natAbs < 2 ^ b) (h0 : 0 < b) (h9 : b ≤ 9000) : CFd i j := ⟨h, Nat.lt_of_lt_of_le (PySem.Flt.log2_lt_of h0 hb) h9⟩
theorem op_fdivF : OpR X (binaryOp .FloorDiv) (rI CFd fun i j => .int (i.fdiv j)) := opI fun _ _ _ _ _ _ _ hc q => floordiv_int hc.1 q (.inl (PyProof.noPylong_of_log2 hc.2))
theorem cdivw {i j : Int} (b : Nat) (h : 0 < j) (hb : j.natAbs < 2 ^ b) (h0 : 0 < b) (h9 : b ≤ 9000) : CDivW i j := wide_div h hb h0 h9
def CPw (i j : Int) : Prop := 0 ≤ j ∧ (Builtin.Int.intBits i : Int) * j ≤ 2 ^ 27
theorem cpw {i j : Int} (b : Nat) (h : 0 ≤ j) (hb : i.natAbs < 2 ^ b) (hl : (b : Int) * j ≤ 134217728) : CPw i j := by
  refine ⟨h, ?_⟩
  have h1 := PyProof.Rows.intBits_le hb
  have h2 : (Builtin.Int.intBits i : Int) * j ≤ (b : Int) * j := Int.mul_le_mul_of_nonneg_right (by omega) h
  have h3 : (2 : Int) ^ 27 = 134217728 := by decide
  omega
theorem op_powW : OpR X (binaryOp .Pow) (rI CPw fun i j => .int (i ^ j.toNat)) := opI fun _ _ _ _ _ _ _ hc q => pow_int hc.1 hc.2 q
theorem cshl {i : Int} {j : Int} (n : Nat) (h0 : 0 ≤ j) (h : i.natAbs < 2 ^ n) (hn : (n : Int) + j ≤ 134217728) : CShl i j := by
  have b := PyProof.Rows.intBits_le h
  have e : (2 : Int) ^ 27 = 134217728 := by decide
  refine ⟨h0, ?_⟩
  rw [e]
  omega
end

/-! ### repr of data -/
def rRepr (K : PySem.W.Frag) : List V → Hp → VK → Prop := fun xs H Q => ∃ x d, xs = [x] ∧ Dp K H x d ∧ d.showable = true ∧ d.hasDict = false ∧ d.depth ≤ 60 ∧ d.shown.length ≤ sizeLine ∧ Q (.str d.shown) H
theorem call_reprD {X : Cx} {k : Nat} (hg : X.A.guards = some []) (hr : Room k X.A) : CallR X (.builtin "repr") (rRepr X.K) := by
  intro pins s σ H xs us Q I r h
  obtain ⟨x, d, rfl, hd, hs, hn, hdp, hz, q⟩ := h
  cases r with
  | @cons _ u _ ur rx rr =>
    cases rr
    have fin : ∀ (hh : Heap) (tk : Tok) (u' : Tok), (∀ b o, s.heap.get? b = some o → hh.get? b = some o) → EP X pins σ Q (.str d.shown u') { s with heap := hh, toks := tk } :=
      fun hh tk u' hk => ⟨.str d.shown, H, I.kept hk, ⟨_, rfl⟩, q⟩
    cases hd with
    | non =>
      obtain rfl : u = Value.none := rx
      exact P.repr_of_none (fin _ _ _ fun _ _ z => z)
    | bl b =>
      obtain rfl : u = Value.bool b := rx
      exact P.repr_of_bool (fin _ _ _ fun _ _ z => z)
    | int i =>
      obtain ⟨t, rfl⟩ := rx
      exact P.repr_of_int (of_decide_eq_true hs) (fin _ _ _ fun _ _ z => z)
    | str y =>
      obtain ⟨t, rfl⟩ := rx
      exact P.repr_of_str (fin _ _ _ fun _ _ z => z) hz
    | lst hl ha =>
      obtain ⟨as, rd⟩ := Dp.reads I _ _ u (.lst hl ha) rx
      obtain rfl := rx
      exact repr_of_reads' rd hs (PyData.noDict_hsm hn) hg (by have := hr.un; omega) (fun _ _ z => z) (fun h' u' tk hk => fin h' tk u' hk) hz
    | tup hl ha =>
      obtain ⟨as, rd⟩ := Dp.reads I _ _ u (.tup hl ha) rx
      obtain rfl := rx
      exact repr_of_reads' rd hs (PyData.noDict_hsm hn) hg (by have := hr.un; omega) (fun _ _ z => z) (fun h' u' tk hk => fin h' tk u' hk) hz

/-! ### defs that must know that no repr is under way -/
structure FnG (P : Program) (w : World) (K : PySem.W.Frag) (mg : Str → Option Value) (base : Heap) (CX : CXT) (k : Nat) (f : Addr) (fd : FuncData) (ps : List Str) (sp : Sp) : Prop where
  ln : ∀ vs H Q E, sp vs H Q E → vs.length = ps.length
  go : ∀ (A : Around) (outer : List Env) (s : Shared) (H : Hp) (args : Args) (us : List Value) (vs : List V) (Q : VK) (E : XK), A.guards = some [] → Room k A → Env0 P w K mg base A outer s H →
    BindsTo s fd args (ps.zip us) → Vals vs us → sp vs H Q E → codeAny (model P w) A (.call (.ref f) args) (CR CX outer P w H s Q E) s
section
variable {P : Program} {w : World} {K : PySem.W.Frag} {mg : Str → Option Value} {base : Heap} {CX : CXT}
theorem FnG.of {k : Nat} {f : Addr} {fd : FuncData} {ps : List Str} {sp : Sp} (F : FnOk P w K mg base CX k f fd ps sp) : FnG P w K mg base CX k f fd ps sp :=
  ⟨F.len, fun A o s H args us vs Q E _ hr => F.run A o s H args us vs Q E hr⟩
theorem FnG.mono {j k : Nat} {f : Addr} {fd : FuncData} {ps : List Str} {sp : Sp} (F : FnG P w K mg base CX j f fd ps sp) (h : j ≤ k) : FnG P w K mg base CX k f fd ps sp :=
  ⟨F.ln, fun A o s H args us vs Q E g hr => F.go A o s H args us vs Q E g (hr.mono h)⟩
/-- a def by its body, the guards told -/
theorem FunD_okG {x qual : Str} {pa : Arguments} {bd : List Stmt} {sc : Scope} {dvs : List V} {kws : List (Str × V)} {f : Addr} {fd : FuncData} {N ps : List Str} {k : Nat} {sp : Sp} (F : FunD K x qual pa bd sc dvs kws f fd) (S : FnScope N ps sc)
    (len : ∀ vs H Q E, sp vs H Q E → vs.length = ps.length)
    (hbody : ∀ (cdv : Value) (A : Around) (outer : List Env) (s : Shared) (H : Hp) (vs : List V) (Q : VK) (E : XK), (A.deeper (envOfC qual sc s.heap.objs.size f cdv)).guards = some [] →
      Room k (A.deeper (envOfC qual sc s.heap.objs.size f cdv)) → sp vs H Q E →
      ∃ t, PSs (cxOf CX P w K mg base N qual sc f cdv A outer s H E) bd t ∧ t { nx := fun _ H' => Q .non H', rt := Q } (start N vs) H) : FnG P w K mg base CX (k + 1) f fd ps sp := by
  obtain ⟨oc, od, dV, kV, doc, pm, an, cdv, ct, osl, rfl, lk, hcd, _, _⟩ := F.ex
  constructor
  · exact len
  · intro A outer s H args us vs Q E gd hr e0 hb rv hsp
    have KS : K.In s.heap := e0.mod.kin.keeps (fun b o z => (e0.bs b o z).1)
    have nolim : s.heap.NoLimit := e0.mod.nolimit.keeps (fun b o z => (e0.bs b o z).1)
    refine codeAny_call_function hr.depth (KS _ _ lk) rfl S.co S.gen rfl (PySem.W.codeRec_of KS hcd) (hb _ _ _ _ ?_)
    refine wpAny_newFunctionEnv_cells S.kind ?_ ?_
    · rintro ⟨nm, val⟩ hm
      have hp := (List.of_mem_zip hm).1
      rcases S.par nm hp with q | q
      · left
        exact q
      · right
        exact ⟨q, PySem.W.cellsFrom_some _ _ _ (.inl q)⟩
    · intro env he s1 xc
      subst he
      refine ⟨nolim.keeps xc.toInCall.keep, codeAny_func ?_⟩
      obtain ⟨t, ht, hq⟩ := hbody cdv A outer s H vs Q E gd (hr.deeper _) hsp
      have J := inv_start (CX := CX) (E := E) S hr.hd e0 (len _ _ _ _ hsp) rv xc
      refine wpAny_mono (ht.run [] s1 (start N vs) H _ J hq) ?_ (fun _ _ z => z)
      intro fl s' hs
      cases fl with
      | brk =>
        obtain ⟨_, _, _, z⟩ := hs
        exact z.elim
      | cont =>
        obtain ⟨_, _, _, z⟩ := hs
        exact z.elim
      | next =>
        obtain ⟨σ', H', I', q⟩ := hs
        exact ⟨V.non, H', I'.os, I'.bare, I'.base, I'.hok, rfl, q⟩
      | ret u =>
        obtain ⟨v, σ', H', I', ru, q⟩ := hs
        exact ⟨v, H', I'.os, I'.bare, I'.base, I'.hok, ru, q⟩
end
section
variable {X : Cx} {CX : CXT} {k : Nat} {f : Addr} {fd : FuncData} {ps : List Str} {sp : Sp} {E : XK} {x : Str} {p pos : Pos} {e : Expr} {es : List Expr} {t : TA}
/-- a call of such a def, every parameter written -/
theorem pe_callG (F : FnG X.prog X.w X.K X.mg X.base CX k f fd ps sp) (gd : X.A.guards = some []) (hr : Room k X.A) (hg : Gl X x) (hm : X.mg x = some (.ref f)) (hk : PySem.W.keepIn X.K (.ref f) = true) (hb : Binds X.K fd ps [])
    (hx : Passes CX X E) (ha : PA X (e :: es) t) (hdb : (x == ("__debug__" : Str)) = false := by decide) (he : starEach (e :: es) X.env = (false, eval e X.env) :: starEach es X.env := by rfl)
    (hpl : (backTo pos (starEach es X.env)).any (·.1) = false := by rfl) : PE X (.Call (.Name x p) (e :: es) [] pos) (tCall sp [] E t) := by
  constructor
  intro pins s σ H Q I h
  refine wpAny_Call_Name_kw (ld_glob I hg hm ?_ hdb)
  refine PySem.W.callWith_K (h₀ := X.base) I.ok.mod.kin hk (thn (ha.run pos pins s σ H _ I h) ?_) he hpl
  rintro us s1 ⟨vs, H1, I1, r, q⟩
  rw [List.append_nil] at q
  have hl : us.length = ps.length := r.length.symm.trans (F.ln _ _ _ _ q)
  have bb := hb s1 us I1.kIn (by rw [List.append_nil]; exact hl)
  rw [List.append_nil] at bb
  refine ⟨I1.kIn, wpAny_call (codeAny_mono (F.go X.A X.stack s1 H1 ⟨us, []⟩ us vs Q E gd hr I1.env0 bb r q) ?_)⟩
  intro rs s2 hq
  cases rs with
  | error er => exact hx pins σ H1 s1 er s2 I1 hq
  | ok fl =>
    cases fl with
    | ret u => exact I1.after hq
    | next => exact hq.elim
    | brk => exact hq.elim
    | cont => exact hq.elim
end
end Bs

namespace Bs
open PySem PySem.Spec PySem.Calls PyProof.Rows L2
/-- the built-in names that the text's top leaves alone -/
structure Bi (mg : Str → Option Value) : Prop where
  abs : mg "abs" = none
  len : mg "len" = none
  max : mg "max" = none
  min : mg "min" = none
  int : mg "int" = none
  range : mg "range" = none
  isinstance : mg "isinstance" = none
  repr : mg "repr" = none
  tuple : mg "tuple" = none
  sum : mg "sum" = none
  enumerate : mg "enumerate" = none
  zip : mg "zip" = none
  sorted : mg "sorted" = none
  set : mg "set" = none
  str : mg "str" = none
  divmod : mg "divmod" = none
  any : mg "any" = none
  all : mg "all" = none
  list : mg "list" = none
  bool : mg "bool" = none
  ValueError : mg "ValueError" = none
  TypeError : mg "TypeError" = none
  dict : mg "dict" = none
  next : mg "next" = none
/-- a def by its name and promise -/
structure Fo (P : Program) (w : World) (K : PySem.W.Frag) (mg : Str → Option Value) (base : Heap) (CX : CXT) (k : Nat) (x : Str) (ps : List Str) (sp : Sp) : Prop where
  ex : ∃ (f : Addr) (fd : FuncData), FnOk P w K mg base CX k f fd ps sp ∧ mg x = some (.ref f) ∧ PySem.W.keepIn K (.ref f) = true ∧ Binds K fd ps []
structure FoG (P : Program) (w : World) (K : PySem.W.Frag) (mg : Str → Option Value) (base : Heap) (CX : CXT) (k : Nat) (x : Str) (ps : List Str) (sp : Sp) : Prop where
  ex : ∃ (f : Addr) (fd : FuncData), FnG P w K mg base CX k f fd ps sp ∧ mg x = some (.ref f) ∧ PySem.W.keepIn K (.ref f) = true ∧ Binds K fd ps []
section
variable {X : Cx} {CX : CXT} {j k : Nat} {ps : List Str} {sp : Sp} {E : XK} {x : Str} {p pos : Pos} {e : Expr} {es : List Expr} {t : TA}
theorem pe_fo (c : Fo X.prog X.w X.K X.mg X.base CX0 k x ps sp) (hr : Room j X.A) (hk : k ≤ j) (ha : PA X (e :: es) t) (hg : Gl X x := by rfl) (hdb : (x == ("__debug__" : Str)) = false := by decide)
    (he : starEach (e :: es) X.env = (false, eval e X.env) :: starEach es X.env := by rfl) (hpl : (backTo pos (starEach es X.env)).any (·.1) = false := by rfl) : PE X (.Call (.Name x p) (e :: es) [] pos) (tCall sp [] E0 t) := by
  obtain ⟨f, fd, F, hm, kp, hb⟩ := c.ex
  exact pe_call F (hr.mono hk) hg hm kp hb .nil pass0 ha hdb he hpl
theorem pe_foX (c : Fo X.prog X.w X.K X.mg X.base (L2.CX X.prog X.w) k x ps sp) (hr : Room j X.A) (hk : k ≤ j) (ha : PA X (e :: es) t) (hg : Gl X x := by rfl) (hdb : (x == ("__debug__" : Str)) = false := by decide)
    (he : starEach (e :: es) X.env = (false, eval e X.env) :: starEach es X.env := by rfl) (hpl : (backTo pos (starEach es X.env)).any (·.1) = false := by rfl) : PE X (.Call (.Name x p) (e :: es) [] pos) (tCall sp [] E0 t) := by
  obtain ⟨f, fd, F, hm, kp, hb⟩ := c.ex
  exact pe_call F (hr.mono hk) hg hm kp hb .nil passL ha hdb he hpl
theorem pe_foG (c : FoG X.prog X.w X.K X.mg X.base CX0 k x ps sp) (gd : X.A.guards = some []) (hr : Room j X.A) (hk : k ≤ j) (ha : PA X (e :: es) t) (hg : Gl X x := by rfl) (hdb : (x == ("__debug__" : Str)) = false := by decide)
    (he : starEach (e :: es) X.env = (false, eval e X.env) :: starEach es X.env := by rfl) (hpl : (backTo pos (starEach es X.env)).any (·.1) = false := by rfl) : PE X (.Call (.Name x p) (e :: es) [] pos) (tCall sp [] E0 t) := by
  obtain ⟨f, fd, F, hm, kp, hb⟩ := c.ex
  exact pe_callG F gd (hr.mono hk) hg hm kp hb pass0 ha hdb he hpl
end
end Bs

set_option Elab.async false
set_option linter.all false
set_option maxRecDepth 100000
set_option maxHeartbeats 2000000
/-! Reading lemmas: one for each combinator, main continuation last; and the tactic that walks them. -/
namespace Bs
open PySem PySem.Spec PyProof.Rows L2
section
variable {σ : L2.St} {H : Hp} {Q : VK} {D : Ends} {K : PySem.W.Frag}
theorem r_var {i : Nat} {v : V} (h : σ[i]? = some (some v)) (k : Q v H) : tVar i σ H Q := ⟨v, h, k⟩
theorem r_c {v : V} (k : Q v H) : tC v σ H Q := k
theorem r_op {r : R2} {ta tb : TE} (k : ta σ H fun x H1 => tb σ H1 fun y H2 => r x y H2 Q) : tOp r ta tb σ H Q := k
theorem r_un {r : V → Hp → VK → Prop} {ta : TE} (k : ta σ H fun x H1 => r x H1 Q) : tUn r ta σ H Q := k
theorem r_test {t : TE} {Q : Bool → Hp → Prop} (k : t σ H fun x H' => ∃ b, x = .bl b ∧ Q b H') : tTest t σ H Q := k
theorem r_tB {t : TE} {Q : Bool → Hp → Prop} (k : t σ H fun x H' => ∃ b, x = .bl b ∧ Q b H') : tB t σ H Q := k
theorem r_isbl {b : Bool} {Q : Bool → Prop} (k : Q b) : ∃ c, V.bl b = .bl c ∧ Q c := ⟨b, rfl, k⟩
theorem r_and {t u : TT} {Q : Bool → Hp → Prop} (k : t σ H fun c H1 => if c = true then u σ H1 Q else Q false H1) : tAnd t u σ H Q := k
theorem r_or {t u : TT} {Q : Bool → Hp → Prop} (k : t σ H fun c H1 => if c = true then Q true H1 else u σ H1 Q) : tOr t u σ H Q := k
theorem r_not {t : TT} {Q : Bool → Hp → Prop} (k : t σ H fun c H1 => Q (!c) H1) : tNot t σ H Q := k
theorem r_andV {ta tb : TE} (k : ta σ H fun x H1 => ∃ c, x = .bl c ∧ if c = true then tb σ H1 Q else Q (.bl false) H1) : tAndV ta tb σ H Q := k
theorem r_orV {ta tb : TE} (k : ta σ H fun x H1 => ∃ c, x = .bl c ∧ if c = true then Q (.bl true) H1 else tb σ H1 Q) : tOrV ta tb σ H Q := k
theorem r_notV {ta : TE} (k : ta σ H fun x H1 => ∃ c, x = .bl c ∧ Q (.bl (!c)) H1) : tNotV ta σ H Q := k
theorem r_if {t : TT} {ta tb : TE} (k : t σ H fun c H1 => if c = true then ta σ H1 Q else tb σ H1 Q) : tIf t ta tb σ H Q := k
theorem r_isN {ta : TE} (k : ta σ H fun x H1 => Q (.bl (decide (x = .non))) H1) : tIsN ta σ H Q := k
theorem r_notN {ta : TE} (k : ta σ H fun x H1 => Q (.bl (!decide (x = .non))) H1) : tNotN ta σ H Q := k
theorem r_nil {Q : List V → Hp → Prop} (k : Q [] H) : tNil σ H Q := k
theorem r_cons {ta : TE} {tr : TA} {Q : List V → Hp → Prop} (k : ta σ H fun x H1 => tr σ H1 fun xs H2 => Q (x :: xs) H2) : tCons ta tr σ H Q := k
def cTup (Q : VK) (xs : List V) (H : Hp) : Prop := xs.length ≤ sizeLine ∧ ∀ p, H p = none → Q (.ref p) (upd H p (.tup xs))
def cLst (Q : VK) (xs : List V) (H : Hp) : Prop := xs.length ≤ sizeLine ∧ ∀ p, H p = none → Q (.ref p) (upd H p (.lst xs))
theorem r_tup {t : TA} (k : t σ H (cTup Q)) : tTup t σ H Q := k
theorem r_lst {t : TA} (k : t σ H (cLst Q)) : tLst t σ H Q := k
theorem r_small {n : Nat} {A : Prop} (h : n ≤ 100 := by decide) (k : A) : n ≤ sizeLine ∧ A := ⟨Nat.le_trans h (by decide), k⟩
theorem r_CB {r : List V → Hp → VK → Prop} {t : TA} (k : t σ H fun vs H1 => r vs H1 Q) : tCB r t σ H Q := k
theorem r_call {sp : Sp} {dvs : List V} {E : XK} {t : TA} (k : t σ H fun vs H1 => sp (vs ++ dvs) H1 Q E) : tCall sp dvs E t σ H Q := k
theorem r_meth {C : Addr} {m : Str} {sp : Sp} {dvs : List V} {E : XK} {ta : TE} {t : TA} (k : ta σ H fun x H1 => ∃ a dx fs, x = .ref a ∧ H1 a = some (.ins C dx fs) ∧ fs.lookup m = none ∧ t σ H1 fun vs H2 => sp (x :: (vs ++ dvs)) H2 Q E) : tMeth C m sp dvs E ta t σ H Q := k
theorem r_prop {C : Addr} {sp : Sp} {dvs : List V} {E : XK} {ta : TE} (k : ta σ H fun x H1 => ∃ a dx fs, x = .ref a ∧ H1 a = some (.ins C dx fs) ∧ sp (.ref a :: dvs) H1 Q E) : tProp C sp dvs E ta σ H Q := k
theorem r_make {C : Addr} {sp : Sp} {dvs : List V} {E : XK} {t : TA} (k : t σ H fun vs H1 => ∀ x dx, H1 x = none → H1 dx = none → dx ≠ x → sp (.ref x :: (vs ++ dvs)) (upd (upd H1 dx (.own x)) x (.ins C dx [])) (fun v H2 => v = .non ∧ Q (.ref x) H2) E) : tMake C sp dvs E t σ H Q := k
def cGf (K : PySem.W.Frag) (f : Str) (Q : VK) (x : V) (H1 : Hp) : Prop := ∃ a C dx fs v, x = .ref a ∧ H1 a = some (.ins C dx fs) ∧ Cls K C ∧ NoAttr K C f ∧ fs.lookup f = some v ∧ Q v H1
theorem r_fld {ta : TE} {f : Str} (k : ta σ H (cGf K f Q)) : tFld K ta f σ H Q := k
/-! statements -/
theorem r_seq {t u : TS} (k : t { D with nx := u D } σ H) : tSeq t u D σ H := k
theorem r_cut {t u : TS} (M : L2.St → Hp → Prop) (h : t { D with nx := M } σ H) (k : ∀ σ' H', M σ' H' → u D σ' H') : C8.tCut t u D σ H := ⟨M, h, k⟩
theorem r_next (k : D.nx σ H) : tNext D σ H := k
theorem r_asgN {te : TE} {i : Nat} (k : te σ H fun x H1 => D.nx (σ.set i (some x)) H1) : tAsg te (gName i) D σ H := k
theorem r_asgT {te : TE} {n : Nat} {g : TGs} (k : te σ H fun x H1 => gTup K n g x σ H1 D.nx) : tAsg te (gTup K n g) D σ H := k
theorem r_asgS {te to ti : TE} {t : TSet} (k : te σ H fun x H1 => to σ H1 fun o H2 => ti σ H2 fun i H3 => t o i x H3 fun H4 => D.nx σ H4) : tAsg te (gSub to ti t) D σ H := k
theorem r_par {i j : Nat} {ta : TA} (k : ta σ H fun vs H1 => ∃ v w, vs = [v, w] ∧ D.nx ((σ.set i (some v)).set j (some w)) H1) : tPar i j ta D σ H := k
theorem r_par3 {i j l : Nat} {ta : TA} (k : ta σ H fun vs H1 => ∃ v w u, vs = [v, w, u] ∧ D.nx (((σ.set i (some v)).set j (some w)).set l (some u)) H1) : tPar3 i j l ta D σ H := k
theorem r_tri {v w u : V} {A : V → V → V → Prop} (k : A v w u) : ∃ x y z, [v, w, u] = [x, y, z] ∧ A x y z := ⟨v, w, u, rfl, k⟩
theorem r_drop {te : TE} (k : te σ H fun _ H1 => D.nx σ H1) : tDrop te D σ H := k
theorem r_ret {te : TE} (k : te σ H D.rt) : tRet te D σ H := k
theorem r_retN (k : D.rt .non H) : tRetN D σ H := k
theorem r_ifS {c : TT} {t u : TS} (k : c σ H fun b H1 => if b = true then t D σ H1 else u D σ H1) : tIfS c t u D σ H := k
theorem r_pair {v w : V} {A : V → V → Prop} (k : A v w) : ∃ x y, [v, w] = [x, y] ∧ A x y := ⟨v, w, rfl, k⟩
/-! values -/
theorem r_I0 {g : Int → Int → V} {i j : Int} (k : Q (g i j) H) : rI0 g (.int i) (.int j) H Q := ⟨i, j, rfl, rfl, k⟩
theorem r_I {C : Int → Int → Prop} {g : Int → Int → V} {i j : Int} (c : C i j) (k : Q (g i j) H) : rI C g (.int i) (.int j) H Q := ⟨i, j, rfl, rfl, c, k⟩
theorem r_U {g : Int → V} {i : Int} (k : Q (g i) H) : rU g (.int i) H Q := ⟨i, rfl, k⟩
theorem r_eq {x y : V} (s : scal x y = true) (k : Q (.bl (decide (x = y))) H) : rEq x y H Q := ⟨s, k⟩
theorem r_ne {x y : V} (s : scal x y = true) (k : Q (.bl (!decide (x = y))) H) : rNe x y H Q := ⟨s, k⟩
theorem r_ixL {p : Addr} {xs : List V} {i : Int} {v : V} (h : SqL K H p xs) (a : atI xs i = some v) (k : Q v H) : rIxL K (.ref p) (.int i) H Q := ⟨p, xs, i, v, rfl, rfl, h, a, k⟩
theorem r_ixT {p : Addr} {xs : List V} {i : Int} {v : V} (h : SqT K H p xs) (a : atI xs i = some v) (k : Q v H) : rIxT K (.ref p) (.int i) H Q := ⟨p, xs, i, v, rfl, rfl, h, a, k⟩
theorem r_setL {p : Addr} {xs : List V} {i : Int} {j : Nat} {v : V} {R : Hp → Prop} (h : H p = some (.lst xs)) (a : ixN xs.length i = some j) (k : R (upd H p (.lst (xs.set j v)))) : rSetL (.ref p) (.int i) v H R := ⟨p, xs, i, j, rfl, rfl, h, a, k⟩
/-! branches -/
theorem i_tt {A B : Prop} (k : A) : if true = true then A else B := iteT k
theorem i_ff {A B : Prop} (k : B) : if false = true then A else B := iteF k
theorem i_int {a b : Int} {A B : Prop} (h1 : a = b → A) (h2 : a ≠ b → B) : if decide (V.int a = V.int b) = true then A else B := by
  by_cases h : a = b
  · rw [if_pos (by rw [h]; simp)]; exact h1 h
  · rw [if_neg (by simpa using h)]; exact h2 h
theorem i_intN {a b : Int} {A B : Prop} (h1 : a ≠ b → A) (h2 : a = b → B) : if (!decide (V.int a = V.int b)) = true then A else B := by
  by_cases h : a = b
  · rw [if_neg (by rw [h]; simp)]; exact h2 h
  · rw [if_pos (by simpa using h)]; exact h1 h
theorem i_str {a b : Str} {A B : Prop} (h1 : a = b → A) (h2 : a ≠ b → B) : if decide (V.str a = V.str b) = true then A else B := by
  by_cases h : a = b
  · rw [if_pos (by rw [h]; simp)]; exact h1 h
  · rw [if_neg (by simpa using h)]; exact h2 h
theorem i_strN {a b : Str} {A B : Prop} (h1 : a ≠ b → A) (h2 : a = b → B) : if (!decide (V.str a = V.str b)) = true then A else B := by
  by_cases h : a = b
  · rw [if_neg (by rw [h]; simp)]; exact h2 h
  · rw [if_pos (by simpa using h)]; exact h1 h
theorem i_dec {p : Prop} [Decidable p] {A B : Prop} (h1 : p → A) (h2 : ¬ p → B) : if decide p = true then A else B := by
  by_cases h : p
  · rw [if_pos (decide_eq_true h)]; exact h1 h
  · rw [if_neg (by simpa using h)]; exact h2 h
theorem i_decN {p : Prop} [Decidable p] {A B : Prop} (h1 : ¬ p → A) (h2 : p → B) : if (!decide p) = true then A else B := by
  by_cases h : p
  · rw [if_neg (by simpa using h)]; exact h2 h
  · rw [if_pos (by simpa using h)]; exact h1 h
theorem i_non {v : V} {A B : Prop} (h : v ≠ .non) (k : B) : if decide (v = V.non) = true then A else B := by
  rw [if_neg (by simpa using h)]; exact k
theorem i_nonT {A B : Prop} (k : A) : if decide (V.non = V.non) = true then A else B := iteT k
/-- while: W a word of the measure, the slots and the heap -/
theorem r_while {c : TT} {tb : TS} (W : Nat → L2.St → Hp → Prop) (m : Nat) (h0 : W m σ H) (hs : ∀ m σ H, W m σ H → c σ H fun b H1 => if b = true then ∃ N : L2.St → Hp → Prop, (∀ σ' H', N σ' H' → ∃ m', m' < m ∧ W m' σ' H') ∧ tb { D with nx := N, ct := N, bk := D.nx } σ H1 else D.nx σ H1) :
    tWhile c tb D σ H := ⟨W, ⟨m, h0⟩, hs⟩
theorem r_turn {W : Nat → L2.St → Hp → Prop} {m : Nat} {tb : TS} (k : tb { D with nx := fun σ' H' => ∃ m', m' < m ∧ W m' σ' H', ct := fun σ' H' => ∃ m', m' < m ∧ W m' σ' H', bk := D.nx } σ H) :
    ∃ N : L2.St → Hp → Prop, (∀ σ' H', N σ' H' → ∃ m', m' < m ∧ W m' σ' H') ∧ tb { D with nx := N, ct := N, bk := D.nx } σ H := ⟨_, fun _ _ h => h, k⟩
end
/-! built-in calls by name -/
def rAbs : List V → Hp → VK → Prop := fun xs H Q => ∃ i, xs = [.int i] ∧ Q (.int (i.natAbs : Int)) H
theorem cb_abs {X : Cx} : CallR X (.builtin "abs") rAbs := fun pins s σ H xs us Q I r ⟨i, e, q⟩ => call_abs pins s σ H xs us Q I r ⟨i, e, by
  have : (if i < 0 then -i else i) = (i.natAbs : Int) := by split <;> omega
  rw [this]; exact q⟩
theorem r_abs {H : Hp} {Q : VK} {i : Int} (k : Q (.int (i.natAbs : Int)) H) : rAbs [.int i] H Q := ⟨i, rfl, k⟩
def rInt1 : List V → Hp → VK → Prop := fun xs H Q => (∃ i, xs = [.int i] ∧ Q (.int i) H) ∨ ∃ k, xs = [.bl k] ∧ Q (.int (if k then 1 else 0)) H
theorem cb_int1 {X : Cx} : CallR X (.type "int") rInt1 := call_int1
theorem r_int1 {H : Hp} {Q : VK} {i : Int} (k : Q (.int i) H) : rInt1 [.int i] H Q := .inl ⟨i, rfl, k⟩
theorem r_int1b {H : Hp} {Q : VK} {b : Bool} (k : Q (.int (if b then 1 else 0)) H) : rInt1 [.bl b] H Q := .inr ⟨b, rfl, k⟩
def rMax2 : List V → Hp → VK → Prop := fun xs H Q => ∃ i j, xs = [.int i, .int j] ∧ Q (.int (max i j)) H
def rMin2 : List V → Hp → VK → Prop := fun xs H Q => ∃ i j, xs = [.int i, .int j] ∧ Q (.int (min i j)) H
theorem cb_max2 {X : Cx} (hc : X.calm = true) : CallR X (.builtin "max") rMax2 := fun pins s σ H xs us Q I r ⟨i, j, e, q⟩ => call_max2 hc pins s σ H xs us Q I r ⟨i, j, e, by
  have : (if j > i then j else i) = max i j := by split <;> omega
  rw [this]; exact q⟩
theorem cb_min2 {X : Cx} (hc : X.calm = true) : CallR X (.builtin "min") rMin2 := fun pins s σ H xs us Q I r ⟨i, j, e, q⟩ => call_min2 hc pins s σ H xs us Q I r ⟨i, j, e, by
  have : (if j < i then j else i) = min i j := by split <;> omega
  rw [this]; exact q⟩
theorem r_max2 {H : Hp} {Q : VK} {i j : Int} (k : Q (.int (max i j)) H) : rMax2 [.int i, .int j] H Q := ⟨i, j, rfl, k⟩
theorem r_min2 {H : Hp} {Q : VK} {i j : Int} (k : Q (.int (min i j)) H) : rMin2 [.int i, .int j] H Q := ⟨i, j, rfl, k⟩
def rLenS (K : PySem.W.Frag) : List V → Hp → VK → Prop := fun xs H Q => ∃ p ys, xs = [.ref p] ∧ (SqL K H p ys ∨ SqT K H p ys) ∧ Q (.int ys.length) H
theorem cb_len {X : Cx} : CallR X (.builtin "len") (rLenS X.K) := call_len_seq
theorem r_lenL {K : PySem.W.Frag} {H : Hp} {Q : VK} {p : Addr} {ys : List V} (h : SqL K H p ys) (k : Q (.int ys.length) H) : rLenS K [.ref p] H Q := ⟨p, ys, rfl, .inl h, k⟩
theorem r_lenT {K : PySem.W.Frag} {H : Hp} {Q : VK} {p : Addr} {ys : List V} (h : SqT K H p ys) (k : Q (.int ys.length) H) : rLenS K [.ref p] H Q := ⟨p, ys, rfl, .inr h, k⟩
theorem sqT_same {K : PySem.W.Frag} {H H' : Hp} {a : Addr} {xs : List V} (e : Same H H') (h : SqT K H a xs) : SqT K H' a xs := by
  rcases h with (h | ⟨o, h⟩) | h
  · exact .inl (.inl (e _ _ h))
  · exact .inl (.inr ⟨o, e _ _ h⟩)
  · exact .inr h
/-! ends -/
theorem r_rt {n b c : L2.St → Hp → Prop} {Q : VK} {v : V} {H : Hp} (k : Q v H) : (Ends.mk n Q b c).rt v H := k
theorem r_nx {n b c : L2.St → Hp → Prop} {Q : VK} {v : L2.St} {H : Hp} (k : n v H) : (Ends.mk n Q b c).nx v H := k
theorem r_bk {n b c : L2.St → Hp → Prop} {Q : VK} {v : L2.St} {H : Hp} (k : b v H) : (Ends.mk n Q b c).bk v H := k
theorem r_ct {n b c : L2.St → Hp → Prop} {Q : VK} {v : L2.St} {H : Hp} (k : c v H) : (Ends.mk n Q b c).ct v H := k
theorem at_map {ns : List Int} {k : Nat} (h : k < ns.length) : atI (ns.map V.int) (k : Int) = some (.int ns[k]) := atI_nat (by simp [h])
end Bs

set_option Elab.async false
set_option linter.all false
set_option maxRecDepth 100000
set_option maxHeartbeats 2000000
/-! Calls of defs and classes with any binding of arguments; what is raised is wished for at the caller's slots. -/
namespace Bs
open PySem PySem.Spec PySem.Calls PyProof.Rows L2
/-- how a call with n positional values and keywords ks binds -/
def Cb (K : PySem.W.Frag) (fd : FuncData) (ps : List Str) (n : Nat) (ks : List Str) (gV : List V → List V → List V) : Prop := ∃ g, KBn K fd ps n ks g gV
def tFnS (n m : Nat) (sp : Sp) (gV : List V → List V → List V) (E : L2.St → XK) (t tk : TA) : TE := fun σ H Q => t σ H fun vs H1 => tk σ H1 fun zs H2 => vs.length = n ∧ zs.length = m ∧ sp (gV vs zs) H2 Q (E σ)
def tMkS (C : Addr) (n m : Nat) (sp : Sp) (gV : List V → List V → List V) (E : L2.St → XK) (t tk : TA) : TE := fun σ H Q => t σ H fun vs H1 => tk σ H1 fun zs H2 => vs.length = n ∧ zs.length = m ∧
  ∀ x dx, H2 x = none → H2 dx = none → dx ≠ x → sp (gV (.ref x :: vs) zs) (upd (upd H2 dx (.own x)) x (.ins C dx [])) (fun v H3 => v = .non ∧ Q (.ref x) H3) (E σ)
theorem psE0 {X : Cx} {σ : L2.St} : PassesAt CX0 X σ E0 := fun _ _ _ _ _ _ h => h.elim
theorem psL0 {X : Cx} {σ : L2.St} : PassesAt (L2.CX X.prog X.w) X σ E0 := fun pins H s e s' I c => passL pins σ H s e s' I c
section
variable {X : Cx} {CX : CXT} {k n : Nat} {f C : Addr} {fd : FuncData} {ps ks : List Str} {sp : Sp} {E : L2.St → XK} {x : Str} {p pos : Pos} {e : Expr} {es : List Expr} {kws : List Keyword} {t tk : TA} {gV : List V → List V → List V}
theorem go_fn {pins : List (Addr × Obj)} {σ : L2.St} {H : Hp} {s : Shared} {Q : VK} {us ws : List Value} {vs zs : List V} (F : FnOk X.prog X.w X.K X.mg X.base CX k f fd ps sp) (hr : Room k X.A) (hb : Cb X.K fd ps n ks gV) (hx : PassesAt CX X σ (E σ))
    (I : Inv X pins σ H s) (r : Vals vs us) (rz : Vals zs ws) (l1 : vs.length = n) (l2 : zs.length = ks.length) (h : sp (gV vs zs) H Q (E σ)) : wpAny (model X.prog X.w) X.A (call (.ref f) us (ks.zip ws)) (EP X pins σ Q) X.xe s := by
  obtain ⟨g, hb⟩ := hb
  have bt := hb.to s us ws I.kIn (by rw [← r.length, l1]) (by rw [← rz.length, l2])
  apply wpAny_call
  apply codeAny_mono (F.run X.A X.stack s H ⟨us, ks.zip ws⟩ (g us ws) (gV vs zs) Q (E σ) hr I.env0 bt (hb.rel r rz) h)
  intro rs s2 q
  cases rs with
  | error er => exact hx pins H s er s2 I q
  | ok fl =>
    cases fl with
    | ret u => exact I.after q
    | next => exact q.elim
    | brk => exact q.elim
    | cont => exact q.elim
theorem go_mk {pins : List (Addr × Obj)} {σ : L2.St} {H : Hp} {s : Shared} {Q : VK} {us ws : List Value} {vs zs : List V} (M : Mk X.K C f) (F : FnOk X.prog X.w X.K X.mg X.base CX k f fd ps sp) (hr : Room (k + 1) X.A) (hb : Cb X.K fd ps (n + 1) ks gV)
    (hx : PassesAt CX X σ (E σ)) (I : Inv X pins σ H s) (r : Vals vs us) (rz : Vals zs ws) (l1 : vs.length = n) (l2 : zs.length = ks.length)
    (h : ∀ x dx, H x = none → H dx = none → dx ≠ x → sp (gV (.ref x :: vs) zs) (upd (upd H dx (.own x)) x (.ins C dx [])) (fun v H2 => v = .non ∧ Q (.ref x) H2) (E σ)) :
    wpAny (model X.prog X.w) X.A (call (.ref C) us (ks.zip ws)) (EP X pins σ Q) X.xe s := by
  obtain ⟨g, hb⟩ := hb
  have fr1 : H (s.heap.objs.size + 1) = none := I.hok.fresh (Nat.le_succ _)
  have fr0 : H s.heap.objs.size = none := I.hok.fresh (Nat.le_refl _)
  have hs := h _ _ fr1 fr0 (Nat.ne_of_lt (Nat.lt_succ_self _))
  have J := Inv.made (C := C) I
  have rv : Vals (V.ref (s.heap.objs.size + 1) :: vs) (Value.ref (s.heap.objs.size + 1) :: us) := .cons rfl r
  have bt := hb.to _ (Value.ref (s.heap.objs.size + 1) :: us) ws J.kIn (by rw [List.length_cons, ← r.length, l1]) (by rw [← rz.length, l2])
  have run := F.run _ X.stack _ _ ⟨Value.ref (s.heap.objs.size + 1) :: us, ks.zip ws⟩ _ _ _ (E σ) (hr.make C us (ks.zip ws)) (J.env0.make C us (ks.zip ws)) bt (hb.rel rv rz) hs
  apply wpAny_call
  apply make_map (f := f) I.kIn M.makes M.init (beq_iff_eq.mp M.fn)
  apply codeAny_mono run
  intro rs s2 q
  cases rs with
  | error er => exact hx pins _ _ er s2 J q
  | ok fl =>
    cases fl with
    | next => exact q.elim
    | brk => exact q.elim
    | cont => exact q.elim
    | ret u =>
      obtain ⟨v, H2, J2, ru, ev, q2⟩ := J.after q
      subst ev
      exact ⟨ru, V.ref (s.heap.objs.size + 1), H2, J2, rfl, q2⟩
/-- f(e, .., k = v, ..) -/
theorem pe_fnS (F : FnOk X.prog X.w X.K X.mg X.base CX k f fd ps sp) (hr : Room k X.A) (hm : X.mg x = some (.ref f)) (hk : PySem.W.keepIn X.K (.ref f) = true) (hb : Cb X.K fd ps n ks gV) (hx : ∀ σ, PassesAt CX X σ (E σ))
    (ha : PA X (e :: es) t) (hkw : PK X kws tk) (hg : Gl X x := by rfl) (hall : (backToKw pos (keywordEach kws X.env)).all (·.1.isSome) = true := by rfl) (hks : (backToKw pos (keywordEach kws X.env)).filterMap (·.1) = ks := by rfl)
    (hdb : (x == ("__debug__" : Str)) = false := by decide) (he : starEach (e :: es) X.env = (false, eval e X.env) :: starEach es X.env := by rfl)
    (hpl : ((backTo pos (starEach (e :: es) X.env)).any (·.1) || (backToKw pos (keywordEach kws X.env)).any (·.1.isNone)) = false := by rfl) :
    PE X (.Call (.Name x p) (e :: es) kws pos) (tFnS n ks.length sp gV E t tk) := by
  constructor
  intro pins s σ H Q I h
  apply wpAny_Call_Name_kw
  apply ld_glob I hg hm _ hdb
  refine PySem.W.callWith_KW (h₀ := X.base) I.ok.mod.kin hk hall (thn (ha.run pos pins s σ H _ I h) ?_) hpl he
  rintro us s1 ⟨vs, H1, I1, r, q⟩
  refine thn (hkw.run pos pins s1 σ H1 _ I1 q) ?_
  rintro ws s2 ⟨zs, H2, I2, rz, l1, l2, q2⟩
  refine ⟨I2.kIn, ?_⟩
  rw [hks]
  exact go_fn F hr hb (hx σ) I2 r rz l1 l2 q2
/-- f(k = v, ..) -/
theorem pe_fnS0 (F : FnOk X.prog X.w X.K X.mg X.base CX k f fd ps sp) (hr : Room k X.A) (hm : X.mg x = some (.ref f)) (hk : PySem.W.keepIn X.K (.ref f) = true) (hb : Cb X.K fd ps 0 ks gV) (hx : ∀ σ, PassesAt CX X σ (E σ))
    (hkw : PK X kws tk) (hg : Gl X x := by rfl) (hall : (backToKw pos (keywordEach kws X.env)).all (·.1.isSome) = true := by rfl) (hks : (backToKw pos (keywordEach kws X.env)).filterMap (·.1) = ks := by rfl)
    (hdb : (x == ("__debug__" : Str)) = false := by decide) (hpl : ((backTo pos (starEach [] X.env)).any (·.1) || (backToKw pos (keywordEach kws X.env)).any (·.1.isNone)) = false := by rfl) :
    PE X (.Call (.Name x p) [] kws pos) (tFnS 0 ks.length sp gV E tNil tk) := by
  constructor
  intro pins s σ H Q I h
  apply wpAny_Call_Name_kw
  apply ld_glob I hg hm _ hdb
  refine PySem.W.callWith_KW0 (h₀ := X.base) I.ok.mod.kin hk hall ?_ hpl
  refine thn (hkw.run pos pins s σ H _ I h) ?_
  rintro ws s2 ⟨zs, H2, I2, rz, l1, l2, q2⟩
  refine ⟨I2.kIn, ?_⟩
  rw [hks]
  exact go_fn (us := []) (vs := []) F hr hb (hx σ) I2 .nil rz rfl l2 q2
/-- C(e, .., k = v, ..) -/
theorem pe_mkS (M : Mk X.K C f) (F : FnOk X.prog X.w X.K X.mg X.base CX k f fd ps sp) (hr : Room (k + 1) X.A) (hm : X.mg x = some (.ref C)) (hb : Cb X.K fd ps (n + 1) ks gV) (hx : ∀ σ, PassesAt CX X σ (E σ)) (ha : PA X (e :: es) t) (hkw : PK X kws tk)
    (hg : Gl X x := by rfl) (hall : (backToKw pos (keywordEach kws X.env)).all (·.1.isSome) = true := by rfl) (hks : (backToKw pos (keywordEach kws X.env)).filterMap (·.1) = ks := by rfl)
    (hdb : (x == ("__debug__" : Str)) = false := by decide) (he : starEach (e :: es) X.env = (false, eval e X.env) :: starEach es X.env := by rfl)
    (hpl : ((backTo pos (starEach (e :: es) X.env)).any (·.1) || (backToKw pos (keywordEach kws X.env)).any (·.1.isNone)) = false := by rfl) :
    PE X (.Call (.Name x p) (e :: es) kws pos) (tMkS C n ks.length sp gV E t tk) := by
  constructor
  intro pins s σ H Q I h
  apply wpAny_Call_Name_kw
  apply ld_glob I hg hm _ hdb
  refine PySem.W.callWith_KW (h₀ := X.base) I.ok.mod.kin M.kp hall (thn (ha.run pos pins s σ H _ I h) ?_) hpl he
  rintro us s1 ⟨vs, H1, I1, r, q⟩
  refine thn (hkw.run pos pins s1 σ H1 _ I1 q) ?_
  rintro ws s2 ⟨zs, H2, I2, rz, l1, l2, q2⟩
  refine ⟨I2.kIn, ?_⟩
  rw [hks]
  exact go_mk M F hr hb (hx σ) I2 r rz l1 l2 q2
/-- C(k = v, ..) -/
theorem pe_mkS0 (M : Mk X.K C f) (F : FnOk X.prog X.w X.K X.mg X.base CX k f fd ps sp) (hr : Room (k + 1) X.A) (hm : X.mg x = some (.ref C)) (hb : Cb X.K fd ps (0 + 1) ks gV) (hx : ∀ σ, PassesAt CX X σ (E σ)) (hkw : PK X kws tk)
    (hg : Gl X x := by rfl) (hall : (backToKw pos (keywordEach kws X.env)).all (·.1.isSome) = true := by rfl) (hks : (backToKw pos (keywordEach kws X.env)).filterMap (·.1) = ks := by rfl)
    (hdb : (x == ("__debug__" : Str)) = false := by decide) (hpl : ((backTo pos (starEach [] X.env)).any (·.1) || (backToKw pos (keywordEach kws X.env)).any (·.1.isNone)) = false := by rfl) :
    PE X (.Call (.Name x p) [] kws pos) (tMkS C 0 ks.length sp gV E tNil tk) := by
  constructor
  intro pins s σ H Q I h
  apply wpAny_Call_Name_kw
  apply ld_glob I hg hm _ hdb
  refine PySem.W.callWith_KW0 (h₀ := X.base) I.ok.mod.kin M.kp hall ?_ hpl
  refine thn (hkw.run pos pins s σ H _ I h) ?_
  rintro ws s2 ⟨zs, H2, I2, rz, l1, l2, q2⟩
  refine ⟨I2.kIn, ?_⟩
  rw [hks]
  exact go_mk (us := []) (vs := []) M F hr hb (hx σ) I2 .nil rz rfl l2 q2
end
section
variable {K : PySem.W.Frag} {x qual : Str} {params : Arguments} {body : List Stmt} {scope : Scope} {dvs : List V} {f : Addr} {fd : FuncData} {ps : List Str}
/-- every parameter is written, by position or by keyword; whatever the defaults -/
theorem cb_all (F : FunD K x qual params body scope dvs [] f fd) (n : Nat) (ks : List Str) (g : {α : Type} → List α → List α → List α) (hrel : ∀ {vs zs : List V} {us ws : List Value}, Vals vs us → Vals zs ws → Vals (g vs zs) (g us ws))
    (h : ∀ (dV kV doc pm : Value) (an : Option Addr) (cdv ct : Value) (us ws : List Value), us.length = n → ws.length = ks.length → bindArgs (PySem.W.fnOf x qual params body scope dV kV doc pm an cdv ct) ⟨us, ks.zip ws⟩ = pure (ps.zip (g us ws))) : Cb K fd ps n ks g := by
  obtain ⟨oc, od, dV, kV, doc, pm, an, cdv, ct, osl, rfl, lk, hcd, hD, hK⟩ := F.ex
  refine ⟨g, ⟨fun s us ws X l1 l2 => ?_, fun r1 r2 => hrel r1 r2⟩⟩
  exact .of_eq (h dV kV doc pm an cdv ct us ws l1 l2)
/-- some of the defaults fill up -/
theorem cb_dfl (F : FunD K x qual params body scope dvs [] f fd) (n : Nat) (ks : List Str) (g : {α : Type} → List α → List α → List α → List α) (hd : dvs ≠ [])
    (hrel : ∀ {vs ds zs : List V} {us its ws : List Value}, Vals vs us → Vals ds its → Vals zs ws → Vals (g vs ds zs) (g us its ws))
    (h : ∀ (T : Addr) (kV doc pm : Value) (an : Option Addr) (cdv ct : Value) (us its ws : List Value), us.length = n → its.length = dvs.length → ws.length = ks.length →
      ∃ k, bindArgs (PySem.W.fnOf x qual params body scope (.ref T) kV doc pm an cdv ct) ⟨us, ks.zip ws⟩ = seqItems? (.ref T) >>= k ∧ k (some its.toArray) = pure (ps.zip (g us its ws))) : Cb K fd ps n ks (fun vs zs => g vs dvs zs) := by
  obtain ⟨its, hb⟩ := F.kbindsD n ks g hd hrel h
  exact ⟨_, hb⟩
end
end Bs

set_option Elab.async false
set_option linter.all false
set_option maxRecDepth 100000
set_option maxHeartbeats 2000000
/-! Own exception classes whose __init__ stores one value: raised, caught, asked. -/
namespace Bs
open PySem PySem.Spec PySem.Calls PyProof.Rows L2
/-- BitError.__init__: the value is stored itself -/
def sp_excInit (K : PySem.W.Frag) : Sp := fun vs H Q _ => ∃ (a C : Addr) (v : V), vs = [.ref a, v] ∧ OexC K C ∧ PySem.W.findIn K (.ref C) "value" = some none ∧ H a = some (exo a C none) ∧
  ∀ dx, H dx = none → dx ≠ a → Q .non (upd (upd H dx (exd dx [("value", v)])) a (exo a C (some dx)))
/-- what the written part tells of such a class -/
structure Xc (P : Program) (w : World) (K : PySem.W.Frag) (mg : Str → Option Value) (base : Heap) (x : Str) (C : Addr) : Prop where
  gC : mg x = some (.ref C)
  T : OexC K C
  nv : PySem.W.findIn K (.ref C) "value" = some none
  xf : XfC K C
  ec : ExcC K C
  ini : ∃ (fI : Addr) (fd : FuncData), PySem.W.findIn K (.ref C) "__init__" = some (some (.ref fI)) ∧ PySem.W.typeIn K (.ref fI) = some (.type "function") ∧ FnOk P w K mg base CX0 1 fI fd ["self", "value"] (sp_excInit K) ∧ Binds K fd ["self", "value"] []
def tMkX (C : Addr) (ta : TA) : L2.St → Hp → XK → Prop := fun σ H Q => ta σ H fun vs H1 => ∃ v, vs = [v] ∧ ∀ d, H1 d = none → Q (.ref C) (some d) (upd H1 d (.xd [("value", v)]))
section
variable {X : Cx} {x : Str} {C : Addr} {p pos : Pos} {e : Expr} {ta : TA} {j : Nat} {W : WX}
theorem pmk_mono {e : Expr} {t t' : L2.St → Hp → XK → Prop} (h : PMk X e t) (hm : ∀ σ H Q, t' σ H Q → t σ H Q) : PMk X e t' := fun pins s σ H Q I q => h pins s σ H Q I (hm σ H Q q)
theorem pmk_x (c : Xc X.prog X.w X.K X.mg X.base x C) (hr : Room j X.A) (hj : 2 ≤ j) (ha : PA X [e] ta) (hmono : ∀ σ H (Q Q' : List V → Hp → Prop), (∀ vs H1, Q vs H1 → Q' vs H1) → ta σ H Q → ta σ H Q') (hg : Gl X x := by rfl) (hdb : (x == ("__debug__" : Str)) = false := by decide)
    (he : starEach (e :: []) X.env = (false, eval e X.env) :: starEach [] X.env := by rfl) (hpl : (backTo pos (starEach [] X.env)).any (·.1) = false := by rfl) : PMk X (.Call (.Name x p) [e] [] pos) (tMkX C ta) := by
  obtain ⟨fI, fd, h1, h2, F, b⟩ := c.ini
  refine pmk_mono (pmk_oex c.T h1 h2 F (hr.mono hj) b .nil pass0 hg c.gC ha hdb he hpl) ?_
  intro σ H Q h
  refine hmono σ H _ _ ?_ h
  rintro vs H1 ⟨v, rfl, q⟩
  refine ⟨by show 1 ≤ 1000; decide, fun a ha1 => ?_⟩
  refine ⟨a, C, v, rfl, c.T, c.nv, upd_same, fun dx hdx ne => ?_⟩
  rw [upd_ne ne] at hdx
  refine ⟨rfl, dx, [("value", v)], upd_same, by rw [upd_ne ne, upd_same], hdx, ?_⟩
  have eq : upd (L2.del (upd (upd (upd H1 a (exo a C none)) dx (exd dx [("value", v)])) a (exo a C (some dx))) a) dx (.xd [("value", v)]) = upd H1 dx (.xd [("value", v)]) := by
    funext b
    by_cases hb : b = dx
    · rw [hb, upd_same, upd_same]
    · rw [upd_ne hb, upd_ne hb]
      by_cases hba : b = a
      · rw [hba, L2.del_same, ha1]
      · rw [L2.del_ne hba, upd_ne hba, upd_ne hb, upd_ne hba]
  rw [eq]
  exact q dx hdx
/-- raise X(e) -/
theorem ps_rx (hc : X.calm = true) (tk : Takes X W) (c : Xc X.prog X.w X.K X.mg X.base x C) (hr : Room j X.A) (hj : 2 ≤ j) (ha : PA X [e] ta) (hmono : ∀ σ H (Q Q' : List V → Hp → Prop), (∀ vs H1, Q vs H1 → Q' vs H1) → ta σ H Q → ta σ H Q') {pos' : Pos} (hg : Gl X x := by rfl) (hdb : (x == ("__debug__" : Str)) = false := by decide)
    (he : starEach (e :: []) X.env = (false, eval e X.env) :: starEach [] X.env := by rfl) (hpl : (backTo pos (starEach [] X.env)).any (·.1) = false := by rfl) : PS X (.Raise (some (.Call (.Name x p) [e] [] pos)) none pos') (fun _ σ H => tMkX C ta σ H fun cls d H' => W cls d σ H') :=
  ps_raise hc tk (pmk_x c hr hj ha hmono hg hdb he hpl)
end
/-! monotone readings of arguments -/
def MoE (te : TE) : Prop := ∀ σ H (Q Q' : VK), (∀ v H1, Q v H1 → Q' v H1) → te σ H Q → te σ H Q'
def MoA (ta : TA) : Prop := ∀ σ H (Q Q' : List V → Hp → Prop), (∀ vs H1, Q vs H1 → Q' vs H1) → ta σ H Q → ta σ H Q'
theorem mo_var {i : Nat} : MoE (tVar i) := fun σ H Q Q' m ⟨v, e, q⟩ => ⟨v, e, m v H q⟩
theorem mo_c {v : V} : MoE (tC v) := fun σ H Q Q' m q => m v H q
theorem mo_nil : MoA tNil := fun σ H Q Q' m q => m [] H q
theorem mo_cons {te : TE} {ta : TA} (h : MoE te) (g : MoA ta) : MoA (tCons te ta) := fun σ H Q Q' m q => h σ H _ _ (fun v H1 q1 => g σ H1 _ _ (fun vs H2 q2 => m _ _ q2) q1) q
theorem mo_tup {ta : TA} (h : MoA ta) : MoE (tTup ta) := fun σ H Q Q' m q => h σ H _ _ (fun vs H1 q1 => ⟨q1.1, fun p hp => m _ _ (q1.2 p hp)⟩) q
theorem mo_lst {ta : TA} (h : MoA ta) : MoE (tLst ta) := fun σ H Q Q' m q => h σ H _ _ (fun vs H1 q1 => ⟨q1.1, fun p hp => m _ _ (q1.2 p hp)⟩) q
/-! isinstance of the exception that a suite holds -/
def rIsX (K : PySem.W.Frag) (cls : Value) (d : Option Addr) (a : Addr) : List V → Hp → VK → Prop := fun xs H Q => ∃ (D dd C : Addr) (fs : List (Str × V)) (b : Bool), cls = .ref D ∧ d = some dd ∧ xs = [.ref a, .ref C] ∧ H dd = some (.xd fs) ∧ ExcC K D ∧
  PySem.W.kitOne K (.ref D) (.ref C) = some b ∧ Q (.bl b) H
theorem call_isX {X : Cx} {a : Addr} {oe : Obj} {cls : Value} {d : Option Addr} {pn : List (Addr × Obj)} (hz : Zc cls d oe) (hf : ∃ vs, oe.data = .fields vs) : CallR (X.suite a ((a, oe) :: pn)) (.builtin "isinstance") (rIsX X.K cls d a) := by
  intro pins s σ H xs us Q I r h
  obtain ⟨D, dd, C, fs, b, rfl, rfl, rfl, hdd, ec, hk, q⟩ := h
  cases r with
  | cons rx rr =>
    cases rr with
    | cons rt rr2 =>
      cases rr2
      cases rx
      cases rt
      obtain ⟨hget, _⟩ := I.pin (a, oe) (List.mem_append_left _ List.mem_cons_self)
      obtain ⟨vs, hv⟩ := hf
      have hx : ObjOk X.prog X.w H s.heap dd (.xd fs) := I.hok dd _ hdd
      obtain ⟨mA, hns, _⟩ := hx
      obtain ⟨od, ho, _⟩ := lookIn_ns hns
      have J : PySem.W.InstAt s.heap a oe D (some od) := ⟨hget, hz.1, by unfold PySem.W.notCls; rw [hv] <;> rfl, by rw [hz.2]; exact ho⟩
      have hcl : (PySem.W.clsIn X.K D).isSome = true := by
        obtain ⟨cd, hc, _⟩ := PySem.W.any_some ec.hd
        rw [hc]
        rfl
      exact PySem.W.kia_one (PySem.W.kitx_exc hcl ec.hg ec.hk ec.hs ec.ha ec.hn ec.ht ec.hm) I.kIn J hk (fun z => nomatch z) fun tk => ⟨.bl b, H, I.kept (t' := tk) fun _ _ z => z, rfl, q⟩
end Bs

set_option Elab.async false
set_option linter.all false
set_option maxRecDepth 100000
set_option maxHeartbeats 2000000
/-! Owned objects: F what stands still, L what this body may change or has made. -/
namespace Bs
open PySem PySem.Spec PySem.Calls PyProof.Rows L2
structure Own (F H : Hp) (L : List (Addr × HO)) : Prop where
  sub : Same F H
  own : ∀ (i : Nat) (a : Addr) (o : HO), L[i]? = some (a, o) → H a = some o ∧ F a = none
  nd : (L.map (·.1)).Nodup
/-- just the object at a may have changed, to o; others may be new -/
structure Mut (a : Addr) (o : HO) (H H' : Hp) : Prop where
  here : H' a = some o
  keep : ∀ b u, b ≠ a → H b = some u → H' b = some u
theorem mem_of_get {L : List (Addr × HO)} {i : Nat} {a : Addr} {o : HO} (h : L[i]? = some (a, o)) : (a, o) ∈ L := List.mem_of_getElem? h
section
variable {F H H' : Hp} {L : List (Addr × HO)} {a p : Addr} {o u : HO}
theorem Own.start (H : Hp) : Own H H [] := ⟨Same.refl H, fun i a o h => by simp at h, List.nodup_nil⟩
theorem Own.take1 (h : H a = some o) : Own (fun b => if b = a then none else H b) H [(a, o)] := by
  refine ⟨fun b u hb => ?_, fun i b u hi => ?_, by simp⟩
  · by_cases e : b = a
    · rw [if_pos e] at hb; cases hb
    · rw [if_neg e] at hb; exact hb
  · cases i with
    | zero => simp at hi; obtain ⟨rfl, rfl⟩ := hi; exact ⟨h, if_pos rfl⟩
    | succ n => simp at hi
theorem Own.get (h : Own F H L) (i : Nat) (e : L[i]? = some (a, o)) : H a = some o := (h.own i a o e).1
theorem Own.gets (h : Own F H L) (e : F a = some o) : H a = some o := h.sub a o e
theorem Own.ne (h : Own F H L) (i j : Nat) {b : Addr} (e1 : L[i]? = some (a, o)) (e2 : L[j]? = some (b, u)) (hij : i ≠ j) : a ≠ b := by
  intro z
  have n := h.nd
  rw [List.nodup_iff_pairwise_ne, List.pairwise_iff_getElem] at n
  have l1 := (List.getElem?_eq_some_iff.mp e1)
  have l2 := (List.getElem?_eq_some_iff.mp e2)
  obtain ⟨h1, g1⟩ := l1
  obtain ⟨h2, g2⟩ := l2
  rcases Nat.lt_or_gt_of_ne hij with q | q
  · exact n i j (by simpa using h1) (by simpa using h2) q (by simp [g1, g2, z])
  · exact n j i (by simpa using h2) (by simpa using h1) q (by simp [g1, g2, z])
theorem Own.neF (h : Own F H L) (i : Nat) {b : Addr} (e : L[i]? = some (a, o)) (hb : F b = some u) : b ≠ a := fun z => by
  have := (h.own i a o e).2
  rw [← z, hb] at this
  cases this
theorem Own.same (h : Own F H L) (s : Same H H') : Own F H' L := ⟨h.sub.trans s, fun i a o e => ⟨s _ _ (h.own i a o e).1, (h.own i a o e).2⟩, h.nd⟩
theorem Own.new (h : Own F H L) (n : H p = none) : Own F (upd H p o) ((p, o) :: L) := by
  have np : ∀ {b : Addr} {u : HO}, H b = some u → b ≠ p := fun e => ne_of_none e n
  refine ⟨fun b u e => ?_, fun i b u e => ?_, ?_⟩
  · rw [upd_ne (np (h.sub b u e))]; exact h.sub b u e
  · cases i with
    | zero =>
      simp at e; obtain ⟨rfl, rfl⟩ := e
      refine ⟨upd_same, ?_⟩
      cases q : F p with
      | none => rfl
      | some v => exact absurd rfl (np (h.sub p v q))
    | succ i =>
      have e' : L[i]? = some (b, u) := by simpa using e
      exact ⟨by rw [upd_ne (np (h.own i b u e').1)]; exact (h.own i b u e').1, (h.own i b u e').2⟩
  · rw [List.map_cons, List.nodup_cons]
    refine ⟨fun m => ?_, h.nd⟩
    obtain ⟨⟨b, u⟩, hm, e⟩ := List.mem_map.mp m
    obtain ⟨i, hi⟩ := List.getElem?_of_mem hm
    exact np (h.own i b u hi).1 e
theorem Own.mut (h : Own F H L) (i : Nat) (e : L[i]? = some (a, u)) (m : Mut a o H H') : Own F H' (L.set i (a, o)) := by
  have hi : i < L.length := (List.getElem?_eq_some_iff.mp e).1
  refine ⟨fun b v hb => m.keep b v (h.neF i e hb) (h.sub b v hb), fun j b v hj => ?_, ?_⟩
  · by_cases hij : i = j
    · subst hij
      rw [List.getElem?_set_self hi] at hj
      cases hj
      exact ⟨m.here, (h.own i _ _ e).2⟩
    · rw [List.getElem?_set_ne hij] at hj
      exact ⟨m.keep b v (h.ne j i hj e (Ne.symm hij)) (h.own j b v hj).1, (h.own j b v hj).2⟩
  · have : (L.set i (a, o)).map (·.1) = L.map (·.1) := by
      rw [List.map_set]
      apply List.ext_getElem?
      intro j
      by_cases hij : i = j
      · subst hij
        rw [List.getElem?_set_self (by simpa using hi), List.getElem?_map, e]
        rfl
      · rw [List.getElem?_set_ne hij]
    rw [this]; exact h.nd
theorem mut_upd : Mut a o H (upd H a o) := ⟨upd_same, fun b u n e => by rw [upd_ne n]; exact e⟩
theorem Own.put (h : Own F H L) (i : Nat) (e : L[i]? = some (a, u)) : Own F (upd H a o) (L.set i (a, o)) := h.mut i e mut_upd
theorem Own.drop {x : Addr × HO} (h : Own F H (x :: L)) : Own F H L := ⟨h.sub, fun i a o e => h.own (i + 1) a o (by simpa using e), (List.nodup_cons.mp h.nd).2⟩
theorem Own.frz (h : Own F H ((p, o) :: L)) : Own (upd F p o) H L ∧ Same F (upd F p o) := by
  have hp := h.own 0 p o rfl
  refine ⟨⟨fun b u e => ?_, fun i b u e => ?_, (List.nodup_cons.mp h.nd).2⟩, fun b u e => ?_⟩
  · by_cases q : b = p
    · subst q; rw [upd_same] at e; cases e; exact hp.1
    · rw [upd_ne q] at e; exact h.sub b u e
  · have e' : ((p, o) :: L)[i + 1]? = some (b, u) := by simpa using e
    have nb : b ≠ p := h.ne (i + 1) 0 e' rfl (by omega)
    exact ⟨(h.own (i + 1) b u e').1, by rw [upd_ne nb]; exact (h.own (i + 1) b u e').2⟩
  · rw [upd_ne (ne_of_none e hp.2)]; exact e
theorem Own.fresh (h : Own F H L) (n : H p = none) : F p = none := by
  cases e : F p with
  | none => rfl
  | some u => rw [h.sub p u e] at n; cases n
theorem Own.toSame (h : Own F H L) : Same F H := h.sub
/-- what was ahead of the take is behind it, but for a -/
theorem Own.mut_of {H0 : Hp} {i : Nat} (h : Own (fun b => if b = a then none else H0 b) H L) (e : L[i]? = some (a, o)) : Mut a o H0 H := ⟨h.get i e, fun b u n hb => h.sub b u (by show (if b = a then none else H0 b) = some u; rw [if_neg n]; exact hb)⟩
/-! readings with owned objects -/
variable {Q : VK} {K : PySem.W.Frag} {A : Prop}
theorem o_tup {xs : List V} (h : Own F H L) (z : xs.length.ble 1000 = true) (k : ∀ p H', H p = none → Own F H' ((p, .tup xs) :: L) → Q (.ref p) H') : cTup Q xs H :=
  ⟨Nat.le_trans (Nat.le_of_ble_eq_true z) (by decide), fun p n => k p _ n (h.new n)⟩
theorem o_lst {xs : List V} (h : Own F H L) (z : xs.length.ble 1000 = true) (k : ∀ p H', H p = none → Own F H' ((p, .lst xs) :: L) → Q (.ref p) H') : cLst Q xs H :=
  ⟨Nat.le_trans (Nat.le_of_ble_eq_true z) (by decide), fun p n => k p _ n (h.new n)⟩
theorem o_ixL {i : Nat} {xs : List V} {k : Int} {v : V} (h : Own F H L) (e : L[i]? = some (a, .lst xs)) (g : atI xs k = some v) (q : Q v H) : rIxL K (.ref a) (.int k) H Q := r_ixL (SqL.of (h.get i e)) g q
theorem o_ixT {i : Nat} {xs : List V} {k : Int} {v : V} (h : Own F H L) (e : L[i]? = some (a, .tup xs)) (g : atI xs k = some v) (q : Q v H) : rIxT K (.ref a) (.int k) H Q := r_ixT (SqT.of (h.get i e)) g q
theorem o_setL {i j : Nat} {xs : List V} {k : Int} {v : V} {R : Hp → Prop} (h : Own F H L) (e : L[i]? = some (a, .lst xs)) (g : ixN xs.length k = some j) (q : ∀ H', Own F H' (L.set i (a, .lst (xs.set j v))) → R H') : rSetL (.ref a) (.int k) v H R :=
  r_setL (h.get i e) g (q _ (h.put i e))
theorem o_unp {i n : Nat} {xs : List V} {g : TGs} {σ : L2.St} {R : L2.St → Hp → Prop} (h : Own F H L) (e : L[i]? = some (a, .tup xs)) (z : xs.length = n) (q : g xs σ H R) : gTup K n g (.ref a) σ H R := ⟨a, xs, rfl, SqT.of (h.get i e), z, q⟩
theorem o_unpF {n : Nat} {xs : List V} {g : TGs} {σ : L2.St} {R : L2.St → Hp → Prop} (h : SqT K H a xs) (z : xs.length = n) (q : g xs σ H R) : gTup K n g (.ref a) σ H R := ⟨a, xs, rfl, h, z, q⟩
theorem r_gnil {σ : L2.St} {R : L2.St → Hp → Prop} (q : R σ H) : gNil [] σ H R := ⟨rfl, q⟩
theorem r_gcons {t : TG} {w : TGs} {v : V} {r : List V} {σ : L2.St} {R : L2.St → Hp → Prop} (q : t v σ H fun σ' H' => w r σ' H' R) : gCons t w (v :: r) σ H R := ⟨v, r, rfl, q⟩
theorem r_gname {i : Nat} {v : V} {σ : L2.St} {R : L2.St → Hp → Prop} (q : R (σ.set i (some v)) H) : gName i v σ H R := q
end
end Bs
namespace Bs
open PySem PySem.Spec PySem.Calls PyProof.Rows L2
section
variable {α : Type} {a b c d e f g h i j : α} {l : List α}
theorem g0 : (a :: l)[0]? = some a := rfl
theorem g1 : (a :: b :: l)[1]? = some b := rfl
theorem g2 : (a :: b :: c :: l)[2]? = some c := rfl
theorem g3 : (a :: b :: c :: d :: l)[3]? = some d := rfl
theorem g4 : (a :: b :: c :: d :: e :: l)[4]? = some e := rfl
theorem g5 : (a :: b :: c :: d :: e :: f :: l)[5]? = some f := rfl
theorem g6 : (a :: b :: c :: d :: e :: f :: g :: l)[6]? = some g := rfl
theorem g7 : (a :: b :: c :: d :: e :: f :: g :: h :: l)[7]? = some h := rfl
theorem g8 : (a :: b :: c :: d :: e :: f :: g :: h :: i :: l)[8]? = some i := rfl
theorem g9 : (a :: b :: c :: d :: e :: f :: g :: h :: i :: j :: l)[9]? = some j := rfl
variable {a1 a2 a3 a4 a5 a6 a7 a8 a9 a10 : α}
theorem g10 : (a :: b :: c :: d :: e :: f :: g :: h :: i :: j :: a1 :: l)[10]? = some a1 := rfl
theorem g11 : (a :: b :: c :: d :: e :: f :: g :: h :: i :: j :: a1 :: a2 :: l)[11]? = some a2 := rfl
theorem g12 : (a :: b :: c :: d :: e :: f :: g :: h :: i :: j :: a1 :: a2 :: a3 :: l)[12]? = some a3 := rfl
theorem g13 : (a :: b :: c :: d :: e :: f :: g :: h :: i :: j :: a1 :: a2 :: a3 :: a4 :: l)[13]? = some a4 := rfl
theorem g14 : (a :: b :: c :: d :: e :: f :: g :: h :: i :: j :: a1 :: a2 :: a3 :: a4 :: a5 :: l)[14]? = some a5 := rfl
theorem g15 : (a :: b :: c :: d :: e :: f :: g :: h :: i :: j :: a1 :: a2 :: a3 :: a4 :: a5 :: a6 :: l)[15]? = some a6 := rfl
theorem g16 : (a :: b :: c :: d :: e :: f :: g :: h :: i :: j :: a1 :: a2 :: a3 :: a4 :: a5 :: a6 :: a7 :: l)[16]? = some a7 := rfl
theorem g17 : (a :: b :: c :: d :: e :: f :: g :: h :: i :: j :: a1 :: a2 :: a3 :: a4 :: a5 :: a6 :: a7 :: a8 :: l)[17]? = some a8 := rfl
end
end Bs
namespace Bs
open PySem PySem.Spec PySem.Calls PyProof.Rows L2
theorem Own.toSame_of {H H' : Hp} {L : List (Addr × HO)} (h : Own H H' L) : Same H H' := h.sub
end Bs
namespace Bs
open PySem PySem.Spec PySem.Calls PyProof.Rows L2
section
variable {F H H' : Hp} {L : List (Addr × HO)} {a p : Addr} {o u : HO} {Q : VK} {K : PySem.W.Frag} {D : Ends} {σ : L2.St}
def cXd (C : Addr) (Q : XK) (vs : List V) (H1 : Hp) : Prop := ∃ v, vs = [v] ∧ ∀ d, H1 d = none → Q (.ref C) (some d) (upd H1 d (.xd [("value", v)]))
theorem r_mkX {C : Addr} {ta : TA} {Q : XK} (k : ta σ H (cXd C Q)) : tMkX C ta σ H Q := k
theorem o_xd {C : Addr} {v : V} {Q : XK} (h : Own F H L) (k : ∀ d H', H d = none → Own F H' ((d, .xd [("value", v)]) :: L) → Q (.ref C) (some d) H') : cXd C Q [v] H := ⟨v, rfl, fun d n => k d _ n (h.new n)⟩
def cSf (K : PySem.W.Frag) (f : Str) (D : Ends) (σ : L2.St) (y x : V) (H2 : Hp) : Prop := ∃ a C dx fs, x = .ref a ∧ H2 a = some (.ins C dx fs) ∧ Cls K C ∧ NoAttr K C f ∧ fs.length < 1000 ∧ D.nx σ (upd H2 a (.ins C dx (putF f y fs)))
theorem r_sfld {ta tv : TE} {f : Str} (k : tv σ H fun y H1 => ta σ H1 (cSf K f D σ y)) : sFld K ta tv f D σ H := k
theorem o_sfld {C dx : Addr} {fs : List (Str × V)} {f : Str} {y : V} {i : Nat} (h : Own F H L) (e : L[i]? = some (a, .ins C dx fs)) (cl : Cls K C) (n : NoAttr K C f) (z : fs.length.ble 900 = true) (k : ∀ H', Own F H' (L.set i (a, .ins C dx (putF f y fs))) → D.nx σ H') :
    cSf K f D σ y (.ref a) H := ⟨a, C, dx, fs, rfl, h.get i e, cl, n, by have := Nat.le_of_ble_eq_true z; omega, k _ (h.put i e)⟩
/-- a field of an owned instance, of one that stands still -/
theorem o_gfld {C dx : Addr} {fs : List (Str × V)} {f : Str} {v : V} {i : Nat} (h : Own F H L) (e : L[i]? = some (a, .ins C dx fs)) (cl : Cls K C) (n : NoAttr K C f) (l : fs.lookup f = some v) (k : Q v H) : cGf K f Q (.ref a) H := ⟨a, C, dx, fs, v, rfl, h.get i e, cl, n, l, k⟩
theorem o_gfldF {C dx : Addr} {fs : List (Str × V)} {f : Str} {v : V} (h : H a = some (.ins C dx fs)) (cl : Cls K C) (n : NoAttr K C f) (l : fs.lookup f = some v) (k : Q v H) : cGf K f Q (.ref a) H := ⟨a, C, dx, fs, v, rfl, h, cl, n, l, k⟩
end
theorem own_new {H H' : Hp} {p d : Addr} {o u : HO} {L : List (Addr × HO)} (h : Own (fun b => if b = p then none else H b) H' L) (i j : Nat) (e : L[i]? = some (d, u)) (e2 : L[j]? = some (p, o)) (hij : i ≠ j) : H d = none := by
  have n := h.ne i j e e2 hij
  have z := (h.own i d u e).2
  rw [if_neg n] at z
  exact z
section
variable {F H H' : Hp} {L : List (Addr × HO)} {a p d : Addr} {o u : HO}
/-- a further object, known to stand apart -/
theorem Own.newAt (h : Own F H L) (n : F d = none) (e : H d = some o) (ne : ∀ (i : Nat) (a : Addr) (u : HO), L[i]? = some (a, u) → d ≠ a) : Own F H ((d, o) :: L) := by
  refine ⟨h.sub, fun i b v hb => ?_, ?_⟩
  · cases i with
    | zero => simp at hb; obtain ⟨rfl, rfl⟩ := hb; exact ⟨e, n⟩
    | succ i => exact h.own i b v (by simpa using hb)
  · rw [List.map_cons, List.nodup_cons]
    refine ⟨fun m => ?_, h.nd⟩
    obtain ⟨⟨b, v⟩, hm, e2⟩ := List.mem_map.mp m
    obtain ⟨i, hi⟩ := List.getElem?_of_mem hm
    exact ne i b v hi e2.symm
theorem Own.newS (h : Own F H L) (n : H p = none) (s : Same H H') (e : H' p = some o) : Own F H' ((p, o) :: L) :=
  (h.same s).newAt (h.fresh n) e fun i b v hi z => by
    have := (h.own i b v hi).1
    rw [← z, n] at this
    cases this
theorem Own.mutnew {i : Nat} (h : Own F H L) (e : L[i]? = some (a, u)) (m : Mut a o H H') (n : H p = none) {v : HO} (ep : H' p = some v) : Own F H' ((p, v) :: L.set i (a, o)) := by
  have hi : i < L.length := (List.getElem?_eq_some_iff.mp e).1
  refine (h.mut i e m).newAt (h.fresh n) ep fun j b v hj z => ?_
  by_cases hij : i = j
  · subst hij
    rw [List.getElem?_set_self hi] at hj
    cases hj
    have := (h.own i _ _ e).1
    rw [← z, n] at this
    cases this
  · rw [List.getElem?_set_ne hij] at hj
    have := (h.own j b v hj).1
    rw [← z, n] at this
    cases this
end
end Bs
namespace Bs
open PySem PySem.Spec PySem.Calls PyProof.Rows L2
/-- new for the heap of the beginning, too -/
theorem Own.new0 {F H : Hp} {L : List (Addr × HO)} {p : Addr} {o : HO} {i : Nat} (h : Own F H L) (e : L[i]? = some (p, o)) : F p = none := (h.own i p o e).2
end Bs

set_option Elab.async false
set_option linter.all false
set_option maxRecDepth 100000
set_option maxHeartbeats 2000000
/-! repr of data: budgets; the caught exception's value. -/
namespace Bs
open PySem PySem.Spec PySem.Calls PyProof.Rows L2
/-- depth at most k, weight at most m -/
structure Rp (k m : Nat) (d : PyData) : Prop where
  sh : d.showable = true
  nd : d.hasDict = false
  dp : d.depth ≤ k
  lv : d.leavesShort 600 = true
  w : d.weight ≤ m
structure RpA (k m : Nat) (ds : List PyData) : Prop where
  sh : PyData.showableAll ds = true
  nd : PyData.hasDictAll ds = false
  dp : PyData.depthAll ds ≤ k
  lv : PyData.leavesShortAll 600 ds = true
  w : PyData.weightAll ds ≤ m
theorem Rp.sz {k m : Nat} {d : PyData} (h : Rp k m d) (hm : m ≤ 27000) : d.shown.length ≤ sizeLine := by
  have := PyData.shown_le 600 (by decide) d h.lv
  have w := h.w
  have e : sizeLine = 16777216 := by decide
  omega
theorem Rp.mono {k m k' m' : Nat} {d : PyData} (h : Rp k m d) (h1 : k ≤ k') (h2 : m ≤ m') : Rp k' m' d := ⟨h.sh, h.nd, Nat.le_trans h.dp h1, h.lv, Nat.le_trans h.w h2⟩
theorem RpA.mono {k m k' m' : Nat} {d : List PyData} (h : RpA k m d) (h1 : k ≤ k') (h2 : m ≤ m') : RpA k' m' d := ⟨h.sh, h.nd, Nat.le_trans h.dp h1, h.lv, Nat.le_trans h.w h2⟩
theorem pow_570 : (2 : Nat) ^ 1800 ≤ 10 ^ 570 := by decide +kernel
theorem rp_int {i : Int} (h : i.natAbs < 2 ^ 1800) : Rp 0 1802 (.int i) := by
  have h2 : i.natAbs.log2 < 1800 := PySem.Flt.log2_lt_of (by decide) h
  refine ⟨?_, ?_, ?_, ?_, ?_⟩
  · simp [PyData.showable]; omega
  · simp [PyData.hasDict]
  · simp [PyData.depth]
  · simp only [PyData.leavesShort, decide_eq_true_eq]
    have e := int_text_length_le10 (k := 570) (by decide) (Nat.lt_of_lt_of_le h pow_570)
    show (Str.ofString (toString i)).length ≤ 600
    rw [PySem.ofString_length]; omega
  · simp only [PyData.weight]; split <;> omega
theorem rp_intS {i : Int} (b : Nat) (h : i.natAbs < 2 ^ b) (h0 : 0 < b) (hb : b ≤ 1800) : Rp 0 (b + 2) (.int i) := by
  have h2 : i.natAbs.log2 < b := PySem.Flt.log2_lt_of h0 h
  have r := rp_int (i := i) (Nat.lt_of_lt_of_le h (Nat.pow_le_pow_right (by decide) hb))
  refine ⟨r.sh, r.nd, r.dp, r.lv, ?_⟩
  simp only [PyData.weight]; split <;> omega
theorem rp_bl {b : Bool} : Rp 0 1 (.bool b) := by
  refine ⟨?_, ?_, ?_, ?_, ?_⟩
  · simp [PyData.showable]
  · simp [PyData.hasDict]
  · simp [PyData.depth]
  · simp [PyData.leavesShort]
  · simp [PyData.weight]
theorem rp_non : Rp 0 1 .none := by
  refine ⟨?_, ?_, ?_, ?_, ?_⟩
  · simp [PyData.showable]
  · simp [PyData.hasDict]
  · simp [PyData.depth]
  · simp [PyData.leavesShort]
  · simp [PyData.weight]
theorem rpa_nil : RpA 0 0 [] := by
  refine ⟨?_, ?_, ?_, ?_, ?_⟩
  · simp [PyData.showableAll]
  · simp [PyData.hasDictAll]
  · simp [PyData.depthAll]
  · simp [PyData.leavesShortAll]
  · simp [PyData.weightAll]
theorem rpa_cons {k j m n : Nat} {d : PyData} {ds : List PyData} (h : Rp k m d) (g : RpA j n ds) : RpA (max k j) (m + n + 1) (d :: ds) := by
  refine ⟨?_, ?_, ?_, ?_, ?_⟩
  · simp [PyData.showableAll, h.sh, g.sh]
  · simp [PyData.hasDictAll, h.nd, g.nd]
  · have := h.dp; have := g.dp; simp only [PyData.depthAll]; omega
  · simp [PyData.leavesShortAll, h.lv, g.lv]
  · have := h.w; have := g.w; simp only [PyData.weightAll]; omega
theorem rp_list {k m : Nat} {ds : List PyData} (h : RpA k m ds) : Rp (k + 1) (m + 1) (.list ds) := by
  refine ⟨?_, ?_, ?_, ?_, ?_⟩
  · simp [PyData.showable, h.sh]
  · simp [PyData.hasDict, h.nd]
  · have := h.dp; simp only [PyData.depth]; omega
  · simp [PyData.leavesShort, h.lv]
  · have := h.w; simp only [PyData.weight]; omega
theorem rp_tup {k m : Nat} {ds : List PyData} (h : RpA k m ds) : Rp (k + 1) (m + 1) (.tuple ds) := by
  refine ⟨?_, ?_, ?_, ?_, ?_⟩
  · simp [PyData.showable, h.sh]
  · simp [PyData.hasDict, h.nd]
  · have := h.dp; simp only [PyData.depth]; omega
  · simp [PyData.leavesShort, h.lv]
  · have := h.w; simp only [PyData.weight]; omega
/-! budgets from above -/
def RpL (k m : Nat) (ds : List PyData) : Prop := ∀ d ∈ ds, Rp k m d
theorem rpl_nil {k m : Nat} : RpL k m [] := fun d h => by cases h
theorem rpl_cons {k m : Nat} {d : PyData} {ds : List PyData} (h : Rp k m d) (g : RpL k m ds) : RpL k m (d :: ds) := fun x hx => by
  rcases List.mem_cons.mp hx with e | e
  · rw [e]; exact h
  · exact g x e
theorem rpl_all {k m : Nat} : ∀ {ds : List PyData}, RpL k m ds → RpA k (ds.length * (m + 1)) ds
  | [], _ => rpa_nil.mono (Nat.zero_le _) (Nat.zero_le _)
  | d :: ds, h => by
    have a := rpa_cons (h d List.mem_cons_self) (rpl_all fun x hx => h x (List.mem_cons_of_mem _ hx))
    refine a.mono (by omega) ?_
    rw [List.length_cons, Nat.succ_mul]
    omega
theorem rq_len {n m : Nat} (h : Nat.ble (n + 1) m = true) : n * ((m - 1) / n - 1 + 1) + 1 ≤ m := by
  have h := Nat.le_of_ble_eq_true h
  by_cases z : n = 0
  · subst z; omega
  · have h1 : 1 ≤ (m - 1) / n := (Nat.le_div_iff_mul_le (by omega)).mpr (by omega)
    have h2 := Nat.mul_div_le (m - 1) n
    rw [Nat.sub_add_cancel h1]
    omega
theorem rq_list {k m : Nat} {ds : List PyData} (hk : Nat.ble 1 k = true) (hm : Nat.ble (ds.length + 1) m = true) (h : RpL (k - 1) ((m - 1) / ds.length - 1) ds) : Rp k m (.list ds) := by
  have := Nat.le_of_ble_eq_true hk
  exact (rp_list (rpl_all h)).mono (by omega) (rq_len hm)
theorem rq_tup {k m : Nat} {ds : List PyData} (hk : Nat.ble 1 k = true) (hm : Nat.ble (ds.length + 1) m = true) (h : RpL (k - 1) ((m - 1) / ds.length - 1) ds) : Rp k m (.tuple ds) := by
  have := Nat.le_of_ble_eq_true hk
  exact (rp_tup (rpl_all h)).mono (by omega) (rq_len hm)
theorem rq_int {k m : Nat} {i : Int} (h : i.natAbs < 2 ^ 70) (hm : Nat.ble 72 m = true) : Rp k m (.int i) := (rp_intS 70 h (by decide) (by decide)).mono (Nat.zero_le _) (Nat.le_of_ble_eq_true hm)
theorem rq_intW {k m : Nat} {i : Int} (h : i.natAbs < 2 ^ 110) (hm : Nat.ble 112 m = true) : Rp k m (.int i) := (rp_intS 110 h (by decide) (by decide)).mono (Nat.zero_le _) (Nat.le_of_ble_eq_true hm)
theorem rq_bl {k m : Nat} {b : Bool} (hm : Nat.ble 1 m = true) : Rp k m (.bool b) := rp_bl.mono (Nat.zero_le _) (Nat.le_of_ble_eq_true hm)
theorem rq_non {k m : Nat} (hm : Nat.ble 1 m = true) : Rp k m .none := rp_non.mono (Nat.zero_le _) (Nat.le_of_ble_eq_true hm)
theorem r_repr {K : PySem.W.Frag} {x : V} {d : PyData} {H : Hp} {Q : VK} (h : Dp K H x d) (rp : Rp 60 27000 d) (q : Q (.str d.shown) H) : rRepr K [x] H Q :=
  ⟨x, d, rfl, h, rp.sh, rp.nd, rp.dp, rp.sz (by decide), q⟩
/-! data of a heap -/
theorem dp_lst {K : PySem.W.Frag} {H : Hp} {a : Addr} {xs : List V} {ds : List PyData} (h : H a = some (.lst xs)) (g : DpAll K H xs ds) : Dp K H (.ref a) (.list ds) := .lst (SqL.of h) g
theorem dp_tup {K : PySem.W.Frag} {H : Hp} {a : Addr} {xs : List V} {ds : List PyData} (h : H a = some (.tup xs)) (g : DpAll K H xs ds) : Dp K H (.ref a) (.tuple ds) := .tup (SqT.of h) g
mutual
theorem dp_same {K : PySem.W.Frag} {H H' : Hp} (s : Same H H') : ∀ {v : V} {d : PyData}, Dp K H v d → Dp K H' v d
  | _, _, .non => .non
  | _, _, .bl b => .bl b
  | _, _, .int i => .int i
  | _, _, .str x => .str x
  | _, _, .lst h g => .lst (s.seq h) (dpa_same s g)
  | _, _, .tup h g => .tup (sqT_same s h) (dpa_same s g)
theorem dpa_same {K : PySem.W.Frag} {H H' : Hp} (s : Same H H') : ∀ {v : List V} {d : List PyData}, DpAll K H v d → DpAll K H' v d
  | _, _, .nil => .nil
  | _, _, .cons h g => .cons (dp_same s h) (dpa_same s g)
end
/-! the value of a caught exception -/
def tXv (K : PySem.W.Frag) (a : Addr) (cls : Value) (d : Option Addr) (f : Str) (te : TE) : TE := fun σ H Q => te σ H fun x H1 => x = .ref a ∧ ∃ (C dd : Addr) (fs : List (Str × V)) (v : V), cls = .ref C ∧ XfC K C ∧ PySem.W.findIn K (.ref C) f = some none ∧ d = some dd ∧ H1 dd = some (.xd fs) ∧ fs.lookup f = some v ∧ Q v H1
theorem pe_xv {X : Cx} {a : Addr} {oe : Obj} {cls : Value} {d : Option Addr} {pn : List (Addr × Obj)} {e : Expr} {te : TE} {pos : Pos} {n : Str} (mo : MoE te)
    (hz : Zc cls d oe) (hf : ∃ vs, oe.data = .fields vs) (he : PE (X.suite a ((a, oe) :: pn)) e te) (hb : attributeBase e n X.env (eval e X.env) = eval e X.env := by rfl) :
    PE (X.suite a ((a, oe) :: pn)) (.Attribute e n pos) (tXv X.K a cls d n te) := by
  refine ⟨fun pins s σ H Q I h => ?_⟩
  refine attr_of hb (thn (he.run pins s σ H _ I h) fun u s1 hh => ?_)
  obtain ⟨x, H1, I1, rx, ex, C, dd, fs, v, ec, T, hno, ed, ea, l, q⟩ := hh
  subst ex
  obtain rfl : u = Value.ref a := rx
  subst ec
  subst ed
  obtain ⟨ha, _⟩ := I1.pin (a, oe) (List.mem_append_left _ List.mem_cons_self)
  obtain ⟨vs, hd⟩ := hf
  have hx : ObjOk X.prog X.w H1 s1.heap dd (.xd fs) := I1.hok dd _ ea
  obtain ⟨mA, hns, hr⟩ := hx
  obtain ⟨od, ho, hl⟩ := lookIn_ns hns
  obtain ⟨u, hu, ru⟩ := RelO.some_of (v := v) (o := mA n) (by rw [← l]; exact hr n)
  have J : PySem.W.InstAt s1.heap a oe C (some od) := ⟨ha, hz.1, by unfold PySem.W.notCls; rw [hd] <;> rfl, by rw [hz.2]; exact ho⟩
  exact HandSPX.exc_get I1.kIn J T.ga T.gg T.exC (PySem.W.findObj_own T.hdC hno rfl (by rw [hl, hu])) (handed_of ru) ⟨v, H1, I1.tok _, ru, q⟩
theorem r_xv {K : PySem.W.Frag} {a C dd : Addr} {f : Str} {te : TE} {σ : L2.St} {H : Hp} {Q : VK} (k : te σ H fun x H1 => x = .ref a ∧ ∃ (D dd' : Addr) (fs : List (Str × V)) (v : V), Value.ref C = .ref D ∧ XfC K D ∧ PySem.W.findIn K (.ref D) f = some none ∧ some dd = some dd' ∧ H1 dd' = some (.xd fs) ∧ fs.lookup f = some v ∧ Q v H1) : tXv K a (.ref C) (some dd) f te σ H Q := k
end Bs
namespace Bs
open PySem PySem.Spec PySem.Calls PyProof.Rows L2
/-! properties -/
structure PrC (P : Program) (w : World) (K : PySem.W.Frag) (mg : Str → Option Value) (base : Heap) (CX : CXT) (C : Addr) (f : Str) (k : Nat) (sp : Sp) : Prop where
  cl : Cls K C
  ex : ∃ (p g : Addr) (fd : FuncData), PropOf K C f p g ∧ FnOk P w K mg base CX k g fd ["self"] sp ∧ Binds K fd ["self"] []
section
variable {X : Cx} {C : Addr} {f : Str} {j k : Nat} {sp : Sp} {e : Expr} {pos : Pos} {ta : TE}
theorem pe_wp (c : PrC X.prog X.w X.K X.mg X.base CX0 C f k sp) (hr : Room j X.A) (hj : k + 1 ≤ j) (he : PE X e ta) (hab : attributeBase e f X.env (eval e X.env) = eval e X.env := by rfl) : PE X (.Attribute e f pos) (tProp C sp [] E0 ta) := by
  obtain ⟨p, g, fd, hp, F, b⟩ := c.ex
  exact pe_prop he c.cl hp F (hr.mono hj) b .nil pass0 hab
end
def cPr (C : Addr) (sp : Sp) (E : XK) (Q : VK) (x : V) (H1 : Hp) : Prop := ∃ a dx fs, x = .ref a ∧ H1 a = some (.ins C dx fs) ∧ sp [.ref a] H1 Q E
section
variable {F H : Hp} {L : List (Addr × HO)} {C a dx : Addr} {fs : List (Str × V)} {Q : VK} {E : XK} {sp : Sp} {σ : L2.St} {i : Nat} {f : Str} {v : V}
theorem r_prop2 {ta : TE} (k : ta σ H (cPr C sp E Q)) : tProp C sp [] E ta σ H Q := k
theorem o_prop (h : Own F H L) (e : L[i]? = some (a, .ins C dx fs)) (k : sp [.ref a] H Q E) : cPr C sp E Q (.ref a) H := ⟨a, dx, fs, rfl, h.get i e, k⟩
theorem o_propF (e : H a = some (.ins C dx fs)) (k : sp [.ref a] H Q E) : cPr C sp E Q (.ref a) H := ⟨a, dx, fs, rfl, e, k⟩
theorem c_get (e : H a = some (.ins C dx fs)) (l : fs.lookup f = some v) (k : Q v H) : getSp C f [.ref a] H Q E := ⟨a, dx, fs, v, rfl, e, l, k⟩
end
/-! what a clause asks of a class -/
structure Xs (K : PySem.W.Frag) (B I : Addr) : Prop where
  exm : PySem.W.exmOne K (.ref I) (.ref B) = some true
  kit : PySem.W.kitOne K (.ref I) (.ref I) = some true
theorem r_wAs {K : PySem.W.Frag} {c cls : Value} {i : Nat} {ts : Addr → Value → Option Addr → TS} {Wout : WX} {D : Ends} {d : Option Addr} {σ : L2.St} {H : Hp} (h : PySem.W.exmOne K cls c = some true)
    (k : ∀ a, H a = none → ts a cls d { nx := fun σ' H' => D.nx (σ'.set i none) H', rt := D.rt, bk := fun σ' H' => D.bk (σ'.set i none) H', ct := fun σ' H' => D.ct (σ'.set i none) H' } (σ.set i (some (.ref a))) H) : wAs K c i ts Wout D cls d σ H :=
  ⟨true, h, fun _ => k, fun z => by cases z⟩
theorem r_isX {K : PySem.W.Frag} {C D dd a : Addr} {fs : List (Str × V)} {b : Bool} {H : Hp} {Q : VK} (e : H dd = some (.xd fs)) (ec : ExcC K D) (hk : PySem.W.kitOne K (.ref D) (.ref C) = some b) (k : Q (.bl b) H) : rIsX K (.ref D) (some dd) a [.ref a, .ref C] H Q :=
  ⟨D, dd, C, fs, b, rfl, rfl, rfl, e, ec, hk, k⟩
def cXv (K : PySem.W.Frag) (a : Addr) (cls : Value) (d : Option Addr) (f : Str) (Q : VK) (x : V) (H1 : Hp) : Prop := x = .ref a ∧ ∃ (C dd : Addr) (fs : List (Str × V)) (v : V), cls = .ref C ∧ XfC K C ∧ PySem.W.findIn K (.ref C) f = some none ∧ d = some dd ∧ H1 dd = some (.xd fs) ∧ fs.lookup f = some v ∧ Q v H1
theorem r_xv2 {K : PySem.W.Frag} {a : Addr} {cls : Value} {d : Option Addr} {f : Str} {te : TE} {σ : L2.St} {H : Hp} {Q : VK} (k : te σ H (cXv K a cls d f Q)) : tXv K a cls d f te σ H Q := k
theorem o_xv {K : PySem.W.Frag} {a C dd : Addr} {v : V} {H : Hp} {Q : VK} (e : H dd = some (.xd [("value", v)])) (T : XfC K C) (n : PySem.W.findIn K (.ref C) "value" = some none) (k : Q v H) : cXv K a (.ref C) (some dd) "value" Q (.ref a) H :=
  ⟨rfl, C, dd, _, v, rfl, T, n, rfl, e, by simp [List.lookup], k⟩
/-! loops: each turn's beginning by σ and H -/
theorem r_rng1 {ta : TA} {σ : L2.St} {H : Hp} {R : It → Hp → Prop} (k : ta σ H fun vs H1 => ∃ j : Int, vs = [.int j] ∧ -(2 ^ 62) ≤ j ∧ j < 2 ^ 62 ∧ R (Itr 0 j.toNat) H1) : iRng1 ta σ H R := k
theorem r_j {j : Int} {R : Int → Prop} (h1 : -(2 ^ 62) ≤ j) (h2 : j < 2 ^ 62) (k : R j) : ∃ i : Int, [V.int j] = [.int i] ∧ -(2 ^ 62) ≤ i ∧ i < 2 ^ 62 ∧ R i := ⟨j, rfl, h1, h2, k⟩
theorem r_for {wi : TI} {g : TG} {tb : TS} {D : Ends} {σ : L2.St} {H : Hp} (k : wi σ H fun J H1 => ∃ W : Nat → Nat → L2.St → Hp → Prop, (∃ m, W 0 m σ H1) ∧ ∀ i m σ H, W i m σ H →
  (J.stop i H ∧ D.nx σ H) ∨ (J.go i H ∧ ∃ N : L2.St → Hp → Prop, (∀ σ' H', N σ' H' → ∃ m', m' < m ∧ W (i + 1) m' σ' H') ∧ ∀ x H', J.yld i H x H' → g x σ H' fun σ2 H2 => tb { D with nx := N, ct := N, bk := D.nx } σ2 H2)) : tFor wi g tb D σ H := k
theorem r_nn {A : Prop} (k : A) : V.non = V.non ∧ A := ⟨rfl, k⟩
theorem i_refN {p : Addr} {A B : Prop} (k : A) : if (!decide (V.ref p = V.non)) = true then A else B := by rw [if_pos (by simp)]; exact k
theorem i_nonN {A B : Prop} (k : B) : if (!decide (V.non = V.non)) = true then A else B := by rw [if_neg (by simp)]; exact k
theorem i_ref {p : Addr} {A B : Prop} (k : B) : if decide (V.ref p = V.non) = true then A else B := by rw [if_neg (by simp)]; exact k
theorem i_nt {A B : Prop} (k : B) : if (!true) = true then A else B := by rw [if_neg (by decide)]; exact k
theorem i_nf {A B : Prop} (k : A) : if (!false) = true then A else B := by rw [if_pos (by decide)]; exact k
end Bs

set_option Elab.async false
set_option linter.all false
set_option maxRecDepth 100000
set_option maxHeartbeats 2000000
/-! Signs between instances of an own class, and between one and an int on either side. -/
namespace Bs
open PySem PySem.Spec PySem.Calls PyProof.Rows L2
section
variable {prog : Program} {w : World} {A : Around} {E : Value → Shared → Prop} {s : Shared} {K : PySem.W.Frag} {x C dx f g : Addr} {od : Option Obj} {ox : Obj} {nm : String} {b : Value}
theorem intBin_dn (n : String) (fn : Int → Int → Sem Fin) (r : Bool) (i : Int) (t : Tok) : GivesAt (fun s => s.heap.get? x = some (PySem.W.instObj C dx)) (Builtin.Int.intBinary n fn r ⟨[.int i t, .ref x], []⟩) (.val .notImplemented) := by
  intro prog w A R s hp h
  obtain ⟨hh, g, d, tt, os⟩ := s
  have hp' : hh.get? x = some (PySem.W.instObj C dx) := hp
  unfold Builtin.Int.intBinary
  wp_walk
  exact h
theorem intFdv_dn (i : Int) (t : Tok) : GivesAt (fun s => s.heap.get? x = some (PySem.W.instObj C dx)) (Builtin.«int.__floordiv__» ⟨[.int i t, .ref x], []⟩) (.val .notImplemented) := by
  intro prog w A R s hp h
  obtain ⟨hh, g, d, tt, os⟩ := s
  have hp' : hh.get? x = some (PySem.W.instObj C dx) := hp
  unfold Builtin.«int.__floordiv__»
  wp_walk
  exact h
/-- both of one class -/
theorem bin1_same {cd : ClassData} {rest : List Value} {Q : Value → Shared → Prop} (X : K.In s.heap) (I : PySem.W.InstAt s.heap x ox C od) (hb : PySem.W.Looks (model prog w) s.heap (typeOf b) (.ref C)) (hcd : PySem.W.clsIn K C = some cd) (hm : cd.mro = .ref C :: rest)
    (hs : PySem.W.findIn K (.ref C) (PySem.dunder nm) = some (some (.ref f))) (hf : PySem.W.isFn K (.ref f) = true) (h : wpAny (model prog w) A (call (.ref f) [.ref x, b]) (PySem.W.CmpBack Q) E s) :
    wpAny (model prog w) A (binaryOp1 nm (.ref x) b) (fun r s' => ∃ v, r = some v ∧ Q v s') E s := by
  have one := PySem.W.ksp_try X I hs hf h
  have L3 : PySem.W.Looks (model prog w) s.heap (fillsNumberSlot (.ref C) nm) true := PySem.W.fills_K X hcd hm hs
  obtain ⟨hh, g, d, tt, os⟩ := s
  unfold binaryOp1
  refine wpAny_bind (I.type.at (wpAny_bind (hb.at (wpAny_bind (L3.at ?_)))))
  simp only [beq_self_eq_true, if_true]
  ksp_lk
  refine wpAny_mono one (fun r s' hr' => ?_) fun _ _ e => e
  obtain ⟨v, rfl, hq⟩ := hr'
  ksp_lk
  exact ⟨v, rfl, hq⟩
/-- an int on the right -/
theorem bin1_left {cd : ClassData} {rest : List Value} {rc : Option Value} {Q : Value → Shared → Prop} {i : Int} {t : Tok} {fo : Value} (X : K.In s.heap) (I : PySem.W.InstAt s.heap x ox C od) (hcd : PySem.W.clsIn K C = some cd) (hm : cd.mro = .ref C :: rest)
    (hs : PySem.W.findIn K (.ref C) (PySem.dunder nm) = some (some (.ref f))) (hf : PySem.W.isFn K (.ref f) = true) (hr : PySem.W.findIn K (.ref C) (dunderR nm) = some rc) (hp : rc = none ∨ ∃ g : Addr, rc = some (.ref g)) (fi : fillsNumberSlot (.type "int") nm = pure true)
    (h2 : PySem.W.findIn K (.type "int") (dunderR nm) = some (some fo)) (hsub : PySem.W.subIn K (.type "int") (.ref C) = some false)
    (h : wpAny (model prog w) A (call (.ref f) [.ref x, .int i t]) (PySem.W.CmpBack Q) E s) : wpAny (model prog w) A (binaryOp1 nm (.ref x) (.int i t)) (fun r s' => ∃ v, r = some v ∧ Q v s') E s := by
  have one := PySem.W.ksp_try X I hs hf h
  have L1 := I.type (M := model prog w)
  have L2 : PySem.W.Looks (model prog w) s.heap (typeOf (.int i t)) (.type "int") := PySem.W.Looks.of_pure rfl
  have L3 : PySem.W.Looks (model prog w) s.heap (fillsNumberSlot (.ref C) nm) true := PySem.W.fills_K X hcd hm hs
  have L4 : PySem.W.Looks (model prog w) s.heap (fillsNumberSlot (.type "int") nm) true := PySem.W.Looks.of_pure fi
  have L5 : PySem.W.Looks (model prog w) s.heap (isSubtype (.type "int") (.ref C)) false := PySem.W.looks_subIn X hsub
  have L6 : PySem.W.Looks (model prog w) s.heap (numberSlotInPython (.ref C) nm) true := PySem.W.ksp_inPy X hs hr hp
  have L7 : PySem.W.Looks (model prog w) s.heap (numberSlotInPython (.type "int") nm) false := PySem.W.Looks.of_pure rfl
  have L8 : PySem.W.Looks (model prog w) s.heap (typeLookup (.type "int") (dunderR nm)) (some fo) := PySem.W.looks_findIn X h2
  obtain ⟨hh, g, d, tt, os⟩ := s
  have hne : (Value.ref C == Value.type "int") = false := Bool.eq_false_iff.mpr fun q => by cases beq_iff_eq.mp q
  unfold binaryOp1
  refine wpAny_bind (L1.at (wpAny_bind (L2.at (wpAny_bind (L3.at ?_)))))
  simp only [hne, Bool.false_eq_true, if_false]
  ksp_lk
  refine wpAny_mono one (fun r s' hr' => ?_) fun _ _ e => e
  obtain ⟨v, rfl, hq⟩ := hr'
  ksp_lk
  exact ⟨v, rfl, hq⟩
/-- an int on the left -/
theorem bin1_right {cd : ClassData} {rest : List Value} {Q : Value → Shared → Prop} {i : Int} {t : Tok} {id : String} {B : Builtin} (X : K.In s.heap) (I : PySem.W.InstAt s.heap x (PySem.W.instObj C dx) C od) (hcd : PySem.W.clsIn K C = some cd) (hm : cd.mro = .ref C :: rest)
    (hd : PySem.W.findIn K (.ref C) (PySem.dunder nm) = some (some (.ref g))) (hs : PySem.W.findIn K (.ref C) (dunderR nm) = some (some (.ref f))) (hf : PySem.W.isFn K (.ref f) = true) (fi : fillsNumberSlot (.type "int") nm = pure true)
    (sl : Slot "int" (dunder nm) id) (en : entryFor table id = some B) (ar : ∀ a b, argsOk id ⟨[a, b], []⟩) (dn : GivesAt (fun s => s.heap.get? x = some (PySem.W.instObj C dx)) (B ⟨[.int i t, .ref x], []⟩) (.val .notImplemented))
    (hsub : PySem.W.subIn K (.ref C) (.type "int") = some false) (h : wpAny (model prog w) A (call (.ref f) [.ref x, .int i t]) (PySem.W.CmpBack Q) E s) : wpAny (model prog w) A (binaryOp1 nm (.int i t) (.ref x)) (fun r s' => ∃ v, r = some v ∧ Q v s') E s := by
  have one := PySem.W.ksp_try X I hs hf h
  have L1 := I.type (M := model prog w)
  have L2 : PySem.W.Looks (model prog w) s.heap (typeOf (.int i t)) (.type "int") := PySem.W.Looks.of_pure rfl
  have L3 : PySem.W.Looks (model prog w) s.heap (fillsNumberSlot (.ref C) nm) true := PySem.W.fills_K X hcd hm hd
  have L4 : PySem.W.Looks (model prog w) s.heap (fillsNumberSlot (.type "int") nm) true := PySem.W.Looks.of_pure fi
  have L5 : PySem.W.Looks (model prog w) s.heap (isSubtype (.ref C) (.type "int")) false := PySem.W.looks_subIn X hsub
  have L7 : PySem.W.Looks (model prog w) s.heap (numberSlotInPython (.type "int") nm) false := PySem.W.Looks.of_pure rfl
  have two : wpAny (model prog w) A (tryMethod (.int i t) (dunder nm) (.ref x)) (fun r s' => r = none ∧ s' = s) E s := by
    refine wpAny_tryMethod_declines (typeIs_int s i t) sl ?_
    exact call_givesAt sl (typeIs_int s i t) en (ar _ _) dn I.at_ ⟨rfl, rfl, rfl⟩
  obtain ⟨hh, g, d, tt, os⟩ := s
  have hne : (Value.type "int" == Value.ref C) = false := Bool.eq_false_iff.mpr fun q => by cases beq_iff_eq.mp q
  unfold binaryOp1
  refine wpAny_bind (L2.at (wpAny_bind (L1.at (wpAny_bind (L4.at ?_)))))
  simp only [hne, Bool.false_eq_true, if_false]
  ksp_lk
  refine wpAny_mono two (fun r s' hr' => ?_) fun _ _ e => e
  obtain ⟨rfl, rfl⟩ := hr'
  ksp_lk
  refine wpAny_mono one (fun r s' hr' => ?_) fun _ _ e => e
  obtain ⟨v, rfl, hq⟩ := hr'
  ksp_lk
  exact ⟨v, rfl, hq⟩
end
end Bs
namespace Bs
open PySem PySem.Spec PySem.Calls PyProof.Rows L2
/-- a method's def of an own class, found by its name -/
structure MeC (P : Program) (w : World) (K : PySem.W.Frag) (mg : Str → Option Value) (base : Heap) (CX : CXT) (C : Addr) (m : Str) (k : Nat) (ps : List Str) (sp : Sp) (f : Addr) : Prop where
  at_ : PySem.W.findIn K (.ref C) m = some (some (.ref f))
  fn : PySem.W.isFn K (.ref f) = true
  ex : ∃ fd, FnOk P w K mg base CX k f fd ps sp ∧ Binds K fd ps []
/-- int's side of a sign -/
structure IntS (nm : String) : Prop where
  fi : fillsNumberSlot (.type "int") nm = pure true
  dn : ∃ (id : String) (B : Builtin), Slot "int" (dunder nm) id ∧ entryFor table id = some B ∧ (∀ a b, argsOk id ⟨[a, b], []⟩) ∧ ∀ (i : Int) (t : Tok) (x C dx : Addr), GivesAt (fun s => s.heap.get? x = some (PySem.W.instObj C dx)) (B ⟨[.int i t, .ref x], []⟩) (.val .notImplemented)
/-- the class's side -/
structure ClsS (K : PySem.W.Frag) (C : Addr) : Prop where
  sf : PySem.W.selfFirst K C = true
  s1 : PySem.W.subIn K (.type "int") (.ref C) = some false
  s2 : PySem.W.subIn K (.ref C) (.type "int") = some false
/-- a sign of an own class: f between, g reflected -/
structure OpS (P : Program) (w : World) (K : PySem.W.Frag) (mg : Str → Option Value) (base : Heap) (CX : CXT) (C : Addr) (nm : String) (k : Nat) (sp spR : Sp) : Prop where
  cs : ClsS K C
  is : IntS nm
  ri : ∃ fo, PySem.W.findIn K (.type "int") (dunderR nm) = some (some fo)
  ex : ∃ f g, MeC P w K mg base CX C (dunder nm) k ["self", "other"] sp f ∧ MeC P w K mg base CX C (dunderR nm) k ["self", "other"] spR g
theorem back_of {X : Cx} {pins : List (Addr × Obj)} {σ : L2.St} {Q : VK} {v : Value} {s : Shared} (h : EP X pins σ Q v s) : PySem.W.CmpBack (EP X pins σ Q) v s := by
  cases v with
  | notImplemented =>
    obtain ⟨x, H', _, r, _⟩ := h
    cases x with
    | int i => obtain ⟨t, e⟩ := r; cases e
    | str i => obtain ⟨t, e⟩ := r; cases e
    | byt i => obtain ⟨t, e⟩ := r; cases e
    | flt i => obtain ⟨t, e⟩ := r; cases e
    | _ => cases r
  | _ => exact h
section
variable {X : Cx} {CX : CXT} {C : Addr} {m : Str} {j k : Nat} {ps : List Str} {sp spR : Sp} {f : Addr} {E : XK} {nm : String}
theorem MeC.call (c : MeC X.prog X.w X.K X.mg X.base CX C m k ps sp f) (hr : Room j X.A) (hk : k ≤ j) {pins : List (Addr × Obj)} {σ : L2.St} (hx : PassesAt CX X σ E) {H : Hp} {s : Shared} {Q : VK} {us : List Value} {vs : List V} (I : Inv X pins σ H s) (r : Vals vs us) (h : sp vs H Q E) :
    wpAny (model X.prog X.w) X.A (call (.ref f) us) (EP X pins σ Q) X.xe s := by
  obtain ⟨fd, F, b⟩ := c.ex
  have l := F.len _ _ _ _ h
  have cb : Cb X.K fd ps vs.length [] (fun vs _ => vs) := ⟨fun us _ => us, by
    refine ⟨fun s us ws X l1 l2 => ?_, fun r _ => r⟩
    have e : ws = [] := List.length_eq_zero_iff.mp l2
    subst e
    have := b s us X (by simpa [l1] using l)
    simpa using this⟩
  exact go_fn (ws := []) (zs := []) (E := fun _ => E) F (hr.mono hk) cb hx I r .nil rfl rfl h
/-- x op y -/
def rOwn (C : Addr) (sp spR : Sp) (E : XK) : R2 := fun x y H Q => (∃ a dx fs, x = .ref a ∧ H a = some (.ins C dx fs) ∧ ((∃ i, y = .int i) ∨ ∃ b dx fs, y = .ref b ∧ H b = some (.ins C dx fs)) ∧ sp [x, y] H Q E) ∨
  ∃ i a dx fs, x = .int i ∧ y = .ref a ∧ H a = some (.ins C dx fs) ∧ spR [y, x] H Q E
theorem own1 (c : OpS X.prog X.w X.K X.mg X.base CX C nm k sp spR) (hr : Room j X.A) (hk : k ≤ j) {pins : List (Addr × Obj)} {σ : L2.St} (hx : PassesAt CX X σ E) {H : Hp} {s : Shared} {Q : VK} {u v : Value} {x y : V} (I : Inv X pins σ H s) (rx : RelV x u) (ry : RelV y v)
    (h : rOwn C sp spR E x y H Q) : wpAny (model X.prog X.w) X.A (binaryOp1 nm u v) (fun r s' => ∃ v, r = some v ∧ EP X pins σ Q v s') X.xe s := by
  obtain ⟨f, g, mf, mg⟩ := c.ex
  obtain ⟨cd, rest, hcd, hm⟩ := PySem.W.ksp_first c.cs.sf
  rcases h with ⟨a, dx, fs, rfl, ea, hy, q⟩ | ⟨i, a, dx, fs, rfl, rfl, ea, q⟩
  · obtain rfl : u = Value.ref a := rx
    obtain ⟨mA, O, _⟩ := ins_get I.hok ea
    obtain ⟨od, J, _⟩ := O.look
    have run : wpAny (model X.prog X.w) X.A (call (.ref f) [.ref a, v]) (PySem.W.CmpBack (EP X pins σ Q)) X.xe s :=
      wpAny_mono (mf.call (vs := [.ref a, y]) hr hk hx I (.cons rfl (.cons ry .nil)) q) (fun _ _ z => back_of z) fun _ _ z => z
    rcases hy with ⟨i, rfl⟩ | ⟨b, dy, gs, rfl, eb⟩
    · obtain ⟨t, rfl⟩ := ry
      obtain ⟨fo, hfo⟩ := c.ri
      exact bin1_left I.kIn J hcd hm mf.at_ mf.fn mg.at_ (.inr ⟨g, rfl⟩) c.is.fi hfo c.cs.s1 run
    · obtain rfl : v = Value.ref b := ry
      obtain ⟨mB, O2, _⟩ := ins_get I.hok eb
      obtain ⟨od2, J2, _⟩ := O2.look
      exact bin1_same I.kIn J J2.type hcd hm mf.at_ mf.fn run
  · obtain ⟨t, rfl⟩ := rx
    obtain rfl : v = Value.ref a := ry
    obtain ⟨mA, O, _⟩ := ins_get I.hok ea
    obtain ⟨od, J, _⟩ := O.look
    have run : wpAny (model X.prog X.w) X.A (call (.ref g) [.ref a, .int i t]) (PySem.W.CmpBack (EP X pins σ Q)) X.xe s :=
      wpAny_mono (mg.call (vs := [.ref a, .int i]) hr hk hx I (.cons rfl (.cons ⟨t, rfl⟩ .nil)) q) (fun _ _ z => back_of z) fun _ _ z => z
    obtain ⟨id, B, sl, en, ar, dn⟩ := c.is.dn
    exact bin1_right I.kIn J hcd hm mf.at_ mg.at_ mg.fn c.is.fi sl en ar (dn _ _ _ _ _) c.cs.s2 run
/-- the reading of a sign whose defs may raise: E by the slots -/
def tOwn (C : Addr) (sp spR : Sp) (E : L2.St → XK) (ta tb : TE) : TE := fun σ H Q => ta σ H fun x H1 => tb σ H1 fun y H2 => rOwn C sp spR (E σ) x y H2 Q
theorem pe_own {E : L2.St → XK} {a b : Expr} {ta tb : TE} {pos : Pos} {op : Operator} (c : OpS X.prog X.w X.K X.mg X.base CX C op.info.2 k sp spR) (hr : Room j X.A) (hk : k ≤ j) (hx : ∀ σ, PassesAt CX X σ (E σ)) (ha : PE X a ta) (hb : PE X b tb) : PE X (.BinOp a op b pos) (tOwn C sp spR E ta tb) := by
  refine ⟨fun pins s σ H Q I h => wpAny_BinOp (binT ha hb I h fun v u s2 x y H2 I2 rx ry q => ?_)⟩
  unfold binaryOp
  refine wpAny_holding (wpAny_bind (wpAny_mono (own1 c hr hk (hx σ) I2 rx ry q) (fun r s' z => ?_) fun _ _ z => z))
  obtain ⟨v', rfl, z⟩ := z
  exact wpAny_pure z
/-- no sign that sets: the class and its bases have none -/
structure NoI (K : PySem.W.Frag) (C : Addr) (nm : String) : Prop where
  ex : ∃ cd, PySem.W.clsIn K C = some cd ∧ ∀ c ∈ cd.mro, PySem.W.findIn K c (dunderI nm) = some none
theorem noI_any {K : PySem.W.Frag} {h : Heap} {M : Model} {i : Str} (X : K.In h) {F : Value → Value → Sem Bool} : ∀ {l : List Value}, (∀ c ∈ l, PySem.W.findIn K c i = some none) → PySem.W.Looks M h (l.anyM fun c => do
    let some x ← typeLookup c i | return false
    F c x) false
  | [], _ => .now
  | c :: r, e => by
    intro A Q E s k q
    have X' := X.keeps k
    rw [List.anyM_cons]
    refine wpAny_bind (wpAny_bind ((PySem.W.looks_findIn X (e c List.mem_cons_self)) A _ E s k ?_))
    refine wpAny_pure ?_
    simp only [Bool.false_eq_true, if_false]
    exact noI_any X (fun d m => e d (List.mem_cons_of_mem _ m)) A Q E s k q
theorem noI_looks {K : PySem.W.Frag} {h : Heap} {M : Model} {add : Bool} (n : NoI K C nm) (X : K.In h) : PySem.W.Looks M h (fillsInplaceSlot (.ref C) nm add) false := by
  obtain ⟨cd, e, z⟩ := n.ex
  have Lm : PySem.W.Looks M h (mroOf (.ref C)) cd.mro := (PySem.W.looks_clsIn X e).andThen (f := fun cd => pure cd.mro) .now
  intro A Q E s k q
  unfold fillsInplaceSlot
  refine wpAny_bind (Lm A _ E s k ?_)
  exact noI_any X z A Q E s k q
/-- x op= y -/
theorem ip_own {op : Operator} (c : OpS X.prog X.w X.K X.mg X.base CX C op.info.2 k sp spR) (n : NoI X.K C op.info.2) (hr : Room j X.A) (hk : k ≤ j) (hx : ∀ σ, PassesAt CX X σ E) : PIp X op (fun x y H Q => (∃ a dx fs, x = .ref a ∧ H a = some (.ins C dx fs)) ∧ rOwn C sp spR E x y H Q) := by
  intro pins s σ H x y u v Q I rx ry ⟨⟨a, dx, fs, ex, ea⟩, q⟩
  subst ex
  have one := own1 c hr hk (hx σ) I rx ry q
  obtain rfl : u = Value.ref a := rx
  obtain ⟨mA, O, _⟩ := ins_get I.hok ea
  obtain ⟨od, J, _⟩ := O.look
  have L1 := J.type (M := model X.prog X.w)
  have L2 := noI_looks (M := model X.prog X.w) (add := op == .Add) n I.kIn
  obtain ⟨hh, g, d, tt, os⟩ := s
  unfold inplaceOp
  refine wpAny_holding (wpAny_bind (L1.at (wpAny_bind (L2.at ?_))))
  simp only [Bool.false_eq_true, if_false]
  refine wpAny_bind (wpAny_mono one (fun r s' z => ?_) fun _ _ z => z)
  obtain ⟨v', rfl, z⟩ := z
  exact wpAny_pure z
/-- op x -/
def rUn (C : Addr) (sp : Sp) (E : XK) : V → Hp → VK → Prop := fun x H Q => ∃ a dx fs, x = .ref a ∧ H a = some (.ins C dx fs) ∧ sp [x] H Q E
theorem un_neg_own {f : Addr} (c : MeC X.prog X.w X.K X.mg X.base CX C "__neg__" k ["self"] sp f) (hr : Room j X.A) (hk : k ≤ j) (hx : ∀ σ, PassesAt CX X σ E) : UnR X (unaryOp .USub) (rUn C sp E) := by
  intro pins s σ H x v Q I rx ⟨a, dx, fs, ex, ea, q⟩
  subst ex
  obtain rfl : v = Value.ref a := rx
  obtain ⟨mA, O, _⟩ := ins_get I.hok ea
  obtain ⟨od, J, _⟩ := O.look
  obtain ⟨m, F⟩ := I.fr
  exact PySem.W.ksp_neg F I.ok.mod.kin J c.at_ c.fn (c.call (vs := [.ref a]) hr hk (hx σ) I (.cons rfl .nil) q)
theorem un_inv_own {f : Addr} (c : MeC X.prog X.w X.K X.mg X.base CX C "__invert__" k ["self"] sp f) (hr : Room j X.A) (hk : k ≤ j) (hx : ∀ σ, PassesAt CX X σ E) : UnR X (unaryOp .Invert) (rUn C sp E) := by
  intro pins s σ H x v Q I rx ⟨a, dx, fs, ex, ea, q⟩
  subst ex
  obtain rfl : v = Value.ref a := rx
  obtain ⟨mA, O, _⟩ := ins_get I.hok ea
  obtain ⟨od, J, _⟩ := O.look
  obtain ⟨m, F⟩ := I.fr
  exact PySem.W.ksp_inv F I.ok.mod.kin J c.at_ c.fn (c.call (vs := [.ref a]) hr hk (hx σ) I (.cons rfl .nil) q)
/-- what is never reached -/
def tDead : TS := fun _ _ _ => False
theorem ps_dead {st : Stmt} : PS X st tDead := ⟨fun _ _ _ _ _ _ h => h.elim⟩
/-! int's side of the signs -/
theorem is_add : IntS "add" := ⟨F.fills_int_add, _, _, F.slot_int_add, F.entry_int_add, F.args_int_add_2, fun _ _ _ _ _ => intBin_dn _ _ _ _ _⟩
theorem is_sub : IntS "sub" := ⟨F.fills_int_sub, _, _, F.slot_int_sub, F.entry_int_sub, F.args_int_sub_2, fun _ _ _ _ _ => intBin_dn _ _ _ _ _⟩
theorem is_mul : IntS "mul" := ⟨F.fills_int_mul, _, _, F.slot_int_mul, F.entry_int_mul, F.args_int_mul_2, fun _ _ _ _ _ => intBin_dn _ _ _ _ _⟩
theorem is_floordiv : IntS "floordiv" := ⟨F.fills_int_floordiv, _, _, F.slot_int_floordiv, F.entry_int_floordiv, F.args_int_floordiv_2, fun _ _ _ _ _ => intFdv_dn _ _⟩
theorem is_and : IntS "and" := ⟨F.fills_int_and, _, _, F.slot_int_and, F.entry_int_and, F.args_int_and_2, fun _ _ _ _ _ => intBin_dn _ _ _ _ _⟩
theorem is_or : IntS "or" := ⟨F.fills_int_or, _, _, F.slot_int_or, F.entry_int_or, F.args_int_or_2, fun _ _ _ _ _ => intBin_dn _ _ _ _ _⟩
theorem is_xor : IntS "xor" := ⟨F.fills_int_xor, _, _, F.slot_int_xor, F.entry_int_xor, F.args_int_xor_2, fun _ _ _ _ _ => intBin_dn _ _ _ _ _⟩
end
end Bs



namespace Bs
open PySem PySem.Spec PySem.Calls PyProof.Rows L2
section
variable {X : Cx} {CX : CXT} {C : Addr} {m : Str} {j k : Nat} {ps : List Str} {sp : Sp} {f : Addr} {E : XK}
theorem MeC.call1 (c : MeC X.prog X.w X.K X.mg X.base CX C m k ps sp f) (hr : Room (k + 1) X.A) {pins : List (Addr × Obj)} {σ : L2.St} (hx : PassesAt CX X σ E) {H : Hp} {s : Shared} {Q : VK} {us : List Value} {vs : List V} (I : Inv X pins σ H s) (r : Vals vs us) (h : sp vs H Q E) :
    wpAny (model X.prog X.w) X.A.in1 (PySem.call (.ref f) us) (EP X pins σ Q) X.xe s := by
  obtain ⟨fd, F, b⟩ := c.ex
  have l := F.len _ _ _ _ h
  have bt := b s us I.kIn (by rw [List.append_nil, ← r.length, l])
  rw [List.append_nil] at bt
  apply wpAny_call
  apply codeAny_mono (F.run X.A.in1 X.stack s H ⟨us, []⟩ us vs Q E hr.in1 I.env0.in1 bt r h)
  intro rs t q
  match rs, q with
  | .error er, q => exact hx pins H s er t I q
  | .ok (.ret u), q => exact I.after q
  | .ok .next, q => exact q.elim
  | .ok .brk, q => exact q.elim
  | .ok .cont, q => exact q.elim
/-- x[y] of an own class -/
def tIxOwn (C : Addr) (sp : Sp) (E : L2.St → XK) (ta tb : TE) : TE := fun σ H Q => ta σ H fun x H1 => tb σ H1 fun y H2 => ∃ a dx fs, x = .ref a ∧ H2 a = some (.ins C dx fs) ∧ sp [.ref a, y] H2 Q (E σ)
theorem pe_ixOwn {E : L2.St → XK} {e1 e2 : Expr} {ta tb : TE} {pos : Pos} (c : MeC X.prog X.w X.K X.mg X.base CX C "__getitem__" k ["self", "at"] sp f) (hf : PySem.W.fnIn X.K f = true) (hr : Room j X.A) (hk : k + 1 ≤ j) (hx : ∀ σ, PassesAt CX X σ (E σ)) (ha : PE X e1 ta) (hb : PE X e2 tb)
    (hsl : ∀ o i, subscripted e2 true o i = runValue (.builtin "lifetime.subscript" ⟨[o, i], []⟩) := by intros; with_unfolding_all rfl) : PE X (.Subscript e1 e2 pos) (tIxOwn C sp E ta tb) := by
  refine ⟨fun pins s σ H Q I h => Subscript_ (binT ha hb I h fun v u s2 x y H2 I2 rx ry q => ?_)⟩
  obtain ⟨a, dx, fs, ex, ea, q⟩ := q
  subst ex
  obtain rfl : v = Value.ref a := rx
  obtain ⟨mA, O, _⟩ := ins_get I2.hok ea
  obtain ⟨od, J, _⟩ := O.look
  obtain ⟨m, F⟩ := I2.fr
  exact PySem.W.sub_K F I2.ok.mod.kin J c.at_ hf c.fn (c.call1 (vs := [.ref a, y]) (hr.mono hk) (hx σ) I2 (.cons rfl (.cons ry .nil)) q) (hsl _ _)
end
end Bs

set_option Elab.async false
set_option linter.all false
set_option maxRecDepth 100000
set_option maxHeartbeats 2000000
/-! Signs of own classes with an int on the right alone; signs that set, by the slots. -/
namespace Bs
open PySem PySem.Spec PySem.Calls PyProof.Rows L2
/-- a sign of an own class for an int on the right; nothing reflected -/
structure OpL (P : Program) (w : World) (K : PySem.W.Frag) (mg : Str → Option Value) (base : Heap) (CX : CXT) (C : Addr) (nm : String) (k : Nat) (sp : Sp) : Prop where
  cs : ClsS K C
  fi : fillsNumberSlot (.type "int") nm = pure true
  ri : ∃ fo, PySem.W.findIn K (.type "int") (dunderR nm) = some (some fo)
  rn : PySem.W.findIn K (.ref C) (dunderR nm) = some none
  ex : ∃ f, MeC P w K mg base CX C (dunder nm) k ["self", "other"] sp f
def rOwnL (C : Addr) (sp : Sp) (E : XK) : R2 := fun x y H Q => ∃ a dx fs i, x = .ref a ∧ y = .int i ∧ H a = some (.ins C dx fs) ∧ sp [.ref a, .int i] H Q E
section
variable {X : Cx} {CX : CXT} {C : Addr} {j k : Nat} {sp spR : Sp} {E : XK} {nm : String}
theorem ownL1 (c : OpL X.prog X.w X.K X.mg X.base CX C nm k sp) (hr : Room j X.A) (hk : k ≤ j) {pins : List (Addr × Obj)} {σ : L2.St} (hx : PassesAt CX X σ E) {H : Hp} {s : Shared} {Q : VK} {u v : Value} {x y : V} (I : Inv X pins σ H s) (rx : RelV x u) (ry : RelV y v)
    (h : rOwnL C sp E x y H Q) : wpAny (model X.prog X.w) X.A (binaryOp1 nm u v) (fun r s' => ∃ v, r = some v ∧ EP X pins σ Q v s') X.xe s := by
  obtain ⟨a, dx, fs, i, rfl, rfl, ea, q⟩ := h
  obtain ⟨f, mf⟩ := c.ex
  obtain ⟨cd, rest, hcd, hm⟩ := PySem.W.ksp_first c.cs.sf
  obtain rfl : u = Value.ref a := rx
  obtain ⟨t, rfl⟩ := ry
  obtain ⟨mA, O, _⟩ := ins_get I.hok ea
  obtain ⟨od, J, _⟩ := O.look
  have run : wpAny (model X.prog X.w) X.A (call (.ref f) [.ref a, .int i t]) (PySem.W.CmpBack (EP X pins σ Q)) X.xe s :=
    wpAny_mono (mf.call (vs := [.ref a, .int i]) hr hk hx I (.cons rfl (.cons ⟨t, rfl⟩ .nil)) q) (fun _ _ z => back_of z) fun _ _ z => z
  obtain ⟨fo, hfo⟩ := c.ri
  exact bin1_left I.kIn J hcd hm mf.at_ mf.fn c.rn (.inl rfl) c.fi hfo c.cs.s1 run
def tOwnL (C : Addr) (sp : Sp) (E : L2.St → XK) (ta tb : TE) : TE := fun σ H Q => ta σ H fun x H1 => tb σ H1 fun y H2 => rOwnL C sp (E σ) x y H2 Q
theorem pe_ownL {E : L2.St → XK} {a b : Expr} {ta tb : TE} {pos : Pos} {op : Operator} (c : OpL X.prog X.w X.K X.mg X.base CX C op.info.2 k sp) (hr : Room j X.A) (hk : k ≤ j) (hx : ∀ σ, PassesAt CX X σ (E σ)) (ha : PE X a ta) (hb : PE X b tb) : PE X (.BinOp a op b pos) (tOwnL C sp E ta tb) := by
  refine ⟨fun pins s σ H Q I h => wpAny_BinOp (binT ha hb I h fun v u s2 x y H2 I2 rx ry q => ?_)⟩
  unfold binaryOp
  refine wpAny_holding (wpAny_bind (wpAny_mono (ownL1 c hr hk (hx σ) I2 rx ry q) (fun r s' z => ?_) fun _ _ z => z))
  obtain ⟨v', rfl, z⟩ := z
  exact wpAny_pure z
/-- signs that set: what they ask may hang on the slots -/
def PIpD (X : Cx) (op : Operator) (t : L2.St → TIp) : Prop :=
  ∀ (pins : List (Addr × Obj)) (s : Shared) (σ : L2.St) (H : Hp) (x y : V) (v u : Value) (Q : VK), Inv X pins σ H s → RelV x v → RelV y u → t σ x y H Q → wpAny (model X.prog X.w) X.A (inplaceOp op v u) (EP X pins σ Q) X.xe s
def tAugD (i : Nat) (te : TE) (ti : L2.St → TIp) : TS := fun D σ H => ∃ x, σ[i]? = some (some x) ∧ te σ H fun y H1 => ti σ x y H1 fun z H2 => D.nx (σ.set i (some z)) H2
theorem ps_augD {i : Nat} {x : Str} {e : Expr} {te : TE} {op : Operator} {ti : L2.St → TIp} {pos pos' : Pos} (nd : X.N.Nodup) (at_ : X.N[i]? = some x) (lx : Loc X.env.scope x) (pe : PE X e te) (po : PIpD X op ti) (fx : X.fn x = true ∨ X.env.scope.names.lookup x = some .local := by first | exact .inl rfl | exact .inr rfl | assumption) :
    PS X (.AugAssign (.Name x pos') op e pos) (tAugD i te ti) := by
  refine ⟨fun pins s σ H D I h => ?_⟩
  obtain ⟨v, ev, h⟩ := h
  obtain ⟨m, hn, hl⟩ := I.loc
  obtain ⟨u, r, l⟩ := hl i x v at_ ev (lx.elim (fun k => .inl k) fun k => .inr (.inl k))
  refine wpAny_AugAssign_Name ?_
  have both := fun (w' : Value) (s1 : Shared) (z : EP X pins σ (fun y H1 => ti σ v y H1 fun z H2 => D.nx (σ.set i (some z)) H2) w' s1) => match z with
    | ⟨y, H1, I1, r1, q1⟩ => thn (po pins s1 σ H1 v y u w' _ I1 r r1 q1) fun r' s2 (z2 : EP X pins σ (fun z H2 => D.nx (σ.set i (some z)) H2) r' s2) => match z2 with
      | ⟨zv, H2, I2, r2, q2⟩ => store_ok (M := model X.prog X.w) (A := X.A) (E := X.xe) (Q := fun _ => SP X pins D .next) I2 nd at_ lx r2 (fun s3 I3 => ⟨_, H2, I3, q2⟩) fx
  have go := thn (pe.run pins s σ H _ I h) both
  rcases l with ⟨hk, hm⟩ | ⟨hk, c, hc, hcell⟩
  · exact wpAny_loadName_local I.ok.kind hk hn hm go
  · rcases hk with hk | hk
    · exact wpAny_loadName_cell I.ok.kind hk hc hcell go
    · rcases lx with k | k <;> (rw [show X.env.scope.names.lookup x = some .free from hk] at k; cases k)
theorem inp_of {op : Operator} (n : NoI X.K C op.info.2) {pins : List (Addr × Obj)} {σ : L2.St} {H : Hp} {s : Shared} {Q : VK} {a dx : Addr} {fs : List (Str × V)} {v : Value} (I : Inv X pins σ H s) (ea : H a = some (.ins C dx fs))
    (one : wpAny (model X.prog X.w) X.A (binaryOp1 op.info.2 (.ref a) v) (fun r s' => ∃ v, r = some v ∧ EP X pins σ Q v s') X.xe s) : wpAny (model X.prog X.w) X.A (inplaceOp op (.ref a) v) (EP X pins σ Q) X.xe s := by
  obtain ⟨mA, O, _⟩ := ins_get I.hok ea
  obtain ⟨od, J, _⟩ := O.look
  have L1 := J.type (M := model X.prog X.w)
  have L2 := noI_looks (M := model X.prog X.w) (add := op == .Add) n I.kIn
  obtain ⟨hh, g, d, tt, os⟩ := s
  unfold inplaceOp
  refine wpAny_holding (wpAny_bind (L1.at (wpAny_bind (L2.at ?_))))
  simp only [Bool.false_eq_true, if_false]
  refine wpAny_bind (wpAny_mono one (fun r s' z => ?_) fun _ _ z => z)
  obtain ⟨v', rfl, z⟩ := z
  exact wpAny_pure z
def ipOwn (C : Addr) (sp spR : Sp) (E : L2.St → XK) : L2.St → TIp := fun σ x y H Q => (∃ a dx fs, x = .ref a ∧ H a = some (.ins C dx fs)) ∧ rOwn C sp spR (E σ) x y H Q
theorem ipd_own {E : L2.St → XK} {op : Operator} (c : OpS X.prog X.w X.K X.mg X.base CX C op.info.2 k sp spR) (n : NoI X.K C op.info.2) (hr : Room j X.A) (hk : k ≤ j) (hx : ∀ σ, PassesAt CX X σ (E σ)) : PIpD X op (ipOwn C sp spR E) := by
  intro pins s σ H x y u v Q I rx ry ⟨⟨a, dx, fs, ex, ea⟩, q⟩
  subst ex
  have one := own1 c hr hk (hx σ) I rx ry q
  obtain rfl : u = Value.ref a := rx
  exact inp_of n I ea one
def ipOwnL (C : Addr) (sp : Sp) (E : L2.St → XK) : L2.St → TIp := fun σ => rOwnL C sp (E σ)
theorem ipd_ownL {E : L2.St → XK} {op : Operator} (c : OpL X.prog X.w X.K X.mg X.base CX C op.info.2 k sp) (n : NoI X.K C op.info.2) (hr : Room j X.A) (hk : k ≤ j) (hx : ∀ σ, PassesAt CX X σ (E σ)) : PIpD X op (ipOwnL C sp E) := by
  intro pins s σ H x y u v Q I rx ry q
  have one := ownL1 c hr hk (hx σ) I rx ry q
  obtain ⟨a, dx, fs, i, rfl, rfl, ea, q⟩ := q
  obtain rfl : u = Value.ref a := rx
  exact inp_of n I ea one
/-! readings -/
abbrev cOwn2 (C : Addr) (sp spR : Sp) (E : XK) (x y : V) (H : Hp) (Q : VK) : Prop := rOwn C sp spR E x y H Q
variable {σ : L2.St} {H : Hp} {Q : VK} {D : Ends} {ta tb te : TE} {i : Nat} {a dx : Addr} {fs : List (Str × V)} {n : Int} {x y : V}
def cOwnL (C : Addr) (sp : Sp) (E : XK) (Q : VK) (x y : V) (H : Hp) : Prop := rOwnL C sp E x y H Q
theorem r_ownL {E : L2.St → XK} (h : ta σ H fun x H1 => tb σ H1 (cOwnL C sp (E σ) Q x)) : tOwnL C sp E ta tb σ H Q := h
theorem ownL_w (e : H a = some (.ins C dx fs)) (h : sp [.ref a, .int n] H Q E) : cOwnL C sp E Q (.ref a) (.int n) H := ⟨a, dx, fs, n, rfl, rfl, e, h⟩
theorem r_augD {ti : L2.St → TIp} (e : σ[i]? = some (some x)) (h : te σ H fun y H1 => ti σ x y H1 fun z H2 => D.nx (σ.set i (some z)) H2) : tAugD i te ti D σ H := ⟨x, e, h⟩
theorem r_ipL {E : L2.St → XK} (h : cOwnL C sp (E σ) Q x y H) : ipOwnL C sp E σ x y H Q := h
theorem r_ipO {E : L2.St → XK} (e : H a = some (.ins C dx fs)) (h : cOwn2 C sp spR (E σ) (.ref a) y H Q) : ipOwn C sp spR E σ (.ref a) y H Q := ⟨⟨a, dx, fs, rfl, e⟩, h⟩
end
end Bs

set_option Elab.async false
set_option linter.all false
set_option maxRecDepth 100000
set_option maxHeartbeats 4000000
/-! The end of a law whose def must know that no repr is under way; the head's facts. -/
namespace Bs
open PySem PySem.Spec PySem.Calls PyProof.Rows L2
theorem toV_ints : ∀ {vs : List Value} {ns : List Int}, IntsAre vs ns → vs.map toV = ns.map V.int ∧ ∀ u ∈ vs, ∀ A, OkU A u
  | _, _, .nil => ⟨rfl, fun u h => by cases h⟩
  | _, _, .cons n t h => by
    obtain ⟨e, g⟩ := toV_ints h
    refine ⟨?_, fun u hu A => ?_⟩
    · show V.int n :: _ = V.int n :: _
      rw [e]
    · rcases List.mem_cons.mp hu with q | q
      · rw [q]; exact trivial
      · exact g u q A
section
variable {P : Program} {w : World} {K : PySem.W.Frag} {mg mb : Str → Option Value} {k : Nat} {fa a : Addr} {fd : FuncData} {x : Str} {sp : Sp} {s : Shared} {vs : List Value} {ns : List Int}
theorem law_callG (X : K.In s.heap) (G : s.heap.Ns mainGlobals mg) (GB : s.heap.Ns builtinsNs mb) (bb : ∀ x : Str, x ≠ "__name__" → mb x = bootBuiltins x) (nl : s.heap.NoLimit) (ng : s.gens = #[]) (la : s.heap.get? a = some { cls := .type "list", data := .seq vs.toArray })
    (ia : IntsAre vs ns) (le : ns.length ≤ sizeLine) (rm : Room k callerA) (F : ∀ b : Heap, K.In b → b.Ns mainGlobals mg → FnG P w K mg b CX0 k fa fd [x] sp) (bi : ∀ (s : Shared) (u : Value), BindsTo s fd ⟨[u], []⟩ [(x, u)])
    (wish : ∀ H : Hp, SqL K H a (ns.map V.int) → sp [.ref a] H (fun v _ => v = .bl true) E0) :
    codeAny (model P w) callerA (.call (.ref fa) ⟨[.ref a], []⟩) (fun r t => r = .ok (.ret (.bool true)) ∧ OldK s.heap t.heap ∧ t.os = s.os ∧ AllBare t.gens) s := by
  obtain ⟨ev, eu⟩ := toV_ints ia
  have ar : ∀ b ∈ [a], ArgOb s.heap [a] b := fun b m => by
    obtain rfl := List.mem_singleton.mp m
    exact ⟨vs, by rw [ia.length]; exact le, fun u m => eu u m _, .inl la⟩
  generalize hH : argH K s.heap [a] = H
  have ok : HOk P w H s.heap := hH ▸ argH_ok ar
  have on : OnlyF H := hH ▸ argH_only ar
  have sq : SqL K H a (ns.map V.int) := ev ▸ (hH ▸ (argL X ar (List.mem_singleton_self a) la).2)
  have at_ : ∀ {b : Addr} {u : HO}, H b = some u → b = a ∧ K.lookup b = none := fun {b u} e => by
    rw [← hH] at e
    exact ⟨List.mem_singleton.mp (of_argH e).1, (of_argH e).2⟩
  have lo : ∀ {b : Addr} {o : Obj}, s.heap.get? b = some o → (b = a → K.lookup b ≠ none) → (hidT s.heap H).get? b = some o := fun {b o} e n => by
    refine hidT_get e ?_
    cases q : H b with
    | none => rfl
    | some u => exact absurd (at_ q).2 (n (at_ q).1)
  have kb : K.In (hidT s.heap H) := fun b o e => lo (X b o e) fun _ z => by rw [z] at e; cases e
  have nsb : ∀ {b : Addr} {m : Str → Option Value}, s.heap.Ns b m → (hidT s.heap H).Ns b m := by
    rintro b m ⟨o, es, p, e, d, r⟩
    refine ⟨o, es, p, lo e fun z => ?_, d, r⟩
    subst z
    rw [la] at e
    cases e
    exact nomatch d
  have md : Mod K mg (hidT s.heap H) := by
    obtain ⟨mc, c1, c2⟩ := nl
    exact ⟨kb, nsb G, ⟨mb, nsb GB, bb⟩, ⟨mc, nsb c1, c2⟩⟩
  have en : Env0 P w K mg (hidT s.heap H) callerA [] s H := ⟨rfl, md, fun b o => of_hidT, Nat.le_of_eq (hidT_size _ _), trivial, fun b m => (nomatch (show b ∈ ([] : List Addr) from m)), ok, .of_eq ng⟩
  refine codeAny_mono ((F _ kb (nsb G)).go callerA [] s H ⟨[.ref a], []⟩ [.ref a] [.ref a] _ _ rfl rm en (bi s (.ref a)) (.cons rfl .nil) (wish H sq)) ?_
  intro r t post
  match r, post with
  | .error _, p => exact p.elim
  | .ok .next, p => exact p.elim
  | .ok .brk, p => exact p.elim
  | .ok .cont, p => exact p.elim
  | .ok (.ret u), ⟨v, H', eos, br, un, ok', rv, ev⟩ =>
    have ev2 : v = .bl true := ev
    rw [ev2] at rv
    have eu2 : u = Value.bool true := rv
    refine ⟨by rw [eu2], OldK.of_keep fun b o e => ?_, eos, br⟩
    rcases on b with n | ⟨o', y, f⟩
    · exact un.keep b o e n (fun z => (nomatch (show b ∈ ([] : List Addr) from z))) (by simp)
    · have g1 := (ok b _ f).1
      have g2 := (ok' b _ (un.frzs b o' y f)).1
      rw [e] at g1
      rw [Option.some.inj g1]
      exact g2
/-- a law: F gives the written part, the function object, the promise over every base; the script's bits are told -/
theorem walk_G {l : PySem.W.OpenLaw} {n k : Nat} {q : Program} {loose : List Str} {XP : (Str → Option Value) → Heap → Prop} {YP : World → Heap → Prop} {d : DefRec} {x : Str} (mo : l.most = some n) (mo2 : n ≤ sizeLine) (nd : d.params.defaults = []) (rm : Room k callerA)
    (F : ∀ (w : World) (mg : Str → Option Value) (fa : Addr) (h : Heap), YP w h → h.Ns mainGlobals mg → mg d.name = some (.ref fa) → ∃ (K : PySem.W.Frag) (fd : FuncData) (sp : Sp), K.In h ∧ (∀ (s : Shared) (u : Value), BindsTo s fd ⟨[u], []⟩ [(x, u)]) ∧
      (∀ (H : Hp) (a : Addr) (ns : List Int), ns.length ≤ n → (∀ z ∈ ns, Builtin.Int.intBits z ≤ 1048576) → SqL K H a (ns.map V.int) → sp [.ref a] H (fun v _ => v = .bl true) E0) ∧ ∀ b : Heap, K.In b → b.Ns mainGlobals mg → FnG l.prog w K mg b CX0 k fa fd [x] sp) :
    PySem.W.WalkO q loose XP YP l.row.toRowW d [] (fun f vs => PySem.call f vs) := by
  refine Att.attach_callB mo nd fun w s₀ s mg mb fa o pm cd doc a vs ns G Y _ _ _ em la ia le bits ng => ?_
  obtain ⟨K, fd, sp, X, bi, wi, go⟩ := F w mg fa _ Y G.T.g em
  exact law_callG X G.T.g G.T.b G.T.builtins G.T.nolimit ng la ia (Nat.le_trans le mo2) rm go bi fun H S => wi H a ns le bits S
end
/-! ### the head: facts as questions to the written part -/
abbrev Qn : Type := PySem.W.Frag → Bool
def obsM (fa : List Qn) (fn : List He5.DefA) (K : PySem.W.Frag) : He.AlD := ((fa.all fun f => f K) && fn.all fun d => d.ok K, fn.map fun d => He5.fnA K (d.at_ K))
def SaysM (fa : List Qn) (fn : List He5.DefA) (K : PySem.W.Frag) : Prop := obsM fa fn K = He5.valA fn
def obsMG (n : Nat) (fa : List Qn) (fn : List He5.DefA) (g : Addr → Option Obj) : He.AlD := obsM fa fn (He.frG g (He5.asA g n))
def hookM (n : Nat) (fa : List Qn) (fn : List He5.DefA) : PySem.W.Hook where
  α := He.AlD
  obs := fun s => obsMG n fa fn s.heap.get?
  val := fun _ => He5.valA fn
  says := fun _ h => ∃ K : PySem.W.Frag, K.In h ∧ SaysM fa fn K
  of := fun _ _ e => ⟨_, He.frG_in, e⟩
  keeps := fun _ _ _ ⟨K, hK, c⟩ k => ⟨K, PySem.W.Frag.In.keeps hK k, c⟩
theorem obsMG_eq {n : Nat} {fa : List Qn} {fn : List He5.DefA} {g : Addr → Option Obj} {s : Shared} (h : ∀ a, g a = s.heap.get? a) : obsMG n fa fn g = (hookM n fa fn).obs s := by
  obtain rfl : g = s.heap.get? := funext h
  rfl
section
variable {fa : List Qn} {fn : List He5.DefA} {K : PySem.W.Frag}
theorem SaysM.q (c : SaysM fa fn K) (i : Nat) {f : Qn} (h : fa[i]? = some f := by rfl) : f K = true :=
  List.all_eq_true.mp (Bool.and_eq_true_iff.mp (congrArg (fun z : He.AlD => z.1) c : ((fa.all fun f => f K) && fn.all fun d => d.ok K) = true)).1 f (List.mem_of_getElem? h)
theorem SaysM.d (c : SaysM fa fn K) (i : Nat) {d : He5.DefA} (h : fn[i]? = some d := by rfl) : ∃ fd, FunD K d.name d.qual d.params d.body d.scope (d.dvs K) (d.kws K) (d.at_ K) fd := by
  have all := (Bool.and_eq_true_iff.mp (congrArg (fun z : He.AlD => z.1) c : ((fa.all fun f => f K) && fn.all fun d => d.ok K) = true)).2
  have vals : (fn.map fun d => He5.fnA K (d.at_ K))[i]? = (fn.map He5.DefA.val)[i]? := congrArg (fun z : He.AlD => z.2[i]?) c
  simp only [List.getElem?_map, h, Option.map_some, Option.some.injEq] at vals
  exact He5.DefA.funD vals (List.all_eq_true.mp all d (List.mem_of_getElem? h))
end
/-! questions -/
def qGlo (x : Str) : Qn := fun K => (He.Fa.glo x).ok K
def qFree (x : Str) : Qn := fun K => (He.Fa.free x).ok K
def qCls (x : Str) : Qn := fun K => (He.Fa.cls x).ok K
def qNoat (x f : Str) : Qn := fun K => (He.Fa.noat x f).ok K
def qMkr (x : Str) : Qn := fun K => (He.Fa.mkr x).ok K
def prp (K : PySem.W.Frag) (C : Addr) (f : Str) : Addr := match PySem.W.recIn K (He.ma K C f) "property" with
  | some (.ref g :: _) => g
  | _ => 0
def propB (K : PySem.W.Frag) (C : Addr) (f : Str) : Bool := decide (PySem.W.findIn K (.ref C) f = some (some (.ref (He.ma K C f)))) && (decide (PySem.W.specialIn K (.ref (He.ma K C f)) "__get__" = some (some (.builtin "property.__get__"))) &&
  (decide (PySem.W.takesIn K (.ref (He.ma K C f)) = some true) && (match PySem.W.recIn K (He.ma K C f) "property" with
    | some (.ref _ :: _) => true
    | _ => false)))
theorem ban {a b : Bool} (h : (a && b) = true) : a = true ∧ b = true := Bool.and_eq_true_iff.mp h
theorem propB_ok {K : PySem.W.Frag} {C : Addr} {f : Str} (h : propB K C f = true) : PropOf K C f (He.ma K C f) (prp K C f) := by
  obtain ⟨h1, h⟩ := ban h
  obtain ⟨h2, h⟩ := ban h
  obtain ⟨h3, h4⟩ := ban h
  refine ⟨of_decide_eq_true h1, of_decide_eq_true h2, of_decide_eq_true h3, ?_⟩
  unfold prp
  split at h4
  · rename_i g r e
    exact ⟨r, by rw [e]⟩
  · cases h4
def qProp (x f : Str) : Qn := fun K => propB K (He.ga K x) f
/-! exception classes -/
def oexB (K : PySem.W.Frag) (C : Addr) : Bool := (match K.lookup C with
  | some ⟨.type t, _, .cls cd, sl⟩ => (match cd.mro, sl.toList with
    | .ref C' :: bm, [_, _, _, _, some (.builtin n), _] => t == "type" && (C' == C && (n == "ValueError.__new__" && (!cd.hasDel && (cd.hasDict && PySem.HandSPX.refsVE bm))))
    | _, _ => false)
  | _ => false) && (decide (PySem.W.findIn K (.ref C) "__setattr__" = some (some (.builtin "object.__setattr__"))) && (decide (PySem.W.subIn K (.ref C) (.type "BaseException") = some true) && (decide (PySem.W.typeIn K (.ref C) = some (.type "type")) && PySem.W.keepIn K (.ref C))))
theorem oexB_ok {K : PySem.W.Frag} {C : Addr} (h : oexB K C = true) : OexC K C := by
  obtain ⟨h1, h⟩ := ban h
  obtain ⟨h2, h⟩ := ban h
  obtain ⟨h3, h⟩ := ban h
  obtain ⟨h4, h5⟩ := ban h
  refine ⟨?_, of_decide_eq_true h2, of_decide_eq_true h3, of_decide_eq_true h4, h5⟩
  clear h h2 h3 h4 h5
  split at h1
  · rename_i t dd cd sl e
    split at h1
    · rename_i C' bm k0 k1 k2 k3 n k5 e1 e2
      obtain ⟨c0, h1⟩ := ban h1
      obtain ⟨c1, h1⟩ := ban h1
      obtain ⟨c2, h1⟩ := ban h1
      obtain ⟨c3, h1⟩ := ban h1
      obtain ⟨c4, c5⟩ := ban h1
      obtain rfl := beq_iff_eq.mp c0
      obtain rfl := beq_iff_eq.mp c1
      obtain rfl := beq_iff_eq.mp c2
      obtain ⟨n1, n2, n3, n4, n5, n6, n7, n8, n9, n10, n11⟩ := cd
      dsimp only at e1 c3 c4
      subst e1
      have c3' : n11 = false := by simpa using c3
      subst c3' c4
      obtain ⟨l⟩ := sl
      have e2' : l = _ := e2
      subst e2'
      exact ⟨n1, _, _, _, bm, _, _, _, _, dd, k0, k1, k2, k3, k5, e, c5⟩
    · cases h1
  · cases h1
def excB (K : PySem.W.Frag) (D : Addr) : Bool := decide (PySem.W.findIn K (.ref D) "__getattribute__" = some (some (.builtin "BaseException.__getattribute__"))) && (decide (PySem.W.findIn K (.ref D) "__getattr__" = some none) && (decide (PySem.W.subIn K (.ref D) (.type "BaseException") = some true) &&
  (PySem.W.hasDictIn K D && (decide (PySem.W.findIn K (.ref D) "__class__" = some (some (.builtin "object.__class__"))) && (decide (PySem.W.specialIn K (.builtin "object.__class__") "__get__" = some (some (.builtin "getset_descriptor.__get__"))) &&
  (decide (PySem.W.takesIn K (.builtin "object.__class__") = some true) && decide (PySem.W.mroIn K D (.type "object") = some true)))))))
theorem excB_ok {K : PySem.W.Frag} {D : Addr} (h : excB K D = true) : ExcC K D := by
  obtain ⟨h1, h⟩ := ban h
  obtain ⟨h2, h⟩ := ban h
  obtain ⟨h3, h⟩ := ban h
  obtain ⟨h4, h⟩ := ban h
  obtain ⟨h5, h⟩ := ban h
  obtain ⟨h6, h⟩ := ban h
  obtain ⟨h7, h8⟩ := ban h
  exact ⟨of_decide_eq_true h1, of_decide_eq_true h2, of_decide_eq_true h3, h4, of_decide_eq_true h5, of_decide_eq_true h6, of_decide_eq_true h7, of_decide_eq_true h8⟩
def xcB (K : PySem.W.Frag) (C f : Addr) : Bool := oexB K C && (decide (PySem.W.findIn K (.ref C) "value" = some none) && (xfB K C && (excB K C && (decide (PySem.W.findIn K (.ref C) "__init__" = some (some (.ref f))) && decide (PySem.W.typeIn K (.ref f) = some (.type "function"))))))
/-- an exception class of the module whose __init__ is that of BitError -/
def qXc (x : Str) : Qn := fun K => xcB K (He.ga K x) (He.ma K (He.ga K "BitError") "__init__")
theorem xc_of {P : Program} {w : World} {K : PySem.W.Frag} {h base : Heap} {mg : Str → Option Value} {x : Str} {fd : FuncData} (X : K.In h) (G : h.Ns mainGlobals mg) (g : qGlo x K = true) (q : qXc x K = true)
    (F : FnOk P w K mg base CX0 1 (He.ma K (He.ga K "BitError") "__init__") fd ["self", "value"] (sp_excInit K)) (b : Binds K fd ["self", "value"] []) : Xc P w K mg base x (He.ga K x) := by
  obtain ⟨h1, q⟩ := ban q
  obtain ⟨h2, q⟩ := ban q
  obtain ⟨h3, q⟩ := ban q
  obtain ⟨h4, q⟩ := ban q
  obtain ⟨h5, h6⟩ := ban q
  exact ⟨He.glo_ok X G g, oexB_ok h1, of_decide_eq_true h2, xfB_ok h3, excB_ok h4, _, fd, of_decide_eq_true h5, of_decide_eq_true h6, F, b⟩
def qXs (y x : Str) : Qn := fun K => decide (PySem.W.exmOne K (.ref (He.ga K x)) (.ref (He.ga K y)) = some true) && decide (PySem.W.kitOne K (.ref (He.ga K x)) (.ref (He.ga K x)) = some true)
theorem xs_of {K : PySem.W.Frag} {x y : Str} (h : qXs y x K = true) : Xs K (He.ga K y) (He.ga K x) := ⟨of_decide_eq_true (ban h).1, of_decide_eq_true (ban h).2⟩
/-- the built-in names, in this sequence -/
def bis : List Str := ["abs", "len", "max", "min", "int", "range", "isinstance", "repr", "tuple", "sum", "enumerate", "zip", "sorted", "set", "str", "divmod", "any", "all", "list", "bool", "ValueError", "TypeError", "dict", "next"]
def qBi : Qn := fun K => bis.all fun x => qFree x K
theorem bi_of {K : PySem.W.Frag} {h : Heap} {mg : Str → Option Value} (X : K.In h) (G : h.Ns mainGlobals mg) (q : qBi K = true) : Bi mg := by
  have g : ∀ x ∈ bis, mg x = none := fun x m => He.free_ok X G (List.all_eq_true.mp q x m)
  have t : ∀ (i : Nat) (x : Str), bis[i]? = some x → mg x = none := fun i x e => g x (List.mem_of_getElem? e)
  exact ⟨t 0 _ rfl, t 1 _ rfl, t 2 _ rfl, t 3 _ rfl, t 4 _ rfl, t 5 _ rfl, t 6 _ rfl, t 7 _ rfl, t 8 _ rfl, t 9 _ rfl, t 10 _ rfl, t 11 _ rfl, t 12 _ rfl, t 13 _ rfl, t 14 _ rfl, t 15 _ rfl, t 16 _ rfl, t 17 _ rfl, t 18 _ rfl, t 19 _ rfl, t 20 _ rfl, t 21 _ rfl, t 22 _ rfl, t 23 _ rfl⟩
theorem room30 : Room 30 callerA := ⟨rfl, by decide, by decide⟩
theorem fo_of {P : Program} {w : World} {K : PySem.W.Frag} {h base : Heap} {mg : Str → Option Value} {CX : CXT} {k : Nat} {x : Str} {ps : List Str} {sp : Sp} {fd : FuncData} (X : K.In h) (G : h.Ns mainGlobals mg) (g : qGlo x K = true) (F : FnOk P w K mg base CX k (He.ga K x) fd ps sp) (kp : PySem.W.keepIn K (.ref (He.ga K x)) = true)
    (b : Binds K fd ps []) : Fo P w K mg base CX k x ps sp := ⟨_, fd, F, He.glo_ok X G g, kp, b⟩
theorem foG_of {P : Program} {w : World} {K : PySem.W.Frag} {h base : Heap} {mg : Str → Option Value} {CX : CXT} {k : Nat} {x : Str} {ps : List Str} {sp : Sp} {fd : FuncData} (X : K.In h) (G : h.Ns mainGlobals mg) (g : qGlo x K = true) (F : FnG P w K mg base CX k (He.ga K x) fd ps sp) (kp : PySem.W.keepIn K (.ref (He.ga K x)) = true)
    (b : Binds K fd ps []) : FoG P w K mg base CX k x ps sp := ⟨_, fd, F, He.glo_ok X G g, kp, b⟩
theorem prc_of {P : Program} {w : World} {K : PySem.W.Frag} {base : Heap} {mg : Str → Option Value} {CX : CXT} {k : Nat} {x f : Str} {sp : Sp} {fd : FuncData} (cl : qCls x K = true) (q : qProp x f K = true) (F : FnOk P w K mg base CX k (prp K (He.ga K x) f) fd ["self"] sp) (b : Binds K fd ["self"] []) : PrC P w K mg base CX (He.ga K x) f k sp :=
  ⟨He.cls_ok cl, _, _, fd, propB_ok q, F, b⟩
theorem vals_app : ∀ {a b : List V} {c d : List Value}, Vals a c → Vals b d → Vals (a ++ b) (c ++ d)
  | _, _, _, _, .nil, h => h
  | _, _, _, _, .cons r g, h => .cons r (vals_app g h)
/-! methods, signs -/
def qMe (x m : Str) : Qn := fun K => decide (PySem.W.findIn K (.ref (He.ga K x)) m = some (some (.ref (He.ma K (He.ga K x) m)))) && PySem.W.isFn K (.ref (He.ma K (He.ga K x) m))
theorem me_of {P : Program} {w : World} {K : PySem.W.Frag} {base : Heap} {mg : Str → Option Value} {CX : CXT} {k : Nat} {x m : Str} {ps : List Str} {sp : Sp} {fd : FuncData} (q : qMe x m K = true) (F : FnOk P w K mg base CX k (He.ma K (He.ga K x) m) fd ps sp) (b : Binds K fd ps []) :
    MeC P w K mg base CX (He.ga K x) m k ps sp (He.ma K (He.ga K x) m) := ⟨of_decide_eq_true (ban q).1, (ban q).2, fd, F, b⟩
def qMeF (x m : Str) : Qn := fun K => PySem.W.fnIn K (He.ma K (He.ga K x) m)
def qCs (x : Str) : Qn := fun K => PySem.W.selfFirst K (He.ga K x) && (decide (PySem.W.subIn K (.type "int") (.ref (He.ga K x)) = some false) && decide (PySem.W.subIn K (.ref (He.ga K x)) (.type "int") = some false))
theorem cs_of {K : PySem.W.Frag} {x : Str} (h : qCs x K = true) : ClsS K (He.ga K x) := ⟨(ban h).1, of_decide_eq_true (ban (ban h).2).1, of_decide_eq_true (ban (ban h).2).2⟩
def qRi (nm : String) : Qn := fun K => match PySem.W.findIn K (.type "int") (dunderR nm) with
  | some (some _) => true
  | _ => false
theorem ri_of {K : PySem.W.Frag} {nm : String} (h : qRi nm K = true) : ∃ fo, PySem.W.findIn K (.type "int") (dunderR nm) = some (some fo) := by
  unfold qRi at h
  split at h
  · rename_i fo e
    exact ⟨fo, e⟩
  · cases h
def qNoI (x : Str) (nm : String) : Qn := fun K => match PySem.W.clsIn K (He.ga K x) with
  | some cd => cd.mro.all fun c => decide (PySem.W.findIn K c (dunderI nm) = some none)
  | _ => false
theorem noI_of {K : PySem.W.Frag} {x : Str} {nm : String} (h : qNoI x nm K = true) : NoI K (He.ga K x) nm := by
  unfold qNoI at h
  split at h
  · rename_i cd e
    exact ⟨cd, e, fun c m => of_decide_eq_true (List.all_eq_true.mp h c m)⟩
  · cases h
end Bs

set_option Elab.async false
set_option linter.all false
set_option maxRecDepth 100000
set_option maxHeartbeats 2000000
/-! lists that grow, dicts with int keys: owned. -/
namespace Bs
open PySem PySem.Spec PySem.Calls PyProof.Rows L2
section
variable {F H : Hp} {L : List (Addr × HO)} {K : PySem.W.Frag} {a : Addr} {i : Nat} {xs : List V} {v : V} {Q : VK} {σ : L2.St} {t : TA} {D : Ends}
def cBM (K : PySem.W.Frag) (T : String) (r : V → List V → Hp → VK → Prop) (t : TA) (σ : L2.St) (Q : VK) (x : V) (H1 : Hp) : Prop := tyV K T x H1 ∧ t σ H1 fun xs H2 => r x xs H2 Q
def cAp (x : V) (vs : List V) (H : Hp) (Q : VK) : Prop := rAppend x vs H Q
theorem r_bm {T : String} {r : V → List V → Hp → VK → Prop} {to : TE} (k : to σ H (cBM K T r t σ Q)) : tBM K T r to t σ H Q := k
theorem o_bmL (h : Own F H L) (e : L[i]? = some (a, .lst xs)) (k : t σ H fun vs H2 => cAp (.ref a) vs H2 Q) : cBM K "list" rAppend t σ Q (.ref a) H := ⟨Or.inl ⟨rfl, xs, SqL.of (h.get i e)⟩, k⟩
theorem o_app (h : Own F H L) (e : L[i]? = some (a, .lst xs)) (z : xs.length < 1000000) (k : ∀ H', Own F H' (L.set i (a, .lst (xs ++ [v]))) → Q .non H') : cAp (.ref a) [v] H Q :=
  ⟨a, xs, v, rfl, rfl, h.get i e, Nat.lt_of_lt_of_le z (by decide), k _ (h.put i e)⟩
theorem o_dnew (h : Own F H L) (k : ∀ p H', H p = none → Own F H' ((p, .dK []) :: L) → Q (.ref p) H') : tDNewK σ H Q := fun p n => k p _ n (h.new n)
def cDn (Q : VK) (y x : V) (H2 : Hp) : Prop := ∃ a o, x = .ref a ∧ DGet H2 a y o ∧ Q (.bl (!o.isSome)) H2
theorem r_dnotin {ty td : TE} (k : ty σ H fun y H1 => td σ H1 (cDn Q y)) : tDNotIn ty td σ H Q := k
theorem o_dn {kvs : List (Key × V)} {n : Int} (h : Own F H L) (e : L[i]? = some (a, .dK kvs)) (q : Q (.bl (!(valV kvs (.inl n)).isSome)) H) : cDn Q (.int n) (.ref a) H := ⟨a, _, rfl, DGet.k (k := .inl n) (h.get i e), q⟩
def cDg (Q : VK) (x y : V) (H2 : Hp) : Prop := ∃ a v, x = .ref a ∧ DGet H2 a y (some v) ∧ Q v H2
theorem r_dget {ty td : TE} (k : td σ H fun x H1 => ty σ H1 (cDg Q x)) : tDGet td ty σ H Q := k
theorem o_dg {kvs : List (Key × V)} {n : Int} (h : Own F H L) (e : L[i]? = some (a, .dK kvs)) (g : valV kvs (.inl n) = some v) (q : Q v H) : cDg Q (.ref a) (.int n) H := ⟨a, v, rfl, g ▸ DGet.k (k := .inl n) (h.get i e), q⟩
theorem o_dset {kvs : List (Key × V)} {n : Int} {R : Hp → Prop} (h : Own F H L) (e : L[i]? = some (a, .dK kvs)) (z : kvs.length < 1000000) (q : ∀ H', Own F H' (L.set i (a, .dK (putK kvs (.inl n) v))) → R H') : rSetD (.ref a) (.int n) v H R :=
  ⟨a, _, rfl, DPut.k (k := .inl n) (h.get i e) (Nat.lt_of_lt_of_le z (by decide)), q _ (h.put i e)⟩
def rLenD : List V → Hp → VK → Prop := fun xs H Q => ∃ a kvs, xs = [V.ref a] ∧ H a = some (.dK kvs) ∧ Q (.int kvs.length) H
theorem cb_lenD {X : Cx} : CallR X (.builtin "len") rLenD := call_lenD
theorem o_lenD {kvs : List (Key × V)} (h : Own F H L) (e : L[i]? = some (a, .dK kvs)) (q : Q (.int kvs.length) H) : rLenD [.ref a] H Q := ⟨a, kvs, rfl, h.get i e, q⟩
end
end Bs

set_option Elab.async false
set_option linter.all false
set_option maxRecDepth 100000
set_option maxHeartbeats 2000000
/-! a list comprehension over a range, owned. -/
namespace Bs
open PySem PySem.Spec PySem.Calls PyProof.Rows L2
section
variable {F H : Hp} {L : List (Addr × HO)} {σ : L2.St} {Q : VK} {te : TE} {i : Nat}
/-- [e for x in range(n)]: f what it gives at each turn; j the slot of x -/
theorem o_lcR {n : Nat} (f : Nat → V) {j : Nat} (h : Own F H L) (hn : n ≤ 1000000) (hj : ∀ v : V, wipe ((wipe σ [j]).set j (some v)) [j] = wipe σ [j])
    (step : ∀ i D H' (R : VK), i < n → Own F H' ((D, .lst ((List.range i).map f)) :: L) → (∀ H4, Own F H4 ((D, .lst ((List.range i).map f)) :: L) → R (f i) H4) → te ((wipe σ [j]).set j (some (.int (0 + (i : Int))))) H' R)
    (k : ∀ D H', H D = none → Own F H' ((D, .lst ((List.range n).map f)) :: L) → Q (.ref D) H') :
    ∀ D, H D = none → ∃ W : Nat → Nat → Hp → Prop, (∃ m, W 0 m (upd H D (.lst []))) ∧ ∀ i m H, W i m H →
      ((Itr 0 n).stop i H ∧ Q (.ref D) H) ∨ ((Itr 0 n).go i H ∧ ∃ Nx : Hp → Prop, (∀ H', Nx H' → ∃ m', m' < m ∧ W (i + 1) m' H') ∧ ∀ x H', (Itr 0 n).yld i H x H' → gName j x (wipe σ [j]) H' fun σ2 H2 => wipe σ2 [j] = wipe σ [j] ∧ tYes σ2 H2 fun b H3 =>
        if b = true then te σ2 H3 fun y H4 => ∃ acc, H4 D = some (.lst acc) ∧ acc.length < sizeLine ∧ Nx (upd H4 D (.lst (acc ++ [y]))) else Nx H3) := by
  intro D hD
  refine ⟨fun i m H' => m = n - i ∧ i ≤ n ∧ Own F H' ((D, .lst ((List.range i).map f)) :: L), ⟨n, by simp, Nat.zero_le _, h.new hD⟩, ?_⟩
  rintro i m H1 ⟨rfl, hi, ow⟩
  by_cases hlt : i < n
  · refine .inr ⟨hlt, fun H' => Own F H' ((D, .lst ((List.range (i + 1)).map f)) :: L), fun H' o => ⟨n - (i + 1), by omega, rfl, hlt, o⟩, fun x H' y => ?_⟩
    obtain ⟨e, y⟩ := y
    subst e y
    refine ⟨hj _, ?_⟩
    simp only [tYes, if_true]
    refine step i D _ _ hlt ow fun H4 o => ?_
    refine ⟨_, o.get 0 rfl, by rw [List.length_map, List.length_range]; exact Nat.lt_of_lt_of_le hlt (Nat.le_trans hn (by decide)), ?_⟩
    rw [List.range_succ, List.map_append]
    exact o.put 0 rfl
  · have e : i = n := by omega
    subst e
    exact .inl ⟨Nat.le_refl _, k D _ hD ow⟩
end
end Bs
namespace Bs
open PySem PySem.Spec PySem.Calls PyProof.Rows L2
def cLc (g : TG) (tt : TT) (te : TE) (vs : List Nat) (σ : L2.St) (Q : VK) (J : It) (H1 : Hp) : Prop := ∀ D, H1 D = none → ∃ W : Nat → Nat → Hp → Prop, (∃ m, W 0 m (upd H1 D (.lst []))) ∧ ∀ i m H, W i m H →
  (J.stop i H ∧ Q (.ref D) H) ∨ (J.go i H ∧ ∃ Nx : Hp → Prop, (∀ H', Nx H' → ∃ m', m' < m ∧ W (i + 1) m' H') ∧ ∀ x H', J.yld i H x H' → g x (wipe σ vs) H' fun σ2 H2 => wipe σ2 vs = wipe σ vs ∧ tt σ2 H2 fun b H3 =>
    if b = true then te σ2 H3 fun y H4 => ∃ acc, H4 D = some (.lst acc) ∧ acc.length < sizeLine ∧ Nx (upd H4 D (.lst (acc ++ [y]))) else Nx H3)
theorem r_lc {wi : TI} {g : TG} {tt : TT} {te : TE} {vs : List Nat} {σ : L2.St} {H : Hp} {Q : VK} (k : wi σ H (cLc g tt te vs σ Q)) : tLc wi g tt te vs σ H Q := k
theorem c_lcR {F H : Hp} {L : List (Addr × HO)} {σ : L2.St} {Q : VK} {te : TE} {n : Nat} (f : Nat → V) {j : Nat} (h : Own F H L) (hn : n ≤ 1000000) (hj : ∀ v : V, wipe ((wipe σ [j]).set j (some v)) [j] = wipe σ [j])
    (step : ∀ i D H' (R : VK), i < n → Own F H' ((D, .lst ((List.range i).map f)) :: L) → (∀ H4, Own F H4 ((D, .lst ((List.range i).map f)) :: L) → R (f i) H4) → te ((wipe σ [j]).set j (some (.int (0 + (i : Int))))) H' R)
    (k : ∀ D H', H D = none → Own F H' ((D, .lst ((List.range n).map f)) :: L) → Q (.ref D) H') : cLc (gName j) tYes te [j] σ Q (Itr 0 n) H := o_lcR f h hn hj step k
end Bs
namespace Bs
open PySem PySem.Spec PySem.Calls PyProof.Rows L2
def cIl (K : PySem.W.Frag) (R : It → Hp → Prop) (x : V) (H1 : Hp) : Prop := ∃ a, x = .ref a ∧ (∃ xs, SqL K H1 a xs) ∧ R (Itl K a) H1
theorem r_il {K : PySem.W.Frag} {tl : TE} {σ : L2.St} {H : Hp} {R : It → Hp → Prop} (k : tl σ H (cIl K R)) : iList K tl σ H R := k
theorem o_il {K : PySem.W.Frag} {F H : Hp} {L : List (Addr × HO)} {i : Nat} {a : Addr} {xs : List V} {R : It → Hp → Prop} (h : Own F H L) (e : L[i]? = some (a, .lst xs)) (k : R (Itl K a) H) : cIl K R (.ref a) H := ⟨a, rfl, ⟨xs, SqL.of (h.get i e)⟩, k⟩
end Bs
namespace Bs
open PySem PySem.Spec PySem.Calls PyProof.Rows L2
/-- list(x), tuple(x) of a list or a tuple -/
def rLof (K : PySem.W.Frag) : List V → Hp → VK → Prop := fun xs H Q => ∃ p ys, xs = [.ref p] ∧ (SqL K H p ys ∨ SqT K H p ys) ∧ ∀ l, H l = none → Q (.ref l) (upd H l (.lst ys))
theorem cb_listof {X : Cx} : CallR X (.type "list") (rLof X.K) := call_list_of
section
variable {K : PySem.W.Frag} {F H : Hp} {L : List (Addr × HO)} {p : Addr} {ys : List V} {Q : VK}
theorem o_lofT (h : Own F H L) (s : SqT K H p ys) (k : ∀ l H', H l = none → Own F H' ((l, .lst ys) :: L) → Q (.ref l) H') : rLof K [.ref p] H Q := ⟨p, ys, rfl, .inr s, fun l n => k l _ n (h.new n)⟩
theorem o_lofL (h : Own F H L) (s : SqL K H p ys) (k : ∀ l H', H l = none → Own F H' ((l, .lst ys) :: L) → Q (.ref l) H') : rLof K [.ref p] H Q := ⟨p, ys, rfl, .inl s, fun l n => k l _ n (h.new n)⟩
end
end Bs

set_option Elab.async false
set_option linter.all false
set_option maxRecDepth 100000
set_option maxHeartbeats 2000000
/-! x[::-1]; comprehensions over anything; calls of defs that raise, by position and by name. -/
namespace Bs
open PySem PySem.Spec PySem.Calls PyProof.Rows L2
/-- [True, i] of an int -/
def tlD : V → PyData
  | .int i => .list [.bool true, .int i]
  | _ => .none
section
variable {X : Cx} {e : Expr} {st : Option Expr} {te : TE} {ts : TO} {pos p2 : Pos}
/-- x[::-1] of a list -/
def cRv (K : PySem.W.Frag) (Q : VK) (x : V) (i : Option Int) (H : Hp) : Prop := i = some (-1) ∧ ∃ a xs, x = .ref a ∧ SqL K H a xs ∧ ∀ p, H p = none → Q (.ref p) (upd H p (.lst xs.reverse))
def tRv (K : PySem.W.Frag) (te : TE) (ts : TO) : TE := fun σ H Q => te σ H fun x H1 => ts σ H1 fun i H2 => cRv K Q x i H2
theorem pe_rev {uo : UnaryOp} {se : Expr} {p5 : Pos} (he : PE X e te) (hs : PO X (some (.UnaryOp uo se p5)) ts) : PE X (.Subscript e (.Slice none none (some (.UnaryOp uo se p5)) p2) pos) (tRv X.K te ts) := by
  refine ⟨fun pins s σ H Q I h => ?_⟩
  refine Subscript_ (thn (he.run pins s σ H _ I h) fun v s1 ⟨x, H1, I1, r1, q1⟩ => ?_)
  refine wpAny_Slice ?_
  rw [evalPart_none]
  refine wpAny_pure (wpAny_pure (thn (hs.run pins s1 σ H1 _ I1 q1) fun vk s3 ⟨i, H3, I3, pk, q3⟩ => ?_))
  obtain ⟨rfl, a, xs, rfl, hx, q⟩ := q3
  cases r1
  let so : Obj := { cls := .type "slice", data := .fields #[Value.none, Value.none, vk] }
  have I4 : Inv X pins σ H3 { s3 with heap := s3.heap.push so } := I3.kept (t' := s3.toks) fun b ob z => Heap.get?_push_of_some _ z
  obtain ⟨its, r, hl, hz⟩ := I4.list hx
  have sl : ({ s3 with heap := s3.heap.push so } : Shared).heap.IsSliceOf s3.heap.objs.size .none .none vk := Heap.IsSliceOf.new ..
  have len := r.length
  refine tail_any (T := "list") (ops := [.ref a, .ref s3.heap.objs.size]) hl.isList.typeIs slot_list_getitem.lookup (wpAny_getItem_list_slice hl.isList sl .none .none pk (by decide) ?_ (by rw [List.size_toArray]; omega)) (by with_unfolding_all rfl)
  rw [PySem.W.krv_pick]
  refine ⟨.ref _, _, I4.laid (t' := s3.toks) (o := .lst xs.reverse) (fun b ob z => Heap.get?_push_of_some _ z) (Nat.le_refl _) ?_, rfl, q _ (I4.hok.fresh (Nat.le_refl _))⟩
  refine ⟨by rw [List.length_reverse]; exact hz, _, 0, r.reverse, Heap.get?_push_size _ rfl⟩
end
section
variable {K : PySem.W.Frag} {F H : Hp} {L : List (Addr × HO)} {a : Addr} {xs : List V} {Q : VK} {σ : L2.St} {te : TE} {ts : TO} {i : Nat}
theorem r_rv (k : te σ H fun x H1 => ts σ H1 fun i H2 => cRv K Q x i H2) : tRv K te ts σ H Q := k
theorem r_part {te : TE} {R : Option Int → Hp → Prop} (k : te σ H fun x H1 => ∃ i, x = .int i ∧ R (some i) H1) : tPart te σ H R := k
theorem o_rv (h : Own F H L) (s : SqL K H a xs) (k : ∀ p H', H p = none → Own F H' ((p, .lst xs.reverse) :: L) → Q (.ref p) H') : cRv K Q (.ref a) (some (-1)) H := ⟨rfl, a, xs, rfl, s, fun p n => k p _ n (h.new n)⟩
end
/-- a comprehension over anything: P holds of what is made, the turn, the items so far, the heap -/
theorem c_lcJ {te : TE} {j : Nat} {σ : L2.St} {Q : VK} {J : It} {H : Hp} (n : Nat) (hn : n ≤ 1000000) (hj : ∀ v : V, wipe ((wipe σ [j]).set j (some v)) [j] = wipe σ [j]) (Pv : Addr → Nat → List V → Hp → Prop) (h0 : ∀ D, H D = none → Pv D 0 [] (upd H D (.lst [])))
    (hgo : ∀ D i acc H, Pv D i acc H → i < n → J.go i H) (hst : ∀ D acc H, Pv D n acc H → J.stop n H)
    (step : ∀ D i acc H x H' (R : VK), i < n → acc.length = i → Pv D i acc H → J.yld i H x H' → (∀ y H4, H4 D = some (.lst acc) → Pv D (i + 1) (acc ++ [y]) (upd H4 D (.lst (acc ++ [y]))) → R y H4) → te ((wipe σ [j]).set j (some x)) H' R)
    (k : ∀ D acc H', H D = none → Pv D n acc H' → acc.length = n → Q (.ref D) H') : cLc (gName j) tYes te [j] σ Q J H := by
  intro D hD
  refine ⟨fun i m H' => m = n - i ∧ i ≤ n ∧ ∃ acc, acc.length = i ∧ Pv D i acc H', ⟨n, by simp, Nat.zero_le _, [], rfl, h0 D hD⟩, ?_⟩
  rintro i m H1 ⟨rfl, hi, acc, la, p⟩
  by_cases hlt : i < n
  · refine .inr ⟨hgo D i acc H1 p hlt, fun H' => ∃ acc, acc.length = i + 1 ∧ Pv D (i + 1) acc H', fun H' ⟨acc, la, p⟩ => ⟨n - (i + 1), by omega, rfl, hlt, acc, la, p⟩, fun x H' y => ?_⟩
    refine ⟨hj _, ?_⟩
    simp only [tYes, if_true]
    refine step D i acc H1 x H' _ hlt la p y fun y H4 eD q => ?_
    exact ⟨acc, eD, Nat.lt_of_le_of_lt (Nat.le_of_eq la) (Nat.lt_of_lt_of_le hlt (Nat.le_trans hn (by decide))), acc ++ [y], by simp; omega, q⟩
  · have e : i = n := by omega
    subst e
    exact .inl ⟨hst D acc H1 p, k D acc H1 hD p la⟩
/-- with a condition -/
theorem c_lcF {tt : TT} {te : TE} {j : Nat} {σ : L2.St} {Q : VK} {J : It} {H : Hp} (n : Nat) (hn : n ≤ 1000000) (hj : ∀ v : V, wipe ((wipe σ [j]).set j (some v)) [j] = wipe σ [j]) (Pv : Addr → Nat → List V → Hp → Prop) (h0 : ∀ D, H D = none → Pv D 0 [] (upd H D (.lst [])))
    (hgo : ∀ D i acc H, Pv D i acc H → i < n → J.go i H) (hst : ∀ D acc H, Pv D n acc H → J.stop n H)
    (step : ∀ D i acc H x H' (R : VK) (Z : Hp → Prop), i < n → acc.length ≤ i → Pv D i acc H → J.yld i H x H' → (∀ y H4, H4 D = some (.lst acc) → Pv D (i + 1) (acc ++ [y]) (upd H4 D (.lst (acc ++ [y]))) → R y H4) → (∀ H3, Pv D (i + 1) acc H3 → Z H3) →
      tt ((wipe σ [j]).set j (some x)) H' fun b H3 => if b = true then te ((wipe σ [j]).set j (some x)) H3 R else Z H3)
    (k : ∀ D acc H', H D = none → Pv D n acc H' → acc.length ≤ n → Q (.ref D) H') : cLc (gName j) tt te [j] σ Q J H := by
  intro D hD
  refine ⟨fun i m H' => m = n - i ∧ i ≤ n ∧ ∃ acc, acc.length ≤ i ∧ Pv D i acc H', ⟨n, by simp, Nat.zero_le _, [], Nat.le_refl _, h0 D hD⟩, ?_⟩
  rintro i m H1 ⟨rfl, hi, acc, la, p⟩
  by_cases hlt : i < n
  · refine .inr ⟨hgo D i acc H1 p hlt, fun H' => ∃ acc, acc.length ≤ i + 1 ∧ Pv D (i + 1) acc H', fun H' ⟨acc, la, p⟩ => ⟨n - (i + 1), by omega, rfl, hlt, acc, la, p⟩, fun x H' y => ?_⟩
    refine ⟨hj _, ?_⟩
    refine step D i acc H1 x H' _ _ hlt la p y (fun y H4 eD q => ?_) (fun H3 q => ⟨acc, by omega, q⟩)
    exact ⟨acc, eD, Nat.lt_of_le_of_lt la (Nat.lt_of_lt_of_le hlt (Nat.le_trans hn (by decide))), acc ++ [y], by simp; omega, q⟩
  · have e : i = n := by omega
    subst e
    exact .inl ⟨hst D acc H1 p, k D acc H1 hD p la⟩
section
variable {K : PySem.W.Frag} {F H : Hp} {L : List (Addr × HO)} {σ : L2.St} {Q : VK} {te : TE} {j m : Nat} {a : Addr} {xs : List V}
theorem itl_go {i : Nat} (s : SqL K H a xs) (h : i < xs.length) : (Itl K a).go i H := ⟨xs, xs[i], s, List.getElem?_eq_getElem h⟩
theorem itl_stop {xs : List V} (s : SqL K H a xs) : (Itl K a).stop xs.length H := ⟨xs, s, Nat.le_refl _⟩
theorem dpAll_app {v : V} {d : PyData} : ∀ {vs : List V} {ds : List PyData}, DpAll K H vs ds → Dp K H v d → DpAll K H (vs ++ [v]) (ds ++ [d])
  | _, _, .nil, h => .cons h .nil
  | _, _, .cons a b, h => .cons a (dpAll_app (v := v) (d := d) b h)
theorem Own.weak {F' : Hp} (s : Same F F') (h : Own F' H L) : Own F H L := ⟨s.trans h.sub, fun i a o e => ⟨(h.own i a o e).1, by
    cases z : F a with
    | none => rfl
    | some u => exact absurd (h.own i a o e).2 (by rw [s a u z]; simp)⟩, h.nd⟩
/-- a comprehension over a list whose items become data -/
theorem c_lcD (h : Own F H L) (e : L[m]? = some (a, .lst xs)) (hn : xs.length ≤ 1000) (ds : List PyData) (hd : ds.length = xs.length) (hj : ∀ v : V, wipe ((wipe σ [j]).set j (some v)) [j] = wipe σ [j])
    (step : ∀ (F' : Hp) (D : Addr) (acc : List V) (i : Nat) (x : V) (d : PyData) (H' : Hp) (R : VK), xs[i]? = some x → ds[i]? = some d → Same F F' → Own F' H' ((D, .lst acc) :: L) → (∀ F'' y H4, Same F' F'' → Own F'' H4 ((D, .lst acc) :: L) → Dp K F'' y d → R y H4) → te ((wipe σ [j]).set j (some x)) H' R)
    (k : ∀ F' D acc H', Same F F' → H D = none → Own F' H' ((D, .lst acc) :: L) → DpAll K F' acc ds → Q (.ref D) H') : cLc (gName j) tYes te [j] σ Q (Itl K a) H := by
  refine c_lcJ xs.length (by omega) hj (fun D i acc H' => ∃ F', Same F F' ∧ Own F' H' ((D, .lst acc) :: L) ∧ DpAll K F' acc (ds.take i)) (fun D nD => ⟨F, Same.refl F, h.new nD, by rw [List.take_zero]; exact .nil⟩) ?_ ?_ ?_ ?_
  · rintro D i acc H1 ⟨F', s, ow, dp⟩ hi
    exact itl_go (SqL.of (ow.get (m + 1) (by simpa using e))) hi
  · rintro D acc H1 ⟨F', s, ow, dp⟩
    exact itl_stop (SqL.of (ow.get (m + 1) (by simpa using e)))
  · rintro D i acc H1 x H2 R hi la ⟨F', s, ow, dp⟩ ⟨rfl, hy⟩ hR
    have hx := hy xs (SqL.of (ow.get (m + 1) (by simpa using e)))
    have hdi : ds[i]? = some ds[i] := by simp [hd, hi]
    refine step F' D acc i x ds[i] H2 R hx hdi s ow fun F'' y H4 s2 ow2 dp2 => ?_
    refine hR y H4 (ow2.get 0 rfl) ⟨F'', s.trans s2, ow2.put 0 rfl, ?_⟩
    rw [List.take_succ, hdi]
    exact dpAll_app (dpa_same s2 dp) dp2
  · rintro D acc H1 nD ⟨F', s, ow, dp⟩ la
    refine k F' D acc H1 s nD ow ?_
    rw [← hd, List.take_length] at dp
    exact dp
theorem c_lcM (fd : V → PyData) (h : Own F H L) (e : L[m]? = some (a, .lst xs)) (hn : xs.length ≤ 1000) (hj : ∀ v : V, wipe ((wipe σ [j]).set j (some v)) [j] = wipe σ [j])
    (step : ∀ (F' : Hp) (D : Addr) (acc : List V) (i : Nat) (x : V) (H' : Hp) (R : VK), xs[i]? = some x → Same F F' → Own F' H' ((D, .lst acc) :: L) → (∀ F'' y H4, Same F' F'' → Own F'' H4 ((D, .lst acc) :: L) → Dp K F'' y (fd x) → R y H4) → te ((wipe σ [j]).set j (some x)) H' R)
    (k : ∀ F' D acc H', Same F F' → H D = none → Own F' H' ((D, .lst acc) :: L) → DpAll K F' acc (xs.map fd) → Q (.ref D) H') : cLc (gName j) tYes te [j] σ Q (Itl K a) H := by
  refine c_lcD h e hn (xs.map fd) (by simp) hj ?_ k
  intro F' D acc i x d H' R hx hd s ow hR
  rw [List.getElem?_map, hx] at hd
  cases hd
  exact step F' D acc i x H' R hx s ow hR
end
/-! calls -/
section
variable {X : Cx} {CX : CXT} {j k : Nat} {ps ks : List Str} {sp : Sp} {x : Str} {p pos : Pos} {e : Expr} {es : List Expr} {kws : List Keyword} {t tk : TA} {gV : List V → List V → List V}
/-- a def by its name and promise, all parameters by keyword -/
structure FoK (P : Program) (w : World) (K : PySem.W.Frag) (mg : Str → Option Value) (base : Heap) (CX : CXT) (k : Nat) (x : Str) (ps : List Str) (sp : Sp) (ks : List Str) (gV : List V → List V → List V) : Prop where
  ex : ∃ (f : Addr) (fd : FuncData), FnOk P w K mg base CX k f fd ps sp ∧ mg x = some (.ref f) ∧ PySem.W.keepIn K (.ref f) = true ∧ Cb K fd ps 0 ks gV
def gPos (vs _zs : List V) : List V := vs
theorem cb_pos {K : PySem.W.Frag} {fd : FuncData} (b : Binds K fd ps []) : Cb K fd ps ps.length [] gPos := ⟨fun us _ => us, by
  refine ⟨fun s us ws X l1 l2 => ?_, fun r _ => r⟩
  have e : ws = [] := List.length_eq_zero_iff.mp l2
  subst e
  have := b s us X (by simpa using l1)
  simpa using this⟩
theorem pe_fx {E : L2.St → XK} (c : Fo X.prog X.w X.K X.mg X.base CX k x ps sp) (hr : Room j X.A) (hk : k ≤ j) (hx : ∀ σ, PassesAt CX X σ (E σ)) (ha : PA X (e :: es) t) (hg : Gl X x := by rfl)
    (hall : (backToKw pos (keywordEach [] X.env)).all (·.1.isSome) = true := by rfl) (hks : (backToKw pos (keywordEach [] X.env)).filterMap (·.1) = [] := by rfl)
    (hdb : (x == ("__debug__" : Str)) = false := by decide) (he : starEach (e :: es) X.env = (false, eval e X.env) :: starEach es X.env := by rfl)
    (hpl : ((backTo pos (starEach (e :: es) X.env)).any (·.1) || (backToKw pos (keywordEach [] X.env)).any (·.1.isNone)) = false := by rfl) :
    PE X (.Call (.Name x p) (e :: es) [] pos) (tFnS ps.length 0 sp gPos E t tNil) := by
  obtain ⟨f, fd, F, hm, kp, hb⟩ := c.ex
  exact pe_fnS F (hr.mono hk) hm kp (cb_pos hb) hx ha pk_nil hg hall hks hdb he hpl
theorem pe_fk {E : L2.St → XK} (c : FoK X.prog X.w X.K X.mg X.base CX k x ps sp ks gV) (hr : Room j X.A) (hk : k ≤ j) (hx : ∀ σ, PassesAt CX X σ (E σ)) (hkw : PK X kws tk) (hg : Gl X x := by rfl)
    (hall : (backToKw pos (keywordEach kws X.env)).all (·.1.isSome) = true := by rfl) (hks : (backToKw pos (keywordEach kws X.env)).filterMap (·.1) = ks := by rfl)
    (hdb : (x == ("__debug__" : Str)) = false := by decide) (hpl : ((backTo pos (starEach [] X.env)).any (·.1) || (backToKw pos (keywordEach kws X.env)).any (·.1.isNone)) = false := by rfl) :
    PE X (.Call (.Name x p) [] kws pos) (tFnS 0 ks.length sp gV E tNil tk) := by
  obtain ⟨f, fd, F, hm, kp, hb⟩ := c.ex
  exact pe_fnS0 F (hr.mono hk) hm kp hb hx hkw hg hall hks hdb hpl
end
section
variable {H : Hp} {Q : VK} {σ : L2.St} {n m : Nat} {sp : Sp} {gV : List V → List V → List V} {t tk : TA} {v w u : V} {vs : List V}
def cFx (n m : Nat) (sp : Sp) (gV : List V → List V → List V) (Q : VK) (E : XK) (vs zs : List V) (H : Hp) : Prop := vs.length = n ∧ zs.length = m ∧ sp (gV vs zs) H Q E
theorem r_fx {E : L2.St → XK} (k : t σ H fun vs H1 => tk σ H1 fun zs H2 => cFx n m sp gV Q (E σ) vs zs H2) : tFnS n m sp gV E t tk σ H Q := k
theorem fx_pos {E : XK} (l : vs.length = n) (k : sp (vs ++ []) H Q E) : cFx n 0 sp gPos Q E vs [] H := ⟨l, rfl, by rw [List.append_nil] at k; exact k⟩
/-- two parameters, the second one first -/
def gKB {α : Type} (_vs zs : List α) : List α := zs.reverse
theorem fx_kb2 {E : XK} (k : sp ([w, v] ++ []) H Q E) : cFx 0 2 sp gKB Q E [] [v, w] H := ⟨rfl, rfl, k⟩
end
theorem gKB_rel {vs zs : List V} {us ws : List Value} (_ : Vals vs us) (h : Vals zs ws) : Vals (gKB vs zs) (gKB us ws) := h.reverse
theorem foK_of {P : Program} {w : World} {K : PySem.W.Frag} {h base : Heap} {mg : Str → Option Value} {CX : CXT} {k : Nat} {x : Str} {ps ks : List Str} {sp : Sp} {fd : FuncData} {f : Addr} {gV : List V → List V → List V} (hm : mg x = some (.ref f)) (F : FnOk P w K mg base CX k f fd ps sp) (kp : PySem.W.keepIn K (.ref f) = true)
    (b : Cb K fd ps 0 ks gV) : FoK P w K mg base CX k x ps sp ks gV := ⟨f, fd, F, hm, kp, b⟩
end Bs
namespace Bs
section
variable {α : Type} {l : List α}
variable {x0 x1 x2 x3 x4 x5 x6 x7 x8 x9 x10 x11 x12 x13 x14 x15 x16 x17 x18 x19 x20 x21 x22 x23 x24 x25 x26 x27 x28 x29 x30 x31 x32 x33 x34 x35 x36 x37 x38 x39 x40 : α}
theorem g18 : (x0 :: x1 :: x2 :: x3 :: x4 :: x5 :: x6 :: x7 :: x8 :: x9 :: x10 :: x11 :: x12 :: x13 :: x14 :: x15 :: x16 :: x17 :: x18 :: l)[18]? = some x18 := rfl
theorem g19 : (x0 :: x1 :: x2 :: x3 :: x4 :: x5 :: x6 :: x7 :: x8 :: x9 :: x10 :: x11 :: x12 :: x13 :: x14 :: x15 :: x16 :: x17 :: x18 :: x19 :: l)[19]? = some x19 := rfl
theorem g20 : (x0 :: x1 :: x2 :: x3 :: x4 :: x5 :: x6 :: x7 :: x8 :: x9 :: x10 :: x11 :: x12 :: x13 :: x14 :: x15 :: x16 :: x17 :: x18 :: x19 :: x20 :: l)[20]? = some x20 := rfl
theorem g21 : (x0 :: x1 :: x2 :: x3 :: x4 :: x5 :: x6 :: x7 :: x8 :: x9 :: x10 :: x11 :: x12 :: x13 :: x14 :: x15 :: x16 :: x17 :: x18 :: x19 :: x20 :: x21 :: l)[21]? = some x21 := rfl
theorem g22 : (x0 :: x1 :: x2 :: x3 :: x4 :: x5 :: x6 :: x7 :: x8 :: x9 :: x10 :: x11 :: x12 :: x13 :: x14 :: x15 :: x16 :: x17 :: x18 :: x19 :: x20 :: x21 :: x22 :: l)[22]? = some x22 := rfl
theorem g23 : (x0 :: x1 :: x2 :: x3 :: x4 :: x5 :: x6 :: x7 :: x8 :: x9 :: x10 :: x11 :: x12 :: x13 :: x14 :: x15 :: x16 :: x17 :: x18 :: x19 :: x20 :: x21 :: x22 :: x23 :: l)[23]? = some x23 := rfl
theorem g24 : (x0 :: x1 :: x2 :: x3 :: x4 :: x5 :: x6 :: x7 :: x8 :: x9 :: x10 :: x11 :: x12 :: x13 :: x14 :: x15 :: x16 :: x17 :: x18 :: x19 :: x20 :: x21 :: x22 :: x23 :: x24 :: l)[24]? = some x24 := rfl
theorem g25 : (x0 :: x1 :: x2 :: x3 :: x4 :: x5 :: x6 :: x7 :: x8 :: x9 :: x10 :: x11 :: x12 :: x13 :: x14 :: x15 :: x16 :: x17 :: x18 :: x19 :: x20 :: x21 :: x22 :: x23 :: x24 :: x25 :: l)[25]? = some x25 := rfl
theorem g26 : (x0 :: x1 :: x2 :: x3 :: x4 :: x5 :: x6 :: x7 :: x8 :: x9 :: x10 :: x11 :: x12 :: x13 :: x14 :: x15 :: x16 :: x17 :: x18 :: x19 :: x20 :: x21 :: x22 :: x23 :: x24 :: x25 :: x26 :: l)[26]? = some x26 := rfl
theorem g27 : (x0 :: x1 :: x2 :: x3 :: x4 :: x5 :: x6 :: x7 :: x8 :: x9 :: x10 :: x11 :: x12 :: x13 :: x14 :: x15 :: x16 :: x17 :: x18 :: x19 :: x20 :: x21 :: x22 :: x23 :: x24 :: x25 :: x26 :: x27 :: l)[27]? = some x27 := rfl
theorem g28 : (x0 :: x1 :: x2 :: x3 :: x4 :: x5 :: x6 :: x7 :: x8 :: x9 :: x10 :: x11 :: x12 :: x13 :: x14 :: x15 :: x16 :: x17 :: x18 :: x19 :: x20 :: x21 :: x22 :: x23 :: x24 :: x25 :: x26 :: x27 :: x28 :: l)[28]? = some x28 := rfl
theorem g29 : (x0 :: x1 :: x2 :: x3 :: x4 :: x5 :: x6 :: x7 :: x8 :: x9 :: x10 :: x11 :: x12 :: x13 :: x14 :: x15 :: x16 :: x17 :: x18 :: x19 :: x20 :: x21 :: x22 :: x23 :: x24 :: x25 :: x26 :: x27 :: x28 :: x29 :: l)[29]? = some x29 := rfl
theorem g30 : (x0 :: x1 :: x2 :: x3 :: x4 :: x5 :: x6 :: x7 :: x8 :: x9 :: x10 :: x11 :: x12 :: x13 :: x14 :: x15 :: x16 :: x17 :: x18 :: x19 :: x20 :: x21 :: x22 :: x23 :: x24 :: x25 :: x26 :: x27 :: x28 :: x29 :: x30 :: l)[30]? = some x30 := rfl
theorem g31 : (x0 :: x1 :: x2 :: x3 :: x4 :: x5 :: x6 :: x7 :: x8 :: x9 :: x10 :: x11 :: x12 :: x13 :: x14 :: x15 :: x16 :: x17 :: x18 :: x19 :: x20 :: x21 :: x22 :: x23 :: x24 :: x25 :: x26 :: x27 :: x28 :: x29 :: x30 :: x31 :: l)[31]? = some x31 := rfl
theorem g32 : (x0 :: x1 :: x2 :: x3 :: x4 :: x5 :: x6 :: x7 :: x8 :: x9 :: x10 :: x11 :: x12 :: x13 :: x14 :: x15 :: x16 :: x17 :: x18 :: x19 :: x20 :: x21 :: x22 :: x23 :: x24 :: x25 :: x26 :: x27 :: x28 :: x29 :: x30 :: x31 :: x32 :: l)[32]? = some x32 := rfl
theorem g33 : (x0 :: x1 :: x2 :: x3 :: x4 :: x5 :: x6 :: x7 :: x8 :: x9 :: x10 :: x11 :: x12 :: x13 :: x14 :: x15 :: x16 :: x17 :: x18 :: x19 :: x20 :: x21 :: x22 :: x23 :: x24 :: x25 :: x26 :: x27 :: x28 :: x29 :: x30 :: x31 :: x32 :: x33 :: l)[33]? = some x33 := rfl
theorem g34 : (x0 :: x1 :: x2 :: x3 :: x4 :: x5 :: x6 :: x7 :: x8 :: x9 :: x10 :: x11 :: x12 :: x13 :: x14 :: x15 :: x16 :: x17 :: x18 :: x19 :: x20 :: x21 :: x22 :: x23 :: x24 :: x25 :: x26 :: x27 :: x28 :: x29 :: x30 :: x31 :: x32 :: x33 :: x34 :: l)[34]? = some x34 := rfl
theorem g35 : (x0 :: x1 :: x2 :: x3 :: x4 :: x5 :: x6 :: x7 :: x8 :: x9 :: x10 :: x11 :: x12 :: x13 :: x14 :: x15 :: x16 :: x17 :: x18 :: x19 :: x20 :: x21 :: x22 :: x23 :: x24 :: x25 :: x26 :: x27 :: x28 :: x29 :: x30 :: x31 :: x32 :: x33 :: x34 :: x35 :: l)[35]? = some x35 := rfl
theorem g36 : (x0 :: x1 :: x2 :: x3 :: x4 :: x5 :: x6 :: x7 :: x8 :: x9 :: x10 :: x11 :: x12 :: x13 :: x14 :: x15 :: x16 :: x17 :: x18 :: x19 :: x20 :: x21 :: x22 :: x23 :: x24 :: x25 :: x26 :: x27 :: x28 :: x29 :: x30 :: x31 :: x32 :: x33 :: x34 :: x35 :: x36 :: l)[36]? = some x36 := rfl
theorem g37 : (x0 :: x1 :: x2 :: x3 :: x4 :: x5 :: x6 :: x7 :: x8 :: x9 :: x10 :: x11 :: x12 :: x13 :: x14 :: x15 :: x16 :: x17 :: x18 :: x19 :: x20 :: x21 :: x22 :: x23 :: x24 :: x25 :: x26 :: x27 :: x28 :: x29 :: x30 :: x31 :: x32 :: x33 :: x34 :: x35 :: x36 :: x37 :: l)[37]? = some x37 := rfl
theorem g38 : (x0 :: x1 :: x2 :: x3 :: x4 :: x5 :: x6 :: x7 :: x8 :: x9 :: x10 :: x11 :: x12 :: x13 :: x14 :: x15 :: x16 :: x17 :: x18 :: x19 :: x20 :: x21 :: x22 :: x23 :: x24 :: x25 :: x26 :: x27 :: x28 :: x29 :: x30 :: x31 :: x32 :: x33 :: x34 :: x35 :: x36 :: x37 :: x38 :: l)[38]? = some x38 := rfl
theorem g39 : (x0 :: x1 :: x2 :: x3 :: x4 :: x5 :: x6 :: x7 :: x8 :: x9 :: x10 :: x11 :: x12 :: x13 :: x14 :: x15 :: x16 :: x17 :: x18 :: x19 :: x20 :: x21 :: x22 :: x23 :: x24 :: x25 :: x26 :: x27 :: x28 :: x29 :: x30 :: x31 :: x32 :: x33 :: x34 :: x35 :: x36 :: x37 :: x38 :: x39 :: l)[39]? = some x39 := rfl
theorem g40 : (x0 :: x1 :: x2 :: x3 :: x4 :: x5 :: x6 :: x7 :: x8 :: x9 :: x10 :: x11 :: x12 :: x13 :: x14 :: x15 :: x16 :: x17 :: x18 :: x19 :: x20 :: x21 :: x22 :: x23 :: x24 :: x25 :: x26 :: x27 :: x28 :: x29 :: x30 :: x31 :: x32 :: x33 :: x34 :: x35 :: x36 :: x37 :: x38 :: x39 :: x40 :: l)[40]? = some x40 := rfl
end
end Bs

set_option Elab.async false
set_option linter.all false
set_option maxRecDepth 100000
set_option maxHeartbeats 2000000
/-! texts: x[::-1]. -/
namespace Bs
open PySem PySem.Spec PySem.Calls PyProof.Rows L2
theorem str_rev (x : Str) (t u : Tok) : sliceMade x t none none (some (-1, u)) = .str ⟨x.cps.toList.reverse.toArray⟩ := by
  unfold sliceMade
  rw [if_neg (by simp)]
  unfold slicePicked
  show Made.str ⟨((sliceRange ((x.length : Int) - 1) (-1) (-1)).filterMap (x.cps[·]?)).toArray⟩ = _
  rw [PySem.W.krv_sliceRange, PySem.W.krv_range, List.filterMap_reverse, show x.length = x.cps.size from rfl, PySem.W.krv_all]
section
variable {X : Cx} {e : Expr} {te : TE} {ts : TO} {pos p2 : Pos}
/-- x[::-1] of a text -/
def cRvS (Q : VK) (x : V) (i : Option Int) (H : Hp) : Prop := i = some (-1) ∧ ∃ z : Str, x = .str z ∧ z.length ≤ sizeLine ∧ Q (.str ⟨z.cps.toList.reverse.toArray⟩) H
def tRvS (te : TE) (ts : TO) : TE := fun σ H Q => te σ H fun x H1 => ts σ H1 fun i H2 => cRvS Q x i H2
theorem pe_revS {uo : UnaryOp} {se : Expr} {p5 : Pos} (he : PE X e te) (hs : PO X (some (.UnaryOp uo se p5)) ts) : PE X (.Subscript e (.Slice none none (some (.UnaryOp uo se p5)) p2) pos) (tRvS te ts) := by
  refine ⟨fun pins s σ H Q I h => ?_⟩
  refine Subscript_ (thn (he.run pins s σ H _ I h) fun v s1 ⟨x, H1, I1, r1, q1⟩ => ?_)
  refine wpAny_Slice ?_
  rw [evalPart_none]
  refine wpAny_pure (wpAny_pure (thn (hs.run pins s1 σ H1 _ I1 q1) fun vk s3 ⟨i, H3, I3, pk, q3⟩ => ?_))
  obtain ⟨rfl, z, rfl, hz, q⟩ := q3
  obtain ⟨t, rfl⟩ := r1
  cases pk with
  | int _ u =>
    let so : Obj := { cls := .type "slice", data := .fields #[Value.none, Value.none, .int (-1) u] }
    have I4 : Inv X pins σ H3 { s3 with heap := s3.heap.push so } := I3.kept (t' := s3.toks) fun b ob z => Heap.get?_push_of_some _ z
    have hsl : ({ s3 with heap := s3.heap.push so } : Shared).heap.IsSlice s3.heap.objs.size none none (some (-1, u)) := ⟨_, Heap.get?_push_size _ rfl, rfl, rfl⟩
    refine tail_any (T := "str") (ops := [.str z t, .ref s3.heap.objs.size]) (typeIs_str _ _ _) F.slot_str_getitem.lookup (wpAny_getItem_str_slice (l := none) (u := none) (st := some (-1, u)) hsl rfl ?_) (by with_unfolding_all rfl)
    rw [str_rev]
    refine ⟨by show z.cps.toList.reverse.toArray.size ≤ sizeLine; rw [List.size_toArray, List.length_reverse]; exact hz, .str _, H3, I4.tok _, ⟨_, rfl⟩, q⟩
theorem r_rvS {σ : L2.St} {H : Hp} {Q : VK} (k : te σ H fun x H1 => ts σ H1 fun i H2 => cRvS Q x i H2) : tRvS te ts σ H Q := k
theorem o_rvS {H : Hp} {Q : VK} {z : Str} (h : z.length ≤ sizeLine) (k : Q (.str ⟨z.cps.toList.reverse.toArray⟩) H) : cRvS Q (.str z) (some (-1)) H := ⟨rfl, z, rfl, h, k⟩
end
end Bs

set_option Elab.async false
set_option linter.all false
set_option maxRecDepth 100000
set_option maxHeartbeats 2000000
/-! truth of ints; divmod; sums. -/
namespace Bs
open PySem PySem.Spec PySem.Calls PyProof.Rows L2
def cTr (K : PySem.W.Frag) (R : Bool → Hp → Prop) (x : V) (H : Hp) : Prop := ∃ k, TruV K x H k ∧ R k H
def tTr (K : PySem.W.Frag) (ta : TE) : TT := fun σ H R => ta σ H (cTr K R)
theorem pt_tr {X : Cx} {a : Expr} {ta : TE} (ha : PE X a ta) (he : ∀ whole, isTrue a X.env whole = (do let v ← whole; standAt a.pos; holding [v] (truthy v))) : PT X a (tTr X.K ta) := pt_truth ha he
def rDvm : List V → Hp → VK → Prop := fun xs H Q => ∃ i j, xs = [.int i, .int j] ∧ CDiv i j ∧ ∀ p, H p = none → Q (.ref p) (upd H p (.tup [.int (i / j), .int (i % j)]))
theorem cb_divmod {X : Cx} : CallR X (.builtin "divmod") rDvm := call_divmod
section
variable {K : PySem.W.Frag} {F H : Hp} {L : List (Addr × HO)} {R : Bool → Hp → Prop} {ta : TE} {σ : L2.St} {Q : VK} {i j : Int} {a : Addr} {ns : List Int}
theorem r_tr (k : ta σ H (cTr K R)) : tTr K ta σ H R := k
theorem tr_int (k : R (decide (i ≠ 0)) H) : cTr K R (.int i) H := ⟨decide (i ≠ 0), by by_cases h : i = 0 <;> simp [TruV, h], k⟩
theorem o_dvm (h : Own F H L) (c : 0 < j) (c2 : j < 1073741824) (k : ∀ p H', H p = none → Own F H' ((p, .tup [.int (i / j), .int (i % j)]) :: L) → Q (.ref p) H') : rDvm [.int i, .int j] H Q := ⟨i, j, rfl, ⟨c, c2⟩, fun p n => k p _ n (h.new n)⟩
theorem r_sum (s : SqL K H a (ns.map V.int)) (k : Q (.int ns.sum) H) : rSum K [.ref a] H Q := ⟨a, ns, rfl, s, k⟩
end
end Bs

set_option Elab.async false
set_option linter.all false
set_option maxRecDepth 100000
set_option maxHeartbeats 4000000
namespace Bs
open PySem PySem.Spec PyProof.Rows L2
def top (i : Nat) : Stmt := PySem.Challenge.pw_bitsolve_k09_words_of_texts.main.body.getD i (.Pass ⟨0, 0, 0, 0⟩)
abbrev FnP (K : PySem.W.Frag) (x q : Str) (st : Stmt) (f : Addr) (fd : FuncData) : Prop := FunD K x q (defArgs st) (defBody st) (defScope st) [] [] f fd
end Bs

/-! questions to the head -/
namespace Bs
open PySem PySem.Spec PyProof.Rows L2
def qTy (x : Str) : Qn := fun K => decide (PySem.W.findIn K (.ref (He.ga K x)) "__class__" = some (some (.builtin "object.__class__"))) && (decide (PySem.W.specialIn K (.builtin "object.__class__") "__get__" = some (some (.builtin "getset_descriptor.__get__"))) && (decide (PySem.W.takesIn K (.builtin "object.__class__") = some true) &&
  (decide (PySem.W.mroIn K (He.ga K x) (.type "object") = some true) && (decide (PySem.W.kitOne K (.ref (He.ga K x)) (.ref (He.ga K x)) = some true) && (decide (PySem.W.kitOne K (.type "int") (.ref (He.ga K x)) = some false) && decide (PySem.W.kitOne K (.type "int") (.type "int") = some true))))))
def qTyB : Qn := fun K => decide (PySem.W.kitOne K (.type "int") (.type "bool") = some false) && decide (PySem.W.kitOne K (.type "int") (.type "int") = some true)
def qRn (x : Str) (nm : String) : Qn := fun K => decide (PySem.W.findIn K (.ref (He.ga K x)) (dunderR nm) = some none)
def qEqO (x : Str) : Qn := fun K => decide (PySem.W.notFirst K (He.ga K x) (.ref (He.ga K x)) = true) && (decide (PySem.W.findIn K (.ref (He.ga K x)) "__ne__" = some (some (.builtin "object.__ne__"))) && decide (PySem.W.mroIn K (He.ga K x) (.type "object") = some true))
end Bs

namespace Bs
open PySem PySem.Spec PyProof.Rows L2
abbrev s__law_well : Stmt := top 31
theorem sc__law_well : FnScope ["_law_script", "_law_place", "_law_cell", "_law_seed"] ["_law_script", "_law_place"] (defScope s__law_well) := ⟨rfl, rfl, rfl, by decide +kernel, rfl, by decide +kernel, by decide +kernel⟩
abbrev s__law_take : Stmt := top 32
theorem sc__law_take : FnScope ["_law_well_here", "_law_many", "_law_taken", "_law_mixed"] ["_law_well_here", "_law_many"] (defScope s__law_take) := ⟨rfl, rfl, rfl, by decide +kernel, rfl, by decide +kernel, by decide +kernel⟩
abbrev s__law_text : Stmt := top 38
theorem sc__law_text : FnScope ["_law_well_here", "_law_size", "_law_way", "_law_found", "_law_part", "_law_turn", "_law_place"] ["_law_well_here", "_law_size"] (defScope s__law_text) := ⟨rfl, rfl, rfl, by decide +kernel, rfl, by decide +kernel, by decide +kernel⟩
abbrev s_BitError___init__ : Stmt := inClass (top 2) 0
theorem sc_BitError___init__ : FnScope ["self", "value"] ["self", "value"] (defScope s_BitError___init__) := ⟨rfl, rfl, rfl, by decide +kernel, rfl, by decide +kernel, by decide +kernel⟩
abbrev s_repeated : Stmt := top 15
theorem sc_repeated : FnScope ["low", "lead", "again", "span", "bottom"] ["low", "lead", "again", "span"] (defScope s_repeated) := ⟨rfl, rfl, rfl, by decide +kernel, rfl, by decide +kernel, by decide +kernel⟩
abbrev s_number_of : Stmt := top 18
theorem sc_number_of : FnScope ["text", "found", "char"] ["text"] (defScope s_number_of) := ⟨rfl, rfl, rfl, by decide +kernel, rfl, by decide +kernel, by decide +kernel⟩
abbrev s_common_part : Stmt := top 9
theorem sc_common_part : FnScope ["one", "other"] ["one", "other"] (defScope s_common_part) := ⟨rfl, rfl, rfl, by decide +kernel, rfl, by decide +kernel, by decide +kernel⟩
abbrev s_Word___init__ : Stmt := inClass (top 17) 0
theorem sc_Word___init__ : FnScope ["self", "top", "bottom", "shared"] ["self", "top", "bottom"] (defScope s_Word___init__) := ⟨rfl, rfl, rfl, by decide +kernel, rfl, by decide +kernel, by decide +kernel⟩
abbrev s_from_bits : Stmt := top 19
theorem sc_from_bits : FnScope ["lead", "span", "char", "top", "bottom"] ["lead", "span"] (defScope s_from_bits) := ⟨rfl, rfl, rfl, by decide +kernel, rfl, by decide +kernel, by decide +kernel⟩
abbrev s_Word_top : Stmt := inClass (top 17) 1
theorem sc_Word_top : FnScope ["self"] ["self"] (defScope s_Word_top) := ⟨rfl, rfl, rfl, by decide +kernel, rfl, by decide +kernel, by decide +kernel⟩
abbrev s_Word_bottom : Stmt := inClass (top 17) 2
theorem sc_Word_bottom : FnScope ["self"] ["self"] (defScope s_Word_bottom) := ⟨rfl, rfl, rfl, by decide +kernel, rfl, by decide +kernel, by decide +kernel⟩
abbrev s__law_caught : Stmt := top 39
theorem sc__law_caught : FnScope ["_law_head", "_law_loop", "_law_way", "_law_caught_here", "_law_word", "e"] ["_law_head", "_law_loop", "_law_way"] (defScope s__law_caught) := ⟨rfl, rfl, rfl, by decide +kernel, rfl, by decide +kernel, by decide +kernel⟩
abbrev s__law_worth : Stmt := top 36
theorem sc__law_worth : FnScope ["_law_bits_here", "_law_found", "_law_bit"] ["_law_bits_here"] (defScope s__law_worth) := ⟨rfl, rfl, rfl, by decide +kernel, rfl, by decide +kernel, by decide +kernel⟩
abbrev s__law_shared : Stmt := top 33
theorem sc__law_shared : FnScope ["_law_one", "_law_other"] ["_law_one", "_law_other"] (defScope s__law_shared) := ⟨rfl, rfl, rfl, by decide +kernel, rfl, by decide +kernel, by decide +kernel⟩
abbrev s__law_lowest : Stmt := top 34
theorem sc__law_lowest : FnScope ["_law_pair", "_law_share"] ["_law_pair"] (defScope s__law_lowest) := ⟨rfl, rfl, rfl, by decide +kernel, rfl, by decide +kernel, by decide +kernel⟩
abbrev s__law_due : Stmt := top 40
theorem sc__law_due : FnScope ["_law_head", "_law_loop", "_law_char", "_law_low", "_law_again", "_law_bottom"] ["_law_head", "_law_loop"] (defScope s__law_due) := ⟨rfl, rfl, rfl, by decide +kernel, rfl, by decide +kernel, by decide +kernel⟩
abbrev s_lead_of : Stmt := top 12
theorem sc_lead_of : FnScope ["top", "bottom", "found"] ["top", "bottom"] (defScope s_lead_of) := ⟨rfl, rfl, rfl, by decide +kernel, rfl, by decide +kernel, by decide +kernel⟩
abbrev s_Word_lead : Stmt := inClass (top 17) 3
theorem sc_Word_lead : FnScope ["self"] ["self"] (defScope s_Word_lead) := ⟨rfl, rfl, rfl, by decide +kernel, rfl, by decide +kernel, by decide +kernel⟩
abbrev s_span_of : Stmt := top 13
theorem sc_span_of : FnScope ["bottom", "found", "power"] ["bottom"] (defScope s_span_of) := ⟨rfl, rfl, rfl, by decide +kernel, rfl, by decide +kernel, by decide +kernel⟩
abbrev s_Word_span : Stmt := inClass (top 17) 4
theorem sc_Word_span : FnScope ["self"] ["self"] (defScope s_Word_span) := ⟨rfl, rfl, rfl, by decide +kernel, rfl, by decide +kernel, by decide +kernel⟩
abbrev s_parts_of : Stmt := top 24
theorem sc_parts_of : FnScope ["term"] ["term"] (defScope s_parts_of) := ⟨rfl, rfl, rfl, by decide +kernel, rfl, by decide +kernel, by decide +kernel⟩
abbrev s_weight_of : Stmt := top 26
theorem sc_weight_of : FnScope ["term", "found", "part"] ["term"] (defScope s_weight_of) := ⟨rfl, rfl, rfl, by decide +kernel, rfl, by decide +kernel, by decide +kernel⟩
abbrev s_Term_weight : Stmt := inClass (top 29) 2
theorem sc_Term_weight : FnScope ["self"] ["self"] (defScope s_Term_weight) := ⟨rfl, rfl, rfl, by decide +kernel, rfl, by decide +kernel, by decide +kernel⟩
abbrev s_Term___init__ : Stmt := inClass (top 29) 0
theorem sc_Term___init__ : FnScope ["self", "sign", "first", "second"] ["self", "sign", "first", "second"] (defScope s_Term___init__) := ⟨rfl, rfl, rfl, by decide +kernel, rfl, by decide +kernel, by decide +kernel⟩
abbrev s_fixed : Stmt := top 22
theorem sc_fixed : FnScope ["word"] ["word"] (defScope s_fixed) := ⟨rfl, rfl, rfl, by decide +kernel, rfl, by decide +kernel, by decide +kernel⟩
abbrev s__law_cycle : Stmt := top 37
theorem sc__law_cycle : FnScope ["_law_pair", "_law_seen", "_law_top", "_law_bottom"] ["_law_pair"] (defScope s__law_cycle) := ⟨rfl, rfl, rfl, by decide +kernel, rfl, by decide +kernel, by decide +kernel⟩
abbrev s__law_bits : Stmt := top 35
theorem sc__law_bits : FnScope ["_law_pair", "_law_many", "_law_found", "_law_top", "_law_bottom", "_law_place"] ["_law_pair", "_law_many"] (defScope s__law_bits) := ⟨rfl, rfl, rfl, by decide +kernel, rfl, by decide +kernel, by decide +kernel⟩
abbrev s__law_fits : Stmt := top 41
theorem sc__law_fits : FnScope ["_law_well_here", "_law_sizes", "_law_turn", "_law_head", "_law_loop", "_law_way", "_law_word", "_law_row", "_law_begin", "_law_again", "_law_told", "_law_char", "_law_signs", "_law_odd", "_law_place", "_law_spot", "_law_tries", "_law_left", "_law_right"] ["_law_well_here"] (defScope s__law_fits) := ⟨rfl, rfl, rfl, by decide +kernel, rfl, by decide +kernel, by decide +kernel⟩
abbrev s_law : Stmt := top 42
theorem sc_law : FnScope ["_law_script", "_law_place", "_law_well_here", "_law_turn"] ["_law_script"] (defScope s_law) := ⟨rfl, rfl, rfl, by decide +kernel, rfl, by decide +kernel, by decide +kernel⟩
def d__law_well : He5.DefA := ⟨fun K => He.ga K "_law_well", "_law_well", "_law_well", defArgs s__law_well, defBody s__law_well, defScope s__law_well, [], []⟩
def d__law_take : He5.DefA := ⟨fun K => He.ga K "_law_take", "_law_take", "_law_take", defArgs s__law_take, defBody s__law_take, defScope s__law_take, [], []⟩
def d__law_text : He5.DefA := ⟨fun K => He.ga K "_law_text", "_law_text", "_law_text", defArgs s__law_text, defBody s__law_text, defScope s__law_text, [], []⟩
def d_BitError___init__ : He5.DefA := ⟨fun K => He.ma K (He.ga K "BitError") "__init__", "__init__", "BitError.__init__", defArgs s_BitError___init__, defBody s_BitError___init__, defScope s_BitError___init__, [], []⟩
def d_repeated : He5.DefA := ⟨fun K => He.ga K "repeated", "repeated", "repeated", defArgs s_repeated, defBody s_repeated, defScope s_repeated, [], []⟩
def d_number_of : He5.DefA := ⟨fun K => He.ga K "number_of", "number_of", "number_of", defArgs s_number_of, defBody s_number_of, defScope s_number_of, [], []⟩
def d_common_part : He5.DefA := ⟨fun K => He.ga K "common_part", "common_part", "common_part", defArgs s_common_part, defBody s_common_part, defScope s_common_part, [], []⟩
def d_Word___init__ : He5.DefA := ⟨fun K => He.ma K (He.ga K "Word") "__init__", "__init__", "Word.__init__", defArgs s_Word___init__, defBody s_Word___init__, defScope s_Word___init__, [.int 1], []⟩
def d_from_bits : He5.DefA := ⟨fun K => He.ga K "from_bits", "from_bits", "from_bits", defArgs s_from_bits, defBody s_from_bits, defScope s_from_bits, [], []⟩
def d_Word_top : He5.DefA := ⟨fun K => prp K (He.ga K "Word") "top", "top", "Word.top", defArgs s_Word_top, defBody s_Word_top, defScope s_Word_top, [], []⟩
def d_Word_bottom : He5.DefA := ⟨fun K => prp K (He.ga K "Word") "bottom", "bottom", "Word.bottom", defArgs s_Word_bottom, defBody s_Word_bottom, defScope s_Word_bottom, [], []⟩
def d__law_caught : He5.DefA := ⟨fun K => He.ga K "_law_caught", "_law_caught", "_law_caught", defArgs s__law_caught, defBody s__law_caught, defScope s__law_caught, [], []⟩
def d__law_worth : He5.DefA := ⟨fun K => He.ga K "_law_worth", "_law_worth", "_law_worth", defArgs s__law_worth, defBody s__law_worth, defScope s__law_worth, [], []⟩
def d__law_shared : He5.DefA := ⟨fun K => He.ga K "_law_shared", "_law_shared", "_law_shared", defArgs s__law_shared, defBody s__law_shared, defScope s__law_shared, [], []⟩
def d__law_lowest : He5.DefA := ⟨fun K => He.ga K "_law_lowest", "_law_lowest", "_law_lowest", defArgs s__law_lowest, defBody s__law_lowest, defScope s__law_lowest, [], []⟩
def d__law_due : He5.DefA := ⟨fun K => He.ga K "_law_due", "_law_due", "_law_due", defArgs s__law_due, defBody s__law_due, defScope s__law_due, [], []⟩
def d_lead_of : He5.DefA := ⟨fun K => He.ga K "lead_of", "lead_of", "lead_of", defArgs s_lead_of, defBody s_lead_of, defScope s_lead_of, [], []⟩
def d_Word_lead : He5.DefA := ⟨fun K => prp K (He.ga K "Word") "lead", "lead", "Word.lead", defArgs s_Word_lead, defBody s_Word_lead, defScope s_Word_lead, [], []⟩
def d_span_of : He5.DefA := ⟨fun K => He.ga K "span_of", "span_of", "span_of", defArgs s_span_of, defBody s_span_of, defScope s_span_of, [], []⟩
def d_Word_span : He5.DefA := ⟨fun K => prp K (He.ga K "Word") "span", "span", "Word.span", defArgs s_Word_span, defBody s_Word_span, defScope s_Word_span, [], []⟩
def d_parts_of : He5.DefA := ⟨fun K => He.ga K "parts_of", "parts_of", "parts_of", defArgs s_parts_of, defBody s_parts_of, defScope s_parts_of, [], []⟩
def d_weight_of : He5.DefA := ⟨fun K => He.ga K "weight_of", "weight_of", "weight_of", defArgs s_weight_of, defBody s_weight_of, defScope s_weight_of, [], []⟩
def d_Term_weight : He5.DefA := ⟨fun K => prp K (He.ga K "Term") "weight", "weight", "Term.weight", defArgs s_Term_weight, defBody s_Term_weight, defScope s_Term_weight, [], []⟩
def d_Term___init__ : He5.DefA := ⟨fun K => He.ma K (He.ga K "Term") "__init__", "__init__", "Term.__init__", defArgs s_Term___init__, defBody s_Term___init__, defScope s_Term___init__, [], []⟩
def d_fixed : He5.DefA := ⟨fun K => He.ga K "fixed", "fixed", "fixed", defArgs s_fixed, defBody s_fixed, defScope s_fixed, [], []⟩
def d__law_cycle : He5.DefA := ⟨fun K => He.ga K "_law_cycle", "_law_cycle", "_law_cycle", defArgs s__law_cycle, defBody s__law_cycle, defScope s__law_cycle, [], []⟩
def d__law_bits : He5.DefA := ⟨fun K => He.ga K "_law_bits", "_law_bits", "_law_bits", defArgs s__law_bits, defBody s__law_bits, defScope s__law_bits, [], []⟩
def d__law_fits : He5.DefA := ⟨fun K => He.ga K "_law_fits", "_law_fits", "_law_fits", defArgs s__law_fits, defBody s__law_fits, defScope s__law_fits, [], []⟩
def d_law : He5.DefA := ⟨fun K => He.ga K "law", "law", "law", defArgs s_law, defBody s_law, defScope s_law, [], []⟩
def fn : List He5.DefA := [d__law_well, d__law_take, d__law_text, d_BitError___init__, d_repeated, d_number_of, d_common_part, d_Word___init__, d_from_bits, d_Word_top, d_Word_bottom, d__law_caught, d__law_worth, d__law_shared, d__law_lowest, d__law_due, d_lead_of, d_Word_lead, d_span_of, d_Word_span, d_parts_of, d_weight_of, d_Term_weight, d_Term___init__, d_fixed, d__law_cycle, d__law_bits, d__law_fits, d_law]
def fa : List Qn := [qBi, qGlo "law", qGlo "_law_well", qGlo "_law_take", qGlo "_law_text", qGlo "BitError", qXc "BitError", qGlo "InvalidWord", qXc "InvalidWord", qGlo "repeated", qGlo "number_of", qCls "Word", qNoat "Word" "kept_top", qNoat "Word" "kept_bottom", qGlo "common_part", qGlo "Word", qMkr "Word", qGlo "from_bits", qProp "Word" "top", qProp "Word" "bottom", qXs "BitError" "InvalidWord", qGlo "_law_caught", qGlo "_law_worth", qGlo "_law_shared", qGlo "_law_lowest", qGlo "_law_due", qGlo "lead_of", qProp "Word" "lead", qGlo "span_of", qProp "Word" "span", qGlo "parts_of", qGlo "weight_of", qCls "Term", qNoat "Term" "sign", qNoat "Term" "first", qNoat "Term" "second", qProp "Term" "weight", qGlo "Term", qMkr "Term", qGlo "fixed", qGlo "_law_cycle", qGlo "_law_bits", qGlo "_law_fits"]
abbrev Rw : PySem.W.OpenRow := PySem.W.OpenLaw.row PySem.Challenge.rw_bitsolve_k09_words_of_texts
abbrev hkM : PySem.W.Hook := hookM 6 fa fn
def ob (s : PySem.W.SharedT) : He.AlD := obsMG 6 fa fn (HandSHeadRun.getT s)
theorem ob_eq (s : PySem.W.SharedT) : ob s = hkM.obs s.abs := obsMG_eq (HandSHeadRun.getT_eq s)
theorem headRun (w : World) : HandSHeadRun.RunEq Rw (PySem.W.view Rw.prog [42]) hkM ob 6000 ("_wall" :: "BitError" :: "InvalidWord" :: "NotOdd" :: "InvalidPlace" :: "UnknownName" :: "InvalidShift" :: "common_part" :: "inverse_low" :: "low_of" :: "lead_of" :: "span_of" :: "fraction_of" :: "repeated" :: "bits_mixed" :: "Word" :: "number_of" :: "from_bits" :: "PAIR_SIGNS" :: "fixed" :: "term_of" :: "parts_of" :: "names_in" :: "weight_of" :: "value_of" :: "check_known" :: "Term" :: "_law_well" :: "_law_take" :: "_law_shared" :: "_law_lowest" :: "_law_bits" :: "_law_worth" :: "_law_cycle" :: "_law_text" :: "_law_caught" :: "_law_due" :: "_law_fits" :: []) w := by
  intro os
  kernel_rfl
end Bs

set_option hygiene false in
local macro_rules | `(tactic| walk_at "sd") => `(tactic| first
  | assumption
  | omega
  | (show _ ≠ _; omega)
  | (show _ < _; omega)
  | exact Bs.mok_l (by omega) (by omega)
  | exact Bs.mok_r (by omega) (by omega)
  | exact Bs.cpw 70 (by omega) (by omega) (by omega)
  | exact Bs.cdivw 110 (by omega) (by omega) (by decide) (by decide)
  | exact Bs.cfd 110 (by omega) (by omega) (by decide) (by decide)
  | exact Bs.cshl 70 (by omega) (by omega) (by omega)
  | decide
  | rfl)
set_option hygiene false in
local macro_rules | `(tactic| walk_at "oi") => `(tactic| first | exact Bs.g0 | exact Bs.g1 | exact Bs.g2 | exact Bs.g3 | exact Bs.g4 | exact Bs.g5 | exact Bs.g6 | exact Bs.g7 | exact Bs.g8 | exact Bs.g9 | exact Bs.g10 | exact Bs.g11 | exact Bs.g12 | exact Bs.g13 | exact Bs.g14 | exact Bs.g15 | exact Bs.g16 | exact Bs.g17)
set_option hygiene false in
local macro_rules | `(tactic| walk_at "hq") => `(tactic| first
  | assumption
  | exact L2.SqL.of (Bs.Own.get (by assumption) _ (by walk_at "oi"))
  | exact L2.SqT.of (Bs.Own.get (by assumption) _ (by walk_at "oi"))
  | exact L2.Same.seq (Bs.Own.toSame (by assumption)) (by assumption)
  | exact Bs.sqT_same (Bs.Own.toSame (by assumption)) (by assumption))
set_option hygiene false in
local macro_rules | `(tactic| walk_at "dp") => `(tactic| first
  | assumption
  | exact L2.Dp.int _
  | exact L2.Dp.bl _
  | exact L2.Dp.str _
  | exact L2.Dp.non
  | ((refine' Bs.dp_lst ?dq1 ?dq2); (case dq1 => first | assumption | exact Bs.Own.get (by assumption) _ (by walk_at "oi")); (case dq2 => walk_at "dps"))
  | ((refine' Bs.dp_tup ?dq1 ?dq2); (case dq1 => first | assumption | exact Bs.Own.get (by assumption) _ (by walk_at "oi")); (case dq2 => walk_at "dps")))
set_option hygiene false in
local macro_rules | `(tactic| walk_at "dps") => `(tactic| first
  | exact L2.DpAll.nil
  | ((apply L2.DpAll.cons); (walk_at "dp"); (walk_at "dps")))
set_option hygiene false in
local macro_rules | `(tactic| walk_at "rp") => `(tactic| first
  | assumption
  | exact Bs.rq_bl (by simp)
  | exact Bs.rq_non (by simp)
  | exact Bs.rq_int (by omega) (by simp)
  | ((apply Bs.rq_list (by simp) (by simp)); (walk_at "rps"))
  | ((apply Bs.rq_tup (by simp) (by simp)); (walk_at "rps")))
set_option hygiene false in
local macro_rules | `(tactic| walk_at "rps") => `(tactic| first
  | exact Bs.rpl_nil
  | ((apply Bs.rpl_cons); (walk_at "rp"); (walk_at "rps")))
set_option hygiene false in
local macro_rules | `(tactic| walk_at "ow") => `(tactic| (try dsimp only [Int.reduceToNat, List.set_cons_zero, List.set_cons_succ] at ow))
set_option hygiene false in
local macro_rules | `(tactic| walk_at "r1") => `(tactic| first
  | ((with_reducible refine Bs.r_nx ?_); (try dsimp only [List.set_cons_zero, List.set_cons_succ]))
  | ((with_reducible refine' Bs.r_var ?rv ?_); (case rv => exact rfl))
  | with_reducible refine Bs.r_c ?_
  | with_reducible refine Bs.r_op ?_
  | with_reducible refine Bs.r_I0 ?_
  | ((with_reducible refine Bs.r_I ?rc ?_); (case rc => walk_at "sd"))
  | with_reducible refine Bs.r_test ?_
  | with_reducible refine Bs.r_isbl ?_
  | ((with_reducible refine Bs.r_eq ?rs ?_); (case rs => rfl))
  | ((with_reducible refine Bs.r_ne ?rs ?_); (case rs => rfl))
  | with_reducible refine Bs.r_seq ?_
  | with_reducible refine Bs.r_asgN ?_
  | with_reducible refine Bs.r_par ?_
  | with_reducible refine Bs.r_pair ?_
  | with_reducible refine Bs.r_par3 ?_
  | with_reducible refine Bs.r_tri ?_
  | with_reducible refine Bs.r_ifS ?_
  | with_reducible refine Bs.r_ret ?_
  | with_reducible refine Bs.r_cons ?_
  | with_reducible refine Bs.r_nil ?_
  | with_reducible refine Bs.r_CB ?_
  | with_reducible refine Bs.r_call ?_
  | with_reducible refine Bs.r_un ?_
  | with_reducible refine Bs.r_U ?_
  | with_reducible refine Bs.r_if ?_
  | with_reducible refine Bs.r_and ?_
  | with_reducible refine Bs.r_or ?_
  | with_reducible refine Bs.r_not ?_
  | with_reducible refine Bs.r_next ?_
  | with_reducible refine Bs.r_drop ?_
  | with_reducible refine Bs.r_tup ?_
  | with_reducible refine Bs.r_lst ?_
  | with_reducible refine Bs.r_asgT ?_
  | with_reducible refine Bs.r_asgS ?_
  | with_reducible refine Bs.r_andV ?_
  | with_reducible refine Bs.r_orV ?_
  | with_reducible refine Bs.r_notV ?_
  | with_reducible refine Bs.r_tB ?_
  | with_reducible refine Bs.r_isN ?_
  | with_reducible refine Bs.r_notN ?_
  | with_reducible refine Bs.r_retN ?_
  | with_reducible refine Bs.i_tt ?_
  | with_reducible refine Bs.i_ff ?_
  | with_reducible refine Bs.r_turn ?_
  | with_reducible refine Bs.r_rt ?_
  | with_reducible refine Bs.r_bk ?_
  | with_reducible refine Bs.r_ct ?_
  | with_reducible refine Bs.r_abs ?_
  | with_reducible refine Bs.r_int1 ?_
  | with_reducible refine Bs.r_int1b ?_
  | with_reducible refine Bs.r_max2 ?_
  | with_reducible refine Bs.r_min2 ?_
  | ((with_reducible refine' Bs.r_lenL ?p1 ?_); (case p1 => walk_at "hq"))
  | ((with_reducible refine' Bs.r_lenT ?p1 ?_); (case p1 => walk_at "hq"))
  | ((with_reducible refine' Bs.r_ixL ?p1 ?p2 ?_); (case p1 => walk_at "hq"); (case p2 => first | exact rfl | assumption))
  | ((with_reducible refine' Bs.r_ixT ?p1 ?p2 ?_); (case p1 => walk_at "hq"); (case p2 => first | exact rfl | assumption))
  | with_reducible refine Bs.r_gname ?_
  | with_reducible refine Bs.r_gcons ?_
  | with_reducible refine Bs.r_gnil ?_
  | ((with_reducible refine' Bs.o_ixL ?p1 ?p2 ?p3 ?_); (case p1 => assumption); (case p2 => walk_at "oi"); (case p3 => exact rfl))
  | ((with_reducible refine' Bs.o_ixT ?p1 ?p2 ?p3 ?_); (case p1 => assumption); (case p2 => walk_at "oi"); (case p3 => exact rfl))
  | ((with_reducible refine' Bs.o_unp ?p1 ?p2 ?p3 ?_); (case p1 => assumption); (case p2 => walk_at "oi"); (case p3 => exact rfl))
  | ((with_reducible refine' Bs.o_setL ?p1 ?p2 ?p3 ?_); (case p1 => assumption); (case p2 => walk_at "oi"); (case p3 => exact rfl); intro H' ow; walk_at "ow")
  | ((with_reducible refine' Bs.o_tup ?p1 ?p2 ?_); (case p1 => assumption); (case p2 => exact rfl); intro pT H' np ow)
  | ((with_reducible refine' Bs.o_lst ?p1 ?p2 ?_); (case p1 => assumption); (case p2 => exact rfl); intro pL H' np ow)
  | with_reducible refine Bs.r_mkX ?_
  | with_reducible refine Bs.r_sfld ?_
  | with_reducible refine Bs.r_fld ?_
  | ((with_reducible refine' Bs.o_xd ?p1 ?_); (case p1 => assumption); intro dX H' nx ow)
  | ((with_reducible refine' Bs.o_sfld ?p1 ?p2 ?p3 ?p4 ?p5 ?_); (case p1 => assumption); (case p2 => walk_at "oi"); (case p3 => assumption); (case p4 => assumption); (case p5 => exact rfl); intro H' ow; walk_at "ow")
  | ((with_reducible refine' Bs.o_gfld ?p1 ?p2 ?p3 ?p4 ?p5 ?_); (case p1 => assumption); (case p2 => walk_at "oi"); (case p3 => assumption); (case p4 => assumption); (case p5 => walk_at "lk"))
  | ((with_reducible refine' Bs.o_gfldF ?p1 ?p3 ?p4 ?p5 ?_); (case p1 => assumption); (case p3 => assumption); (case p4 => assumption); (case p5 => walk_at "lk"))
  | with_reducible refine Bs.r_W2 ?_
  | with_reducible refine Bs.r_nn ?_
  | ((with_reducible refine' Bs.r_repr ?p1 ?p2 ?_); (case p1 => walk_at "dp"); (case p2 => walk_at "rp"))
  | with_reducible refine Bs.i_refN ?_
  | with_reducible refine Bs.i_nt ?_
  | with_reducible refine Bs.i_nf ?_
  | with_reducible refine Bs.i_nonN ?_
  | with_reducible refine Bs.i_ref ?_
  | with_reducible refine Bs.i_nonT ?_
  | with_reducible refine Bs.r_W1 ?_
  | with_reducible refine Bs.r_Wk ?_
  | with_reducible refine Bs.r_Wt ?_
  | with_reducible refine Bs.r_prop2 ?_
  | with_reducible refine Bs.r_xv2 ?_
  | with_reducible refine Bs.r_for ?_
  | with_reducible refine Bs.r_rng1 ?_
  | ((with_reducible refine' Bs.r_j ?p1 ?p2 ?_); (case p1 => omega); (case p2 => omega))
  | ((with_reducible refine' Bs.o_prop ?p1 ?p2 ?_); (case p1 => assumption); (case p2 => walk_at "oi"))
  | ((with_reducible refine' Bs.o_propF ?p1 ?_); (case p1 => assumption))
  | ((with_reducible refine' Bs.c_get ?p1 ?p2 ?_); (case p1 => first | assumption | exact Bs.Own.get (by assumption) _ (by walk_at "oi")); (case p2 => walk_at "lk"))
  | ((with_reducible refine' Bs.r_wAs ?p1 ?_); (case p1 => assumption); intro eX nE)
  | ((with_reducible refine' Bs.r_isX ?p1 ?p2 ?p3 ?_); (case p1 => first | assumption | exact Bs.Own.get (by assumption) _ (by walk_at "oi")); (case p2 => assumption); (case p3 => assumption))
  | ((with_reducible refine' Bs.o_xv ?p1 ?p2 ?p3 ?_); (case p1 => first | assumption | exact Bs.Own.get (by assumption) _ (by walk_at "oi")); (case p2 => assumption); (case p3 => assumption))
  | (with_reducible show ∃ _, _ ∧ _; refine ⟨_, rfl, ?_⟩)
  | (with_reducible show ∃ _, ∃ _, _ ∧ _; refine ⟨_, _, rfl, ?_⟩))
set_option hygiene false in
local macro_rules | `(tactic| walk_at "rd") => `(tactic| repeat (walk_at "r1"))
set_option hygiene false in
local macro_rules | `(tactic| walk_at "br") => `(tactic| with_reducible first
  | refine Bs.i_int (fun hc => ?_) (fun hc => ?_) | refine Bs.i_intN (fun hc => ?_) (fun hc => ?_)
  | refine Bs.i_dec (fun hc => ?_) (fun hc => ?_) | refine Bs.i_decN (fun hc => ?_) (fun hc => ?_))
set_option hygiene false in
local macro_rules | `(tactic| walk_at "go") => `(tactic| repeat' (first | walk_at "r1" | (walk_at "br" <;> first | (exfalso; omega) | exact absurd rfl hc | skip)))
set_option hygiene false in
local macro_rules | `(tactic| walk_at "s0") => `(tactic| (try dsimp only [L2.cxOf, L2.Cx.nox, L2.Cx.wish, L2.start, List.map, List.map_cons, List.map_nil, List.length_cons, List.length_nil, Nat.reduceAdd, Nat.reduceSub, List.replicate_succ, List.replicate_zero, List.replicate, List.cons_append, List.nil_append, List.append_nil]))
set_option hygiene false in
local macro_rules | `(tactic| walk_at "len") => `(tactic| first | (obtain ⟨hle, _⟩ := h; rw [hle]; rfl) | (obtain ⟨_, h⟩ := h; walk_at "len"))

namespace Bs
open PySem PySem.Spec PyProof.Rows L2
/-! the law's source of draws -/
/-- a well: its list -/
abbrev wl (x y z : Int) : HO := .lst [.int x, .int y, .int z]
structure WOk (y z : Int) : Prop where
  y0 : 0 ≤ y
  y1 : y < 2 ^ 62
  z0 : 0 ≤ z
  z1 : z ≤ 1000000


section
variable {P : Program} {w : World} {K : PySem.W.Frag} {mg : Str → Option Value} {base : Heap}
def sp_well (K : PySem.W.Frag) : Sp := fun vs H Q _ => ∃ (a : Addr) (ns : List Int) (k : Nat), vs = [.ref a, .int k] ∧ SqL K H a (ns.map V.int) ∧ ns.length ≤ 63 ∧ k ≤ 63 ∧
  ∀ p x y H', H p = none → H' p = some (wl x y 0) → Same H H' → WOk y 0 → Q (.ref p) H'
theorem ok_well {f : Addr} {fd : FuncData} (F : FnP K "_law_well" "_law_well" s__law_well f fd) (B : Bi mg) : FnOk P w K mg base CX0 1 f fd ["_law_script", "_law_place"] (sp_well K) := by
  refine F.ok sc__law_well (fun vs H Q E h => ?_) (fun cdv A outer s H vs Q E hr h => ?_)
  · obtain ⟨a, ns, k, rfl, _⟩ := h
    rfl
  · obtain ⟨a, ns, k, rfl, hS, hl, hk, q⟩ := h
    have nd := sc__law_well.nd
    refine ⟨_, PSs.nox (pss_cons (ps_set (i := 2) nd rfl (Or.inl rfl) pe_int)
      (pss_cons (ps_if (pt_cmpR op_lt (pv 1) (pe_callB cb_len rfl B.len (by decide +kernel) (pa_cons (pv 0) pa_nil)) (nomark _)) (pss_one (ps_set (i := 2) nd rfl (Or.inl rfl) (pe_ix ix_list (pv 0) (pv 1) (fun _ _ => rfl)))) pss_nil)
      (pss_cons (ps_set (i := 3) nd rfl (Or.inl rfl) (pe_op op_mod (pe_callTy cb_int1 rfl B.int (by decide +kernel) (pa_cons (pe_op op_add (pe_op op_mulO (pe_callB cb_abs rfl B.abs (by decide +kernel) (pa_cons (pv 2) pa_nil)) pe_int) (pe_callTy cb_int1 rfl B.int (by decide +kernel) (pa_cons (pe_cmpR op_lt (pv 2) pe_int (nomark _)) pa_nil))) pa_nil)) pe_int))
      (pss_one (ps_ret (pe_lst (pa_cons (pe_op op_mulO (pv 2) (pe_callTy cb_int1 rfl B.int (by decide +kernel) (pa_cons (pe_cmpR op_ge (pv 2) (pe_op op_powW pe_int pe_int) (nomark _)) pa_nil))) (pa_cons (pe_op op_add (pv 3) (pe_op op_mulO pe_int (pv 1))) (pa_cons pe_int pa_nil))))))))), ?_⟩
    walk_at "s0"
    have ow := Own.start H
    walk_at "go"
    · rw [List.length_map] at hc
      refine r_ixL hS (at_map (by omega)) ?_
      walk_at "go"
      exact q pL _ _ H' np (ow.get 0 rfl) (ow.drop.toSame_of) ⟨by split <;> omega, by split <;> omega, by omega, by omega⟩
    · exact q pL _ _ H' np (ow.get 0 rfl) (ow.drop.toSame_of) ⟨by split <;> omega, by split <;> omega, by omega, by omega⟩
def sp_take : Sp := fun vs H Q _ => ∃ (a : Addr) (x y z m : Int), vs = [.ref a, .int m] ∧ H a = some (wl x y z) ∧ WOk y z ∧ z < 1000000 ∧ 1 ≤ m ∧ m < 2 ^ 100 ∧
  ∀ v x' z' H', 0 ≤ v → v < m → z ≤ z' → z' ≤ z + 1 → Mut a (wl x' y z') H H' → Q (.int v) H'
theorem ok_take {f : Addr} {fd : FuncData} (F : FnP K "_law_take" "_law_take" s__law_take f fd) (B : Bi mg) : FnOk P w K mg base CX0 1 f fd ["_law_well_here", "_law_many"] sp_take := by
  refine F.ok sc__law_take (fun vs H Q E h => ?_) (fun cdv A outer s H vs Q E hr h => ?_)
  · obtain ⟨a, x, y, z, m, rfl, _⟩ := h
    rfl
  · obtain ⟨a, x, y, z, m, rfl, ha, ⟨y0, y1, z0, z1⟩, hz, hm, hM, q⟩ := h
    have nd := sc__law_take.nd
    refine ⟨_, PSs.nox (pss_cons (ps_if (pt_cmpR op_gt (pe_ix ix_list (pv 0) pe_int (fun _ _ => rfl)) pe_int (nomark _)) (pss_cons (ps_set (i := 2) nd rfl (Or.inl rfl) (pe_op op_mod (pe_callTy cb_int1 rfl B.int (by decide +kernel) (pa_cons (pe_ix ix_list (pv 0) pe_int (fun _ _ => rfl)) pa_nil)) (pv 1)))
      (pss_cons (ps_asg (pe_op op_fdivW (pe_ix ix_list (pv 0) pe_int (fun _ _ => rfl)) (pv 1)) (pg_sub (pv 0) pe_int set_list))
      (pss_one (ps_ret (pv 2))))) pss_nil)
      (pss_cons (ps_asg (pe_op op_add (pe_ix ix_list (pv 0) pe_int (fun _ _ => rfl)) pe_int) (pg_sub (pv 0) pe_int set_list))
      (pss_cons (ps_set (i := 3) nd rfl (Or.inl rfl) (pe_op op_add (pe_op op_powW (pe_op op_add (pe_ix ix_list (pv 0) pe_int (fun _ _ => rfl)) (pe_op op_mulO pe_int (pe_ix ix_list (pv 0) pe_int (fun _ _ => rfl)))) pe_int) (pe_op op_mulO pe_int (pe_ix ix_list (pv 0) pe_int (fun _ _ => rfl)))))
      (pss_cons (ps_set (i := 3) nd rfl (Or.inl rfl) (pe_op op_add (pe_op op_mod (pe_callTy cb_int1 rfl B.int (by decide +kernel) (pa_cons (pv 3) pa_nil)) pe_int) (pe_op op_mulO pe_int (pe_ix ix_list (pv 0) pe_int (fun _ _ => rfl)))))
      (pss_cons (ps_set (i := 3) nd rfl (Or.inl rfl) (pe_op op_mod (pe_callTy cb_int1 rfl B.int (by decide +kernel) (pa_cons (pe_op op_powW (pv 3) pe_int) pa_nil)) pe_int))
      (pss_one (ps_ret (pe_op op_mod (pe_callTy cb_int1 rfl B.int (by decide +kernel) (pa_cons (pe_op op_fdivW (pv 3) pe_int) pa_nil)) (pv 1))))))))), ?_⟩
    walk_at "s0"
    have ow := Own.take1 ha
    walk_at "go"
    · exact q _ _ _ _ (Int.emod_nonneg _ (by omega)) (Int.emod_lt_of_pos _ (by omega)) (by omega) (by omega) (ow.mut_of g0)
    · exact q _ _ _ _ (Int.emod_nonneg _ (by omega)) (Int.emod_lt_of_pos _ (by omega)) (by omega) (by omega) (ow.mut_of g0)
end

/-! words: the greatest common divisor, the constructor -/



theorem gcd_step {a b : Int} (h : b ≠ 0) : Int.gcd b (a.fmod b) = Int.gcd a b := by
  rw [Int.fmod_def, Int.gcd_sub_mul_left_right, Int.gcd_comm]
theorem natAbs_fmod {a b : Int} (h : b ≠ 0) : (a.fmod b).natAbs < b.natAbs := by
  rcases Int.lt_or_gt_of_ne h with hb | hb
  · have h1 := Int.neg_fmod_neg (-a) (-b)
    rw [Int.neg_neg, Int.neg_neg] at h1
    have h2 := Int.fmod_nonneg_of_pos (-a) (show 0 < -b by omega)
    have h3 := Int.fmod_lt_of_pos (-a) (show 0 < -b by omega)
    omega
  · have h2 := Int.fmod_nonneg_of_pos a hb
    have h3 := Int.fmod_lt_of_pos a hb
    omega
/-- what a fraction is shortened by -/
def wSh (t b : Int) : Int := if b < 0 then -(Int.gcd t b : Int) else Int.gcd t b
def wT (t b : Int) : Int := t.fdiv (wSh t b)
def wB (t b : Int) : Int := b.fdiv (wSh t b)
def wOk (t b : Int) : Prop := b ≠ 0 ∧ wB t b % 2 ≠ 0
theorem wSh_ne {t b : Int} (h : b ≠ 0) : wSh t b ≠ 0 := by
  have : 0 < Int.gcd t b := Int.gcd_pos_of_ne_zero_right t h
  unfold wSh; split <;> omega
theorem gcd_le_b {t b : Int} (h : b ≠ 0) : Int.gcd t b ≤ b.natAbs := Nat.le_of_dvd (by omega) (Int.natAbs_dvd_natAbs.mpr (Int.gcd_dvd_right t b))
/-- the fields of a word -/
abbrev wfl (t b : Int) : List (Str × V) := [("kept_top", .int t), ("kept_bottom", .int b)]
theorem wk_ne : ¬ (("kept_top" : Str) = "kept_bottom") := by decide +kernel
theorem put_top (t : Int) : putF "kept_top" (V.int t) [] = [(("kept_top" : Str), V.int t)] := rfl
theorem put_bot (t b : Int) : putF "kept_bottom" (V.int b) [(("kept_top" : Str), V.int t)] = wfl t b := by
  show (if ("kept_top" : Str) = "kept_bottom" then [(("kept_top" : Str), V.int b)] else (("kept_top" : Str), V.int t) :: putF "kept_bottom" (V.int b) []) = wfl t b
  rw [if_neg wk_ne]
  rfl
theorem wfl_top (t b : Int) : (wfl t b).lookup ("kept_top" : Str) = some (.int t) := by simp [List.lookup]
theorem wfl_bot (t b : Int) : (wfl t b).lookup ("kept_bottom" : Str) = some (.int b) := by
  have : (("kept_bottom" : Str) == "kept_top") = false := by decide +kernel
  simp [List.lookup, this]
section
variable {P : Program} {w : World} {K : PySem.W.Frag} {mg : Str → Option Value} {base : Heap}
def sp_common_part : Sp := fun vs H Q _ => ∃ a b : Int, vs = [.int a, .int b] ∧ Q (.int (Int.gcd a b : Int)) H
theorem c_gcd {a b : Int} {H : Hp} {Q : VK} {E : XK} (k : Q (.int (Int.gcd a b : Int)) H) : sp_common_part ([.int a, .int b] ++ []) H Q E := ⟨a, b, rfl, k⟩
set_option hygiene false in
local macro_rules | `(tactic| walk_at "r1") => `(tactic| with_reducible refine Bs.c_gcd ?_)
set_option hygiene false in
local macro_rules | `(tactic| walk_at "lk") => `(tactic| first
  | exact Bs.wfl_top _ _
  | exact Bs.wfl_bot _ _)
theorem ok_common_part {f : Addr} {fd : FuncData} (F : FnP K "common_part" "common_part" s_common_part f fd) (B : Bi mg) : FnOk P w K mg base CX0 1 f fd ["one", "other"] sp_common_part := by
  refine F.ok sc_common_part (fun vs H Q E h => ?_) (fun cdv A outer s H vs Q E hr h => ?_)
  · obtain ⟨a, b, rfl, _⟩ := h
    rfl
  · obtain ⟨a, b, rfl, k⟩ := h
    have nd := sc_common_part.nd
    refine ⟨_, PSs.nox (pss_cons (ps_while PassesOwn.never (pt_cmpR op_ne (pv 1) pe_int (nomark _)) (pss_one (ps_par (i := 0) (j := 1) rfl nd rfl rfl (by decide) rfl rfl (pa_cons (pv 1) (pa_cons (pe_op op_modN (pv 0) (pv 1)) pa_nil)) rfl)))
      (pss_one (ps_ret (pe_callB cb_abs rfl B.abs (by decide +kernel) (pa_cons (pv 0) pa_nil))))), ?_⟩
    walk_at "s0"
    walk_at "go"
    refine r_while (fun m σ H' => ∃ x y : Int, σ = [some (.int x), some (.int y)] ∧ H' = H ∧ m = y.natAbs ∧ Int.gcd x y = Int.gcd a b) b.natAbs ⟨a, b, rfl, rfl, rfl, rfl⟩ ?_
    rintro m σ H' ⟨x, y, rfl, rfl, rfl, hg⟩
    walk_at "go"
    · exact ⟨_, natAbs_fmod hc, _, _, rfl, rfl, rfl, (gcd_step hc).trans hg⟩
    · subst hc
      rw [Int.gcd_zero_right] at hg
      rw [hg]
      exact k
theorem ok_excInit {f : Addr} {fd : FuncData} (F : FnP K "__init__" "BitError.__init__" s_BitError___init__ f fd) : FnOk P w K mg base CX0 1 f fd ["self", "value"] (sp_excInit K) := by
  refine F.ok sc_BitError___init__ (fun vs H Q E h => ?_) (fun cdv A outer s H vs Q E hr h => ?_)
  · obtain ⟨a, C, v, rfl, _⟩ := h
    rfl
  · obtain ⟨a, C, v, rfl, T, nv, ha, k⟩ := h
    refine ⟨_, PSs.nox (pss_one (ps_ost (pv 0) (pv 1))), ?_⟩
    exact ⟨v, rfl, .ref a, rfl, a, C, rfl, T, nv, .inl ⟨ha, fun dx h1 h2 => k dx h1 h2⟩⟩
/-- Word.__init__: C the class, I that of InvalidWord -/
def sp_Word_init (C I : Addr) : Sp := fun vs H Q E => ∃ (p dx : Addr) (t b : Int), vs = [.ref p, .int t, .int b] ∧ H p = some (.ins C dx []) ∧ b.natAbs < 2 ^ 8000 ∧
  (wOk t b → ∀ H', Mut p (.ins C dx (wfl (wT t b) (wB t b))) H H' → Q .non H') ∧
  (¬ wOk t b → ∀ d q H', Same H H' → H d = none → H q = none → H' d = some (.xd [("value", .ref q)]) → H' q = some (.tup [.int t, .int b]) → E (.ref I) (some d) H')
theorem own_back {H H' : Hp} {p : Addr} {o : HO} {L : List (Addr × HO)} {i : Nat} (hp : H p = some o) (h : Own (fun b => if b = p then none else H b) H' L) (e : L[i]? = some (p, o)) : Same H H' := fun b u hb => by
  by_cases z : b = p
  · subst z; rw [hp] at hb; cases hb; exact h.get i e
  · exact h.sub b u (by show (if b = p then none else H b) = some u; rw [if_neg z]; exact hb)
theorem ok_Word_init {f C I : Addr} {fd : FuncData} {dvs : List V} (F : FunD K "__init__" "Word.__init__" (defArgs s_Word___init__) (defBody s_Word___init__) (defScope s_Word___init__) dvs [] f fd) (B : Bi mg) (cl : Cls K C) (nT : NoAttr K C "kept_top") (nB : NoAttr K C "kept_bottom")
    (c_common_part : Fo P w K mg base CX0 1 "common_part" ["one", "other"] sp_common_part) (x_InvalidWord : Xc P w K mg base "InvalidWord" I) : FnOk P w K mg base (L2.CX P w) 4 f fd ["self", "top", "bottom"] (sp_Word_init C I) := by
  refine F.ok sc_Word___init__ (fun vs H Q E h => ?_) (fun cdv A outer s H vs Q E hr h => ?_)
  · obtain ⟨p, dx, t, b, rfl, _⟩ := h
    rfl
  · obtain ⟨p, dx, t, b, rfl, hp, hb, k1, k2⟩ := h
    have nd := sc_Word___init__.nd
    refine ⟨_, pss_cons (ps_if (pt_cmpR op_eq (pv 2) pe_int (nomark _)) (pss_one (ps_rx rfl (takes_of rfl rfl rfl rfl) x_InvalidWord hr (by decide) (pa_cons (pe_tup (pa_cons (pv 1) (pa_cons (pv 2) pa_nil))) pa_nil) (mo_cons (mo_tup (mo_cons mo_var (mo_cons mo_var mo_nil))) mo_nil))) pss_nil)
      (pss_cons (ps_set (i := 3) nd rfl (Or.inl rfl) (pe_fo c_common_part hr (by decide) (pa_cons (pv 1) (pa_cons (pv 2) pa_nil))))
      (pss_cons (ps_if (pt_cmpR op_lt (pv 2) pe_int (nomark _)) (pss_one (ps_set (i := 3) nd rfl (Or.inl rfl) (pe_un un_neg (pv 3)))) pss_nil)
      (pss_cons (ps_if (pt_cmpR op_eq (pe_op op_mod (pe_op op_fdivF (pv 2) (pv 3)) pe_int) pe_int (nomark _)) (pss_one (ps_rx rfl (takes_of rfl rfl rfl rfl) x_InvalidWord hr (by decide) (pa_cons (pe_tup (pa_cons (pv 1) (pa_cons (pv 2) pa_nil))) pa_nil) (mo_cons (mo_tup (mo_cons mo_var (mo_cons mo_var mo_nil))) mo_nil))) pss_nil)
      (pss_cons (ps_fld (pv 0) (pe_op op_fdivF (pv 1) (pv 3)) rfl)
      (pss_one (ps_fld (pv 0) (pe_op op_fdivF (pv 2) (pv 3)) rfl)))))), ?_⟩
    walk_at "s0"
    have ow := Own.take1 hp
    by_cases hb0 : b = 0
    · subst hb0
      walk_at "go"
      exact k2 (fun z => z.1 rfl) dX pT H' (own_back hp ow g2) (own_new ow 0 2 rfl rfl (by decide)) np (ow.get 0 rfl) (ow.get 1 rfl)
    have hg : 0 < Int.gcd t b := Int.gcd_pos_of_ne_zero_right t hb0
    have hle := gcd_le_b (t := t) hb0
    have c1 : CFd 0 (-(Int.gcd t b : Int)) := cfd 8000 (by omega) (Nat.lt_of_le_of_lt (by omega) hb) (by decide) (by decide)
    have c2 : CFd 0 (Int.gcd t b : Int) := cfd 8000 (by omega) (Nat.lt_of_le_of_lt (by omega) hb) (by decide) (by decide)
    walk_at "go"
    · have e : wB t b = b.fdiv (-(Int.gcd t b : Int)) := by unfold wB wSh; rw [if_pos (by omega)]
      exact k2 (fun z => z.2 (by rw [e]; exact hc)) dX pT H' (own_back hp ow g2) (own_new ow 0 2 rfl rfl (by decide)) np (ow.get 0 rfl) (ow.get 1 rfl)
    · have e : wB t b = b.fdiv (-(Int.gcd t b : Int)) := by unfold wB wSh; rw [if_pos (by omega)]
      have e2 : wT t b = t.fdiv (-(Int.gcd t b : Int)) := by unfold wT wSh; rw [if_pos (by omega)]
      rw [put_top, put_bot, ← e, ← e2] at ow
      exact k1 ⟨hb0, by rw [e]; exact hc⟩ H' (ow.mut_of g0)
    · have e : wB t b = b.fdiv (Int.gcd t b : Int) := by unfold wB wSh; rw [if_neg (by omega)]
      exact k2 (fun z => z.2 (by rw [e]; exact hc)) dX pT H' (own_back hp ow g2) (own_new ow 0 2 rfl rfl (by decide)) np (ow.get 0 rfl) (ow.get 1 rfl)
    · have e : wB t b = b.fdiv (Int.gcd t b : Int) := by unfold wB wSh; rw [if_neg (by omega)]
      have e2 : wT t b = t.fdiv (Int.gcd t b : Int) := by unfold wT wSh; rw [if_neg (by omega)]
      rw [put_top, put_bot, ← e, ← e2] at ow
      exact k1 ⟨hb0, by rw [e]; exact hc⟩ H' (ow.mut_of g0)
end
theorem wSh_dt {t b : Int} : wSh t b ∣ t := by
  have g : (Int.gcd t b : Int) ∣ t := Int.gcd_dvd_left t b
  unfold wSh
  split
  · exact Int.neg_dvd.mpr g
  · exact g
theorem wSh_db {t b : Int} : wSh t b ∣ b := by
  have g : (Int.gcd t b : Int) ∣ b := Int.gcd_dvd_right t b
  unfold wSh
  split
  · exact Int.neg_dvd.mpr g
  · exact g
theorem wT_mul {t b : Int} : wT t b * wSh t b = t := Int.fdiv_mul_cancel wSh_dt
theorem wB_mul {t b : Int} : wB t b * wSh t b = b := Int.fdiv_mul_cancel wSh_db
theorem le_of_mul {x s t : Int} (h : x * s = t) (hs : s ≠ 0) : x.natAbs ≤ t.natAbs := by
  rw [← h, Int.natAbs_mul]
  exact Nat.le_mul_of_pos_right _ (by omega)
theorem wT_le {t b : Int} (h : b ≠ 0) : (wT t b).natAbs ≤ t.natAbs := le_of_mul wT_mul (wSh_ne h)
theorem wB_le {t b : Int} (h : b ≠ 0) : (wB t b).natAbs ≤ b.natAbs := le_of_mul wB_mul (wSh_ne h)
theorem wSh_one {t : Int} : wSh t 1 = 1 := by
  unfold wSh
  rw [if_neg (by decide), Int.gcd_one_right]
  rfl
theorem wT_one {t : Int} : wT t 1 = t := by
  have := wT_mul (t := t) (b := 1)
  rw [wSh_one, Int.mul_one] at this
  exact this
theorem wB_one {t : Int} : wB t 1 = 1 := by
  have := wB_mul (t := t) (b := 1)
  rw [wSh_one, Int.mul_one] at this
  exact this
theorem wOk_one {t : Int} : wOk t 1 := ⟨by decide, by rw [wB_one]; decide⟩

set_option hygiene false in
local macro_rules | `(tactic| walk_at "r1") => `(tactic| with_reducible refine Bs.c_gcd ?_)
set_option hygiene false in
local macro_rules | `(tactic| walk_at "lk") => `(tactic| first
  | exact Bs.wfl_top _ _
  | exact Bs.wfl_bot _ _)
/-! fractions in lowest terms, plain -/
theorem wSh_pos {t b : Int} (h : b ≠ 0) : 0 < wSh t b ↔ 0 < b := by
  have := Int.gcd_pos_of_ne_zero_right t h
  unfold wSh; split <;> omega
theorem nm_pos {t b : Int} (h : b ≠ 0) : 0 < wB t b := by
  have e := wB_mul (t := t) (b := b)
  have s := wSh_pos (t := t) h
  rcases Int.lt_or_gt_of_ne h with g | g
  · have s2 : wSh t b < 0 := by have := wSh_ne (t := t) h; omega
    rcases Int.lt_trichotomy (wB t b) 0 with q | q | q
    · have := Int.mul_pos_of_neg_of_neg q s2; omega
    · rw [q, Int.zero_mul] at e; omega
    · exact q
  · have s2 : 0 < wSh t b := s.mpr g
    rcases Int.lt_trichotomy (wB t b) 0 with q | q | q
    · have := Int.mul_neg_of_neg_of_pos q s2; omega
    · rw [q, Int.zero_mul] at e; omega
    · exact q
theorem wSh_abs {t b : Int} : (wSh t b).natAbs = Int.gcd t b := by unfold wSh; split <;> omega
theorem nm_co {t b : Int} (h : b ≠ 0) : Int.gcd (wT t b) (wB t b) = 1 := by
  have g : Int.gcd (wT t b * wSh t b) (wB t b * wSh t b) = Int.gcd (wT t b) (wB t b) * (wSh t b).natAbs := Int.gcd_mul_right ..
  rw [wT_mul, wB_mul, wSh_abs] at g
  have p := Int.gcd_pos_of_ne_zero_right t h
  exact Nat.eq_of_mul_eq_mul_right p (by omega)
theorem nm_cross {p q : Int} : wT p q * q = p * wB p q := by
  have e1 := wT_mul (t := p) (b := q)
  have e2 := wB_mul (t := p) (b := q)
  calc wT p q * q = wT p q * (wB p q * wSh p q) := by rw [e2]
    _ = (wT p q * wSh p q) * wB p q := by ac_rfl
    _ = p * wB p q := by rw [e1]
theorem co_dvd {a b c : Int} (g : Int.gcd b a = 1) (h : b ∣ a * c) : b ∣ c := by
  have h1 : b.natAbs ∣ a.natAbs * c.natAbs := by rw [← Int.natAbs_mul]; exact Int.natAbs_dvd_natAbs.mpr h
  exact Int.natAbs_dvd_natAbs.mp (Nat.Coprime.dvd_of_dvd_mul_left g h1)
theorem lw_unique {a b c d : Int} (hb : 0 < b) (hd : 0 < d) (g1 : Int.gcd a b = 1) (g2 : Int.gcd c d = 1) (h : a * d = c * b) : a = c ∧ b = d := by
  have d1 : b ∣ d := by
    have : b ∣ a * d := ⟨c, by rw [h, Int.mul_comm]⟩
    exact co_dvd (by rw [Int.gcd_comm]; exact g1) this
  have d2 : d ∣ b := by
    have : d ∣ c * b := ⟨a, by rw [← h, Int.mul_comm]⟩
    exact co_dvd (by rw [Int.gcd_comm]; exact g2) this
  have e : b = d := Int.dvd_antisymm (by omega) (by omega) d1 d2
  subst e
  exact ⟨Int.eq_of_mul_eq_mul_right (by omega) h, rfl⟩
theorem nm_eq {p q p' q' : Int} (h : q ≠ 0) (h' : q' ≠ 0) (e : p * q' = p' * q) : wT p q = wT p' q' ∧ wB p q = wB p' q' := by
  refine lw_unique (nm_pos h) (nm_pos h') (nm_co h) (nm_co h') ?_
  have c1 := nm_cross (p := p) (q := q)
  have c2 := nm_cross (p := p') (q := q')
  -- (T B') q q' = (T q) (B' q') = (p B) (B' q') = p q' B B' = p' q B B' = (T' q') B q
  have k : (wT p q * wB p' q') * (q * q') = (wT p' q' * wB p q) * (q * q') := by
    calc (wT p q * wB p' q') * (q * q') = (wT p q * q) * (wB p' q' * q') := by ac_rfl
      _ = (p * wB p q) * (wB p' q' * q') := by rw [c1]
      _ = (p * q') * (wB p q * wB p' q') := by ac_rfl
      _ = (p' * q) * (wB p q * wB p' q') := by rw [e]
      _ = (p' * wB p' q') * (wB p q * q) := by ac_rfl
      _ = (wT p' q' * q') * (wB p q * q) := by rw [c2]
      _ = (wT p' q' * wB p q) * (q * q') := by ac_rfl
  exact Int.eq_of_mul_eq_mul_right (Int.mul_ne_zero h h') k
theorem ok_odd {t b : Int} (h : b % 2 = 1) : wOk t b := by
  have hb : b ≠ 0 := by intro z; subst z; cases h
  refine ⟨hb, fun z => ?_⟩
  have e := wB_mul (t := t) (b := b)
  have : b % 2 = 0 := by rw [← e, Int.mul_emod, z, Int.zero_mul]; rfl
  omega
theorem odd_nm {t b : Int} (h : wOk t b) : wB t b % 2 = 1 := by have := h.2; omega
theorem odd_mul {a b : Int} (h : a % 2 = 1) (g : b % 2 = 1) : (a * b) % 2 = 1 := by rw [Int.mul_emod, h, g]; rfl
theorem ne_odd {a : Int} (h : a % 2 = 1) : a ≠ 0 := fun z => by subst z; cases h
theorem mulB {x y : Int} (A B : Nat) (hx : x.natAbs ≤ A) (hy : y.natAbs ≤ B) : (x * y).natAbs ≤ A * B := by
  rw [Int.natAbs_mul]; exact Nat.mul_le_mul hx hy
theorem mulW {x y : Int} (m n : Nat) (hx : x.natAbs < 2 ^ m) (hy : y.natAbs < 2 ^ n) : (x * y).natAbs < 2 ^ (m + n) := by
  rw [Int.natAbs_mul, Nat.pow_add]
  exact Nat.mul_lt_mul'' hx hy
theorem addW {x y : Int} (n : Nat) (hx : x.natAbs < 2 ^ n) (hy : y.natAbs < 2 ^ n) : (x + y).natAbs < 2 ^ (n + 1) := by
  rw [Nat.pow_succ]; omega
theorem subW {x y : Int} (n : Nat) (hx : x.natAbs < 2 ^ n) (hy : y.natAbs < 2 ^ n) : (x - y).natAbs < 2 ^ (n + 1) := by
  rw [Nat.pow_succ]; omega

/-! making words -/
def gId : {α : Type} → List α → List α → List α := fun vs _ => vs
def gFlip : {α : Type} → List α → List α → List α := fun vs zs => match vs, zs with
  | x :: _, b :: t :: _ => [x, t, b]
  | _, _ => []
def gKw1 : {α : Type} → List α → List α → List α → List α := fun vs ds zs => vs ++ zs ++ ds
def gPo1 : {α : Type} → List α → List α → List α → List α := fun vs ds _ => vs ++ ds
/-- the class Word as the text's top leaves it -/
structure WordC (P : Program) (w : World) (K : PySem.W.Frag) (mg : Str → Option Value) (base : Heap) (C I : Addr) : Prop where
  cl : Cls K C
  nT : NoAttr K C "kept_top"
  nB : NoAttr K C "kept_bottom"
  gC : mg "Word" = some (.ref C)
  ex : ∃ (f : Addr) (fd : FuncData), Mk K C f ∧ FnOk P w K mg base (L2.CX P w) 4 f fd ["self", "top", "bottom"] (sp_Word_init C I) ∧ Cb K fd ["self", "top", "bottom"] 3 [] gId ∧
    Cb K fd ["self", "top", "bottom"] 2 [] (fun vs zs => gPo1 vs [.int 1] zs) ∧ Cb K fd ["self", "top", "bottom"] 1 ["bottom", "top"] gFlip ∧ Cb K fd ["self", "top", "bottom"] 1 ["top"] (fun vs zs => gKw1 vs [.int 1] zs)
def cW (C I : Addr) (Q : VK) (E : XK) (t b : Int) (H : Hp) : Prop := b.natAbs < 2 ^ 8000 ∧ (wOk t b → ∀ p dx H', H p = none → Same H H' → H' p = some (.ins C dx (wfl (wT t b) (wB t b))) → Q (.ref p) H') ∧
  (¬ wOk t b → ∀ d q H', Same H H' → H d = none → H q = none → H' d = some (.xd [("value", .ref q)]) → H' q = some (.tup [.int t, .int b]) → E (.ref I) (some d) H')
theorem cW_init {C I : Addr} {Q : VK} {E : XK} {t b : Int} {H : Hp} (h : cW C I Q E t b H) (x dx : Addr) (n1 : H x = none) (n2 : H dx = none) (ne : dx ≠ x) :
    sp_Word_init C I [.ref x, .int t, .int b] (upd (upd H dx (.own x)) x (.ins C dx [])) (fun v H3 => v = .non ∧ Q (.ref x) H3) E := by
  obtain ⟨hb, k1, k2⟩ := h
  have s1 : Same H (upd (upd H dx (.own x)) x (.ins C dx [])) := fun c o e => by rw [upd_ne (ne_of_none e n1), upd_ne (ne_of_none e n2)]; exact e
  refine ⟨x, dx, t, b, rfl, upd_same, hb, fun v H' m => ⟨rfl, k1 v x dx H' n1 (fun c o e => m.keep c o (ne_of_none e n1) (s1 c o e)) m.here⟩, fun v d q H' s nd nq h1 h2 => k2 v d q H' (s1.trans s) (s1.free nd) (s1.free nq) h1 h2⟩
/-- readings: Word(t, b), Word(t), Word(bottom=b, top=t), Word(top=t) -/
abbrev tW2 (C I : Addr) (E : L2.St → XK) (ta : TA) : TE := tMkS C 2 0 (sp_Word_init C I) gId E ta tNil
abbrev tW1 (C I : Addr) (E : L2.St → XK) (ta : TA) : TE := tMkS C 1 0 (sp_Word_init C I) (fun vs zs => gPo1 vs [.int 1] zs) E ta tNil
abbrev tWk (C I : Addr) (E : L2.St → XK) (tk : TA) : TE := tMkS C 0 2 (sp_Word_init C I) gFlip E tNil tk
abbrev tWt (C I : Addr) (E : L2.St → XK) (tk : TA) : TE := tMkS C 0 1 (sp_Word_init C I) (fun vs zs => gKw1 vs [.int 1] zs) E tNil tk
def cMk (C : Addr) (n m : Nat) (sp : Sp) (gV : List V → List V → List V) (Q : VK) (E : XK) (vs zs : List V) (H : Hp) : Prop := vs.length = n ∧ zs.length = m ∧
  ∀ x dx, H x = none → H dx = none → dx ≠ x → sp (gV (.ref x :: vs) zs) (upd (upd H dx (.own x)) x (.ins C dx [])) (fun v H3 => v = .non ∧ Q (.ref x) H3) E
theorem cMk_2 {C I : Addr} {Q : VK} {E : XK} {t b : Int} {H : Hp} (h : cW C I Q E t b H) : cMk C 2 0 (sp_Word_init C I) gId Q E [.int t, .int b] [] H := ⟨rfl, rfl, fun x dx n1 n2 ne => cW_init h x dx n1 n2 ne⟩
theorem cMk_1 {C I : Addr} {Q : VK} {E : XK} {t : Int} {H : Hp} (h : cW C I Q E t 1 H) : cMk C 1 0 (sp_Word_init C I) (fun vs zs => gPo1 vs [.int 1] zs) Q E [.int t] [] H := ⟨rfl, rfl, fun x dx n1 n2 ne => cW_init h x dx n1 n2 ne⟩
theorem cMk_k {C I : Addr} {Q : VK} {E : XK} {t b : Int} {H : Hp} (h : cW C I Q E t b H) : cMk C 0 2 (sp_Word_init C I) gFlip Q E [] [.int b, .int t] H := ⟨rfl, rfl, fun x dx n1 n2 ne => cW_init h x dx n1 n2 ne⟩
theorem cMk_t {C I : Addr} {Q : VK} {E : XK} {t : Int} {H : Hp} (h : cW C I Q E t 1 H) : cMk C 0 1 (sp_Word_init C I) (fun vs zs => gKw1 vs [.int 1] zs) Q E [] [.int t] H := ⟨rfl, rfl, fun x dx n1 n2 ne => cW_init h x dx n1 n2 ne⟩
section
variable {X : Cx} {C I : Addr} {j : Nat} {E : L2.St → XK} {p pos : Pos} {ta tk : TA}
theorem pe_W2 {e1 e2 : Expr} (c : WordC X.prog X.w X.K X.mg X.base C I) (hr : Room j X.A) (hj : 5 ≤ j) (hx : ∀ σ, PassesAt (L2.CX X.prog X.w) X σ (E σ)) (ha : PA X [e1, e2] ta) (hg : Gl X "Word" := by rfl)
    (hall : (backToKw pos (keywordEach [] X.env)).all (·.1.isSome) = true := by rfl) (hks : (backToKw pos (keywordEach [] X.env)).filterMap (·.1) = [] := by rfl)
    (he : starEach [e1, e2] X.env = (false, eval e1 X.env) :: starEach [e2] X.env := by rfl)
    (hpl : ((backTo pos (starEach [e1, e2] X.env)).any (·.1) || (backToKw pos (keywordEach [] X.env)).any (·.1.isNone)) = false := by rfl) : PE X (.Call (.Name "Word" p) [e1, e2] [] pos) (tW2 C I E ta) := by
  obtain ⟨f, fd, M, F, b3, b2, bk, bt⟩ := c.ex
  exact pe_mkS (n := 2) M F (hr.mono hj) c.gC b3 hx ha pk_nil hg hall hks (by decide) he hpl
theorem pe_W1 {e1 : Expr} (c : WordC X.prog X.w X.K X.mg X.base C I) (hr : Room j X.A) (hj : 5 ≤ j) (hx : ∀ σ, PassesAt (L2.CX X.prog X.w) X σ (E σ)) (ha : PA X [e1] ta) (hg : Gl X "Word" := by rfl)
    (hall : (backToKw pos (keywordEach [] X.env)).all (·.1.isSome) = true := by rfl) (hks : (backToKw pos (keywordEach [] X.env)).filterMap (·.1) = [] := by rfl)
    (he : starEach [e1] X.env = (false, eval e1 X.env) :: starEach [] X.env := by rfl)
    (hpl : ((backTo pos (starEach [e1] X.env)).any (·.1) || (backToKw pos (keywordEach [] X.env)).any (·.1.isNone)) = false := by rfl) : PE X (.Call (.Name "Word" p) [e1] [] pos) (tW1 C I E ta) := by
  obtain ⟨f, fd, M, F, b3, b2, bk, bt⟩ := c.ex
  exact pe_mkS (n := 1) M F (hr.mono hj) c.gC b2 hx ha pk_nil hg hall hks (by decide) he hpl
theorem pe_Wk {e1 e2 : Expr} {k1 k2 : Pos} (c : WordC X.prog X.w X.K X.mg X.base C I) (hr : Room j X.A) (hj : 5 ≤ j) (hx : ∀ σ, PassesAt (L2.CX X.prog X.w) X σ (E σ)) (ha : PK X [⟨some "bottom", e1, k1⟩, ⟨some "top", e2, k2⟩] tk) (hg : Gl X "Word" := by rfl)
    (hall : (backToKw pos (keywordEach [⟨some "bottom", e1, k1⟩, ⟨some "top", e2, k2⟩] X.env)).all (·.1.isSome) = true := by rfl) (hks : (backToKw pos (keywordEach [⟨some "bottom", e1, k1⟩, ⟨some "top", e2, k2⟩] X.env)).filterMap (·.1) = ([("bottom" : Str), "top"] : List Str) := by rfl)
    (hpl : ((backTo pos (starEach [] X.env)).any (·.1) || (backToKw pos (keywordEach [⟨some "bottom", e1, k1⟩, ⟨some "top", e2, k2⟩] X.env)).any (·.1.isNone)) = false := by rfl) : PE X (.Call (.Name "Word" p) [] [⟨some "bottom", e1, k1⟩, ⟨some "top", e2, k2⟩] pos) (tWk C I E tk) := by
  obtain ⟨f, fd, M, F, b3, b2, bk, bt⟩ := c.ex
  exact pe_mkS0 M F (hr.mono hj) c.gC bk hx ha hg hall hks (by decide) hpl
theorem pe_Wt {e1 : Expr} {k1 : Pos} (c : WordC X.prog X.w X.K X.mg X.base C I) (hr : Room j X.A) (hj : 5 ≤ j) (hx : ∀ σ, PassesAt (L2.CX X.prog X.w) X σ (E σ)) (ha : PK X [⟨some "top", e1, k1⟩] tk) (hg : Gl X "Word" := by rfl)
    (hall : (backToKw pos (keywordEach [⟨some "top", e1, k1⟩] X.env)).all (·.1.isSome) = true := by rfl) (hks : (backToKw pos (keywordEach [⟨some "top", e1, k1⟩] X.env)).filterMap (·.1) = ([("top" : Str)] : List Str) := by rfl)
    (hpl : ((backTo pos (starEach [] X.env)).any (·.1) || (backToKw pos (keywordEach [⟨some "top", e1, k1⟩] X.env)).any (·.1.isNone)) = false := by rfl) : PE X (.Call (.Name "Word" p) [] [⟨some "top", e1, k1⟩] pos) (tWt C I E tk) := by
  obtain ⟨f, fd, M, F, b3, b2, bk, bt⟩ := c.ex
  exact pe_mkS0 M F (hr.mono hj) c.gC bt hx ha hg hall hks (by decide) hpl
end
section
variable {F H : Hp} {L : List (Addr × HO)} {C I : Addr} {Q : VK} {E : XK} {t b : Int} {σ : L2.St}
theorem r_W2 {E : L2.St → XK} {ta : TA} (k : ta σ H fun vs H1 => cMk C 2 0 (sp_Word_init C I) gId Q (E σ) vs [] H1) : tW2 C I E ta σ H Q := k
theorem r_W1 {E : L2.St → XK} {ta : TA} (k : ta σ H fun vs H1 => cMk C 1 0 (sp_Word_init C I) (fun vs zs => gPo1 vs [.int 1] zs) Q (E σ) vs [] H1) : tW1 C I E ta σ H Q := k
theorem r_Wk {E : L2.St → XK} {ta : TA} (k : ta σ H fun zs H1 => cMk C 0 2 (sp_Word_init C I) gFlip Q (E σ) [] zs H1) : tWk C I E ta σ H Q := k
theorem r_Wt {E : L2.St → XK} {ta : TA} (k : ta σ H fun zs H1 => cMk C 0 1 (sp_Word_init C I) (fun vs zs => gKw1 vs [.int 1] zs) Q (E σ) [] zs H1) : tWt C I E ta σ H Q := k
theorem o_W (h : Own F H L) (hb : b.natAbs < 2 ^ 8000) (hv : wOk t b) (k : ∀ p dx H', H p = none → Own F H' ((p, .ins C dx (wfl (wT t b) (wB t b))) :: L) → Q (.ref p) H') : cW C I Q E t b H :=
  ⟨hb, fun _ p dx H' n s e => k p dx H' n ((h.newS n s e)), fun z => absurd hv z⟩
theorem o_WX (h : Own F H L) (hb : b.natAbs < 2 ^ 8000) (k : wOk t b → ∀ p dx H', H p = none → Own F H' ((p, .ins C dx (wfl (wT t b) (wB t b))) :: L) → Q (.ref p) H')
    (k2 : ¬ wOk t b → ∀ d q H', Own F H' ((d, .xd [("value", .ref q)]) :: (q, .tup [.int t, .int b]) :: L) → E (.ref I) (some d) H') : cW C I Q E t b H :=
  ⟨hb, fun v p dx H' n s e => k v p dx H' n ((h.newS n s e)), fun v d q H' s n1 n2 e1 e2 => k2 v d q H' (by
    have nq : d ≠ q := ne_of e1 e2 (fun z => by cases z)
    have w1 := h.newS n2 s e2
    exact w1.newAt (h.fresh n1) e1 (fun i a o e z => by
      cases i with
      | zero => simp at e; exact nq (z.trans e.1.symm)
      | succ i =>
        have := (h.own i a o (by simpa using e)).1
        rw [← z, n1] at this
        cases this))⟩
end
set_option hygiene false in
local macro_rules | `(tactic| walk_at "r1") => `(tactic| first
  | with_reducible refine Bs.cMk_2 ?_
  | with_reducible refine Bs.cMk_1 ?_
  | with_reducible refine Bs.cMk_k ?_
  | with_reducible refine Bs.cMk_t ?_
  | ((with_reducible refine' Bs.o_W ?p1 ?p2 ?p3 ?_); (case p1 => assumption); (case p2 => first | assumption | omega); (case p3 => first | assumption | exact Bs.wOk_one | exact Bs.ok_odd (by first | assumption | omega)); intro pW dW H' np ow; (try simp only [Bs.wT_one, Bs.wB_one] at ow))
  | ((with_reducible refine' Bs.o_WX ?p1 ?p2 ?_ ?_); (case p1 => assumption); (case p2 => first | assumption | omega); (all_goals first | (intro wok pW dW H' np ow) | (intro nwok dX pT H' ow))))

/-! drawn numbers; fractions that are words, plain -/
theorem c_take {F H : Hp} {L : List (Addr × HO)} {i : Nat} {a : Addr} {x y z m : Int} {Q : VK} {E : XK} (h : Own F H L) (e : L[i]? = some (a, wl x y z)) (wk : WOk y z) (hz : z < 1000000) (hm : 1 ≤ m) (hM : m < 2 ^ 100)
    (k : ∀ v x' z' H', 0 ≤ v → v < m → z ≤ z' → z' ≤ z + 1 → WOk y z' → Own F H' (L.set i (a, wl x' y z')) → Q (.int v) H') : sp_take ([.ref a, .int m] ++ []) H Q E :=
  ⟨a, x, y, z, m, rfl, h.get i e, wk, hz, hm, hM, fun v x' z' H' h1 h2 h3 h4 m' => k v x' z' H' h1 h2 h3 h4 ⟨wk.y0, wk.y1, by have := wk.z0; omega, by omega⟩ (h.mut i e m')⟩
/-- a fraction that is a word -/
structure PairOk (t b : Int) : Prop where
  ex : ∃ t' b' s : Int, t = t' * s ∧ b = b' * s ∧ b' % 2 = 1 ∧ s ≠ 0
  t1 : t.natAbs ≤ 1000
  b1 : b.natAbs ≤ 31
theorem PairOk.ne {t b : Int} (h : PairOk t b) : b ≠ 0 := by
  obtain ⟨t', b', s, e1, e2, e3, e4⟩ := h.ex
  rw [e2]
  exact Int.mul_ne_zero (by omega) e4
theorem PairOk.ok {t b : Int} (h : PairOk t b) : wOk t b := by
  have hb := h.ne
  refine ⟨hb, fun hz => ?_⟩
  obtain ⟨t', b', s, e1, e2, e3, e4⟩ := h.ex
  have hs : wSh t b ≠ 0 := wSh_ne hb
  -- s divides what is shared
  have d1 : s ∣ wSh t b := by
    have g : (s : Int) ∣ (Int.gcd t b : Int) := Int.dvd_coe_gcd ⟨t', by rw [e1, Int.mul_comm]⟩ ⟨b', by rw [e2, Int.mul_comm]⟩
    unfold wSh
    split
    · exact Int.dvd_neg.mpr g
    · exact g
  have d2 : wSh t b ∣ b := by
    have g : (Int.gcd t b : Int) ∣ b := Int.gcd_dvd_right t b
    unfold wSh
    split
    · exact Int.neg_dvd.mpr g
    · exact g
  have e5 : wB t b * wSh t b = b := Int.fdiv_mul_cancel d2
  obtain ⟨q, hq⟩ := d1
  have e6 : wB t b * q = b' := by
    have : (wB t b * q) * s = b' * s := by rw [Int.mul_assoc, Int.mul_comm q s, ← hq, e5, e2]
    exact Int.eq_of_mul_eq_mul_right e4 this
  have : b' % 2 = 0 := by
    rw [← e6, Int.mul_emod, hz, Int.zero_mul]
    rfl
  omega
set_option hygiene false in
local macro_rules | `(tactic| walk_at "r1") => `(tactic| ((with_reducible refine' Bs.c_take ?p1 ?p2 ?p3 ?p4 ?p5 ?p6 ?_); (case p1 => assumption); (case p2 => walk_at "oi"); (case p3 => assumption); (case p4 => omega); (case p5 => omega); (case p6 => omega); intro vw xw zw H' v0 v1 z0 z1 wk ow; walk_at "ow"))

/-! the law's greatest common divisor -/

section
variable {P : Program} {w : World} {K : PySem.W.Frag} {mg : Str → Option Value} {base : Heap}
theorem ok_shared {f : Addr} {fd : FuncData} (F : FnP K "_law_shared" "_law_shared" s__law_shared f fd) (B : Bi mg) : FnOk P w K mg base CX0 1 f fd ["_law_one", "_law_other"] sp_common_part := by
  refine F.ok sc__law_shared (fun vs H Q E h => ?_) (fun cdv A outer s H vs Q E hr h => ?_)
  · obtain ⟨a, b, rfl, _⟩ := h
    rfl
  · obtain ⟨a, b, rfl, k⟩ := h
    have nd := sc__law_shared.nd
    refine ⟨_, PSs.nox (pss_cons (ps_while PassesOwn.never (pt_cmpR op_ne (pv 1) pe_int (nomark _)) (pss_one (ps_par (i := 0) (j := 1) rfl nd rfl rfl (by decide) rfl rfl (pa_cons (pv 1) (pa_cons (pe_op op_modN (pe_callTy cb_int1 rfl B.int (by decide +kernel) (pa_cons (pv 0) pa_nil)) (pv 1)) pa_nil)) rfl)))
      (pss_one (ps_ret (pe_callB cb_abs rfl B.abs (by decide +kernel) (pa_cons (pv 0) pa_nil))))), ?_⟩
    walk_at "s0"
    walk_at "go"
    refine r_while (fun m σ H' => ∃ x y : Int, σ = [some (.int x), some (.int y)] ∧ H' = H ∧ m = y.natAbs ∧ Int.gcd x y = Int.gcd a b) b.natAbs ⟨a, b, rfl, rfl, rfl, rfl⟩ ?_
    rintro m σ H' ⟨x, y, rfl, rfl, rfl, hg⟩
    walk_at "go"
    · exact ⟨_, natAbs_fmod hc, _, _, rfl, rfl, rfl, (gcd_step hc).trans hg⟩
    · subst hc
      rw [Int.gcd_zero_right] at hg
      rw [hg]
      exact k
def PairS (a : Addr) (y : Int) (H : Hp) (z n : Int) : L2.St → Hp → Prop := fun σ' H' => ∃ hi lo wy x' z' : Int, σ' = [some (.ref a), some (.int hi), some (.int lo), some (.int wy), none] ∧ Own (fun b => if b = a then none else H b) H' [(a, wl x' y z')] ∧ WOk y z' ∧ z ≤ z' ∧ z' ≤ z + n ∧
      lo % 2 = 1 ∧ 0 < lo ∧ lo ≤ 31 ∧ hi.natAbs ≤ 1000
end

/-! lowest terms -/

theorem wSh_eq {t b : Int} : (Int.gcd t b : Int) * (1 - 2 * (if decide (b < 0) = true then 1 else 0)) = wSh t b := by
  unfold wSh
  by_cases h : b < 0 <;> simp [h] <;> omega
theorem wSh_le {t b : Int} (h : b ≠ 0) : (wSh t b).natAbs ≤ b.natAbs := by
  have := gcd_le_b (t := t) h
  unfold wSh; split <;> omega
def sp_low (K : PySem.W.Frag) : Sp := fun vs H Q _ => ∃ (a : Addr) (t b : Int), vs = [.ref a] ∧ SqT K H a [.int t, .int b] ∧ b ≠ 0 ∧ b.natAbs < 2 ^ 8000 ∧ ∀ p H', H p = none → Same H H' → H' p = some (.tup [.int (wT t b), .int (wB t b)]) → Q (.ref p) H'
section
variable {K : PySem.W.Frag} {F H : Hp} {L : List (Addr × HO)} {a : Addr} {t b y : Int} {Q : VK} {E : XK} {i : Nat}
theorem c_low (h : Own F H L) (s : SqT K H a [.int t, .int b]) (nb : b ≠ 0) (hb : b.natAbs < 2 ^ 8000) (k : ∀ p H', H p = none → Own F H' ((p, .tup [.int (wT t b), .int (wB t b)]) :: L) → Q (.ref p) H') : sp_low K ([.ref a] ++ []) H Q E :=
  ⟨a, t, b, rfl, s, nb, hb, fun p H' n s e => k p H' n (h.newS n s e)⟩
end
section
variable {P : Program} {w : World} {K : PySem.W.Frag} {mg : Str → Option Value} {base : Heap}
theorem ok_lowest {f : Addr} {fd : FuncData} (F : FnP K "_law_lowest" "_law_lowest" s__law_lowest f fd) (B : Bi mg) (c__law_shared : Fo P w K mg base CX0 1 "_law_shared" ["_law_one", "_law_other"] sp_common_part) : FnOk P w K mg base CX0 2 f fd ["_law_pair"] (sp_low K) := by
  refine F.ok sc__law_lowest (fun vs H Q E h => ?_) (fun cdv A outer s H vs Q E hr h => ?_)
  · obtain ⟨a, t, b, rfl, _⟩ := h
    rfl
  · obtain ⟨a, t, b, rfl, ha, nb, hb, q⟩ := h
    have nd := sc__law_lowest.nd
    refine ⟨_, PSs.nox (pss_cons (ps_set (i := 1) nd rfl (Or.inl rfl) (pe_op op_mulO (pe_fo c__law_shared hr (by decide) (pa_cons (pe_ix ix_tup (pv 0) pe_int (fun _ _ => rfl)) (pa_cons (pe_ix ix_tup (pv 0) pe_int (fun _ _ => rfl)) pa_nil))) (pe_op op_sub pe_int (pe_op op_mulO pe_int (pe_callTy cb_int1 rfl B.int (by decide +kernel) (pa_cons (pe_cmpR op_lt (pe_ix ix_tup (pv 0) pe_int (fun _ _ => rfl)) pe_int (nomark _)) pa_nil))))))
      (pss_one (ps_ret (pe_tup (pa_cons (pe_op op_fdivF (pe_ix ix_tup (pv 0) pe_int (fun _ _ => rfl)) (pv 1)) (pa_cons (pe_op op_fdivF (pe_ix ix_tup (pv 0) pe_int (fun _ _ => rfl)) (pv 1)) pa_nil)))))), ?_⟩
    walk_at "s0"
    have ow := Own.start H
    have c1 : CFd 0 ((Int.gcd t b : Int) * (1 - 2 * (if decide (b < 0) = true then 1 else 0))) := by
      rw [wSh_eq]
      exact cfd 8000 (wSh_ne nb) (Nat.lt_of_le_of_lt (wSh_le nb) hb) (by decide) (by decide)
    walk_at "go"
    rw [wSh_eq] at ow
    exact q pT H' np ow.drop.toSame_of (ow.get 0 rfl)
end
set_option hygiene false in
local macro_rules | `(tactic| walk_at "r1") => `(tactic| ((with_reducible refine' Bs.c_low ?p1 ?p2 ?p3 ?p4 ?_); (case p1 => assumption); (case p2 => walk_at "hq"); (case p3 => assumption); (case p4 => first | assumption | omega); intro pT H' np ow))

/-! top and bottom -/


section
variable {P : Program} {w : World} {K : PySem.W.Frag} {mg : Str → Option Value} {base : Heap}
theorem ok_Word_top {C : Addr} {f : Addr} {fd : FuncData} (F : FnP K "top" "Word.top" s_Word_top f fd) (cl : Cls K C) (n : NoAttr K C "kept_top") : FnOk P w K mg base CX0 1 f fd ["self"] (getSp C "kept_top") := by
  refine F.ok sc_Word_top (fun vs H Q E h => ?_) (fun cdv A outer s H vs Q E hr h => ?_)
  · obtain ⟨a, dx, fs, v, rfl, _⟩ := h
    rfl
  · obtain ⟨a, dx, fs, v, rfl, e, l, q⟩ := h
    refine ⟨_, PSs.nox (pss_one (ps_ret (pe_fld (pv 0) rfl))), ?_⟩
    exact ⟨.ref a, rfl, a, C, dx, fs, v, rfl, e, cl, n, l, q⟩
theorem ok_Word_bottom {C : Addr} {f : Addr} {fd : FuncData} (F : FnP K "bottom" "Word.bottom" s_Word_bottom f fd) (cl : Cls K C) (n : NoAttr K C "kept_bottom") : FnOk P w K mg base CX0 1 f fd ["self"] (getSp C "kept_bottom") := by
  refine F.ok sc_Word_bottom (fun vs H Q E h => ?_) (fun cdv A outer s H vs Q E hr h => ?_)
  · obtain ⟨a, dx, fs, v, rfl, _⟩ := h
    rfl
  · obtain ⟨a, dx, fs, v, rfl, e, l, q⟩ := h
    refine ⟨_, PSs.nox (pss_one (ps_ret (pe_fld (pv 0) rfl))), ?_⟩
    exact ⟨.ref a, rfl, a, C, dx, fs, v, rfl, e, cl, n, l, q⟩
end

/-! halves of a fraction: lead and span, plain -/
/-- the next half -/
def hv (b x : Int) : Int := (x - x % 2 * b) / 2
def hvs (b : Int) : Nat → Int → Int
  | 0, x => x
  | k + 1, x => hvs b k (hv b x)
theorem hvs_succ (b : Int) : ∀ (k : Nat) (x : Int), hvs b (k + 1) x = hv b (hvs b k x)
  | 0, _ => rfl
  | k + 1, x => hvs_succ b k (hv b x)
theorem hvs_add (b : Int) : ∀ (j k : Nat) (x : Int), hvs b (j + k) x = hvs b j (hvs b k x)
  | j, 0, x => rfl
  | j, k + 1, x => hvs_add b j k (hv b x)
/-- within the cycle -/
def In (b x : Int) : Prop := -b ≤ x ∧ x ≤ 0
section
variable {b x y : Int}
theorem hv2 (ob : b % 2 = 1) : 2 * hv b x = x - x % 2 * b := by
  unfold hv
  rcases Int.emod_two_eq x with h | h <;> rw [h] <;> omega
theorem in_hv (ob : b % 2 = 1) (h : In b x) : In b (hv b x) := by
  have e := hv2 (x := x) ob
  obtain ⟨h1, h2⟩ := h
  rcases Int.emod_two_eq x with p | p <;> rw [p] at e <;> constructor <;> omega
theorem hv_inj (ob : b % 2 = 1) (pb : 0 < b) (hx : In b x) (hy : In b y) (e : hv b x = hv b y) : x = y := by
  have e1 := hv2 (x := x) ob
  have e2 := hv2 (x := y) ob
  obtain ⟨h1, h2⟩ := hx
  obtain ⟨h3, h4⟩ := hy
  rcases Int.emod_two_eq x with p | p <;> rcases Int.emod_two_eq y with q | q <;> rw [p] at e1 <;> rw [q] at e2 <;> omega
theorem in_hvs (ob : b % 2 = 1) : ∀ (k : Nat) {x : Int}, In b x → In b (hvs b k x)
  | 0, _, h => h
  | k + 1, _, h => in_hvs ob k (in_hv ob h)
theorem hvs_inj (ob : b % 2 = 1) (pb : 0 < b) : ∀ (k : Nat) {x y : Int}, In b x → In b y → hvs b k x = hvs b k y → x = y
  | 0, _, _, _, _, e => e
  | k + 1, _, _, hx, hy, e => hv_inj ob pb hx hy (hvs_inj ob pb k (in_hv ob hx) (in_hv ob hy) e)
/-- how far from the cycle -/
def far (b x : Int) : Nat := if 0 < x then x.natAbs else if x < -b then x.natAbs else 0
theorem far_hv (ob : b % 2 = 1) (pb : 0 < b) (h : ¬ In b x) : far b (hv b x) < far b x := by
  have e := hv2 (x := x) ob
  have h' : 0 < x ∨ x < -b := by unfold In at h; omega
  unfold far
  rcases Int.emod_two_eq x with p | p <;> rw [p] at e <;> rcases h' with q | q
  · rw [if_pos q]; split
    · omega
    · split <;> omega
  · rw [if_neg (show ¬ 0 < x by omega), if_pos q]; split
    · omega
    · split <;> omega
  · rw [if_pos q]; split
    · omega
    · split <;> omega
  · rw [if_neg (show ¬ 0 < x by omega), if_pos q]; split
    · omega
    · split <;> omega
end
theorem least_of {p : Nat → Prop} {n : Nat} (h : p n) : ∃ m, p m ∧ ∀ k, k < m → ¬ p k := by
  induction n using Nat.strongRecOn with
  | ind n ih =>
    by_cases z : ∃ k, k < n ∧ p k
    · obtain ⟨k, hk, pk⟩ := z
      exact ih k hk pk
    · exact ⟨n, h, fun k hk pk => z ⟨k, hk, pk⟩⟩
theorem php : ∀ (n : Nat) (f : Nat → Nat), (∀ i, i ≤ n → f i < n) → ∃ i j, i < j ∧ j ≤ n ∧ f i = f j
  | 0, f, h => absurd (h 0 (Nat.le_refl _)) (Nat.not_lt_zero _)
  | n + 1, f, h => by
    by_cases z : ∃ i, i ≤ n ∧ f i = f (n + 1)
    · obtain ⟨i, hi, e⟩ := z
      exact ⟨i, n + 1, by omega, Nat.le_refl _, e⟩
    · have ne : ∀ i, i ≤ n → f i ≠ f (n + 1) := fun i hi e => z ⟨i, hi, e⟩
      have bound : ∀ i, i ≤ n → (if f i = n then f (n + 1) else f i) < n := by
        intro i hi
        have h1 := h i (by omega)
        have h2 := h (n + 1) (Nat.le_refl _)
        have h3 := ne i hi
        split <;> omega
      obtain ⟨i, j, hij, hj, e⟩ := php n (fun i => if f i = n then f (n + 1) else f i) bound
      have h3 := ne i (by omega)
      have h4 := ne j hj
      refine ⟨i, j, hij, by omega, ?_⟩
      by_cases a : f i = n <;> by_cases c : f j = n <;> simp only [a, c, if_true, if_false] at e <;> omega
/-- the least place of the cycle -/
structure IsLead (b x : Int) (n : Nat) : Prop where
  is : In b (hvs b n x)
  no : ∀ k, k < n → ¬ In b (hvs b k x)
/-- the order of 2 -/
structure IsSpan (b : Int) (p : Nat) : Prop where
  pos : 1 ≤ p
  dv : b ∣ 2 ^ p - 1
  no : ∀ q, 1 ≤ q → q < p → ¬ b ∣ 2 ^ q - 1
section
variable {b x y : Int}
theorem lead_ex (ob : b % 2 = 1) (pb : 0 < b) : ∀ x, ∃ n, In b (hvs b n x) := by
  intro x
  generalize e : far b x = m
  induction m using Nat.strongRecOn generalizing x with
  | ind m ih =>
    by_cases h : In b x
    · exact ⟨0, h⟩
    · have l := far_hv ob pb h
      obtain ⟨n, hn⟩ := ih _ (by rw [← e]; exact l) (hv b x) rfl
      exact ⟨n + 1, hn⟩
theorem isLead_ex (ob : b % 2 = 1) (pb : 0 < b) (x : Int) : ∃ n, IsLead b x n := by
  obtain ⟨n, hn⟩ := lead_ex ob pb x
  obtain ⟨m, h1, h2⟩ := least_of (p := fun n => In b (hvs b n x)) hn
  exact ⟨m, h1, h2⟩
theorem odd_dvd2 (ob : b % 2 = 1) (h : b ∣ 2 * x) : b ∣ x := by
  obtain ⟨k, e⟩ := h
  have : (b * k) % 2 = 0 := by rw [← e]; omega
  rw [Int.mul_emod, ob, Int.one_mul, Int.emod_emod] at this
  refine ⟨k / 2, ?_⟩
  have k2 : k = 2 * (k / 2) := by omega
  rw [k2, ← Int.mul_assoc, Int.mul_comm b 2, Int.mul_assoc] at e
  omega
theorem odd_dvdp (ob : b % 2 = 1) : ∀ (i : Nat) {x : Int}, b ∣ 2 ^ i * x → b ∣ x
  | 0, x, h => by simpa using h
  | i + 1, x, h => by
    rw [Int.pow_succ, Int.mul_assoc, Int.mul_left_comm] at h
    exact odd_dvdp ob i (odd_dvd2 ob h)
theorem isSpan_ex (ob : b % 2 = 1) (pb : 0 < b) : ∃ p, IsSpan b p := by
  have bd : ∀ i, i ≤ b.toNat → ((2 : Int) ^ i % b).toNat < b.toNat := fun i _ => by
    have h1 := Int.emod_nonneg ((2 : Int) ^ i) (show b ≠ 0 by omega)
    have h2 := Int.emod_lt_of_pos ((2 : Int) ^ i) pb
    omega
  obtain ⟨i, j, hij, _, e⟩ := php b.toNat _ bd
  have h1 := Int.emod_nonneg ((2 : Int) ^ i) (show b ≠ 0 by omega)
  have h2 := Int.emod_nonneg ((2 : Int) ^ j) (show b ≠ 0 by omega)
  have e2 : (2 : Int) ^ j % b = 2 ^ i % b := by omega
  have d : b ∣ 2 ^ j - 2 ^ i := Int.dvd_of_emod_eq_zero (Int.emod_eq_emod_iff_emod_sub_eq_zero.mp e2)
  have s : (2 : Int) ^ j - 2 ^ i = 2 ^ i * (2 ^ (j - i) - 1) := by
    rw [Int.mul_sub, ← Int.pow_add, Int.mul_one]
    congr 2
    omega
  rw [s] at d
  have d2 := odd_dvdp ob i d
  obtain ⟨m, hm, no⟩ := least_of (p := fun p => 1 ≤ p ∧ b ∣ 2 ^ p - 1) (n := j - i) ⟨by omega, d2⟩
  exact ⟨m, hm.1, hm.2, fun q h1 h2 h3 => no q h2 ⟨h1, h3⟩⟩
/-- 2 ^ k times the k-th half is the fraction's top, but for multiples of the bottom -/
theorem hvs_dvd (ob : b % 2 = 1) : ∀ (k : Nat) (x : Int), b ∣ 2 ^ k * hvs b k x - x
  | 0, x => by simp [hvs]
  | k + 1, x => by
    obtain ⟨c, e⟩ := hvs_dvd ob k (hv b x)
    have e2 := hv2 (x := x) ob
    show b ∣ 2 ^ (k + 1) * hvs b k (hv b x) - x
    refine ⟨2 * c - x % 2, ?_⟩
    rw [Int.pow_succ]
    grind
end
section
variable {b x : Int} {L p : Nat}
theorem dv_x (ob : b % 2 = 1) (g : Int.gcd x b = 1) {m : Int} (h : b ∣ m * hvs b L x) : b ∣ m := by
  obtain ⟨c, e⟩ := hvs_dvd ob L x
  obtain ⟨d, e2⟩ := h
  have : b ∣ x * m := ⟨2 ^ L * d - c * m, by grind⟩
  exact co_dvd (by rw [Int.gcd_comm]; exact g) this
theorem not_dv (ob : b % 2 = 1) (g : Int.gcd x b = 1) (h : b ∣ hvs b L x) : b ∣ 1 := dv_x (L := L) ob g (by rw [Int.one_mul]; exact h)
theorem per (ob : b % 2 = 1) (pb : 0 < b) (g : Int.gcd x b = 1) (hL : IsLead b x L) (hp : IsSpan b p) : hvs b (L + p) x = hvs b L x := by
  rw [Nat.add_comm, hvs_add]
  generalize hy : hvs b L x = y
  have iy : In b y := by rw [← hy]; exact hL.is
  have ih := in_hvs ob p iy
  obtain ⟨c, e⟩ := hvs_dvd ob p y
  obtain ⟨d, e2⟩ := hp.dv
  have dv : b ∣ hvs b p y - y := ⟨c - d * hvs b p y, by grind⟩
  obtain ⟨k, ek⟩ := dv
  obtain ⟨a1, a2⟩ := iy
  obtain ⟨a3, a4⟩ := ih
  have kk : k = 0 ∨ k = 1 ∨ k = -1 := by
    have h1 : b * k ≤ b * 1 := by omega
    have h2 : b * (-1) ≤ b * k := by omega
    have := Int.le_of_mul_le_mul_left h1 pb
    have := Int.le_of_mul_le_mul_left h2 pb
    omega
  rcases kk with rfl | rfl | rfl
  · omega
  · have y0 : y = -b := by omega
    have : b ∣ 1 := not_dv (L := L) ob g (by rw [hy, y0]; exact ⟨-1, by omega⟩)
    have b1 : b = 1 := Int.eq_one_of_dvd_one (by omega) this
    subst b1
    have h0 : hvs 1 p y = 0 := by omega
    have fx : ∀ (n : Nat), hvs 1 n (-1) = -1 := fun n => by
      induction n with
      | zero => rfl
      | succ n ih => exact ih
    rw [y0] at h0
    have := fx p
    omega
  · have y0 : y = 0 := by omega
    have : b ∣ 1 := not_dv (L := L) ob g (by rw [hy, y0]; exact ⟨0, by omega⟩)
    have b1 : b = 1 := Int.eq_one_of_dvd_one (by omega) this
    subst b1
    have h0 : hvs 1 p y = -1 := by omega
    have fx : ∀ (n : Nat), hvs 1 n 0 = 0 := fun n => by
      induction n with
      | zero => rfl
      | succ n ih => exact ih
    rw [y0] at h0
    have := fx p
    omega
theorem min_per (ob : b % 2 = 1) (g : Int.gcd x b = 1) (hp : IsSpan b p) {q : Nat} (h1 : 1 ≤ q) (h2 : q < p) : hvs b q (hvs b L x) ≠ hvs b L x := by
  intro e
  obtain ⟨c, e1⟩ := hvs_dvd ob q (hvs b L x)
  rw [e] at e1
  exact hp.no q h1 h2 (dv_x (L := L) ob g ⟨c, by grind⟩)
theorem far_lt (ob : b % 2 = 1) (pb : 0 < b) (x : Int) : ∀ (j i : Nat), i < j → (∀ k, k < j → ¬ In b (hvs b k x)) → far b (hvs b j x) < far b (hvs b i x)
  | 0, i, h, _ => by omega
  | j + 1, i, h, no => by
    have l := far_hv ob pb (no j (by omega))
    rw [hvs_succ]
    by_cases z : i = j
    · rw [z]; exact l
    · exact Nat.lt_trans l (far_lt ob pb x j i (by omega) fun k hk => no k (by omega))
theorem far_le (ob : b % 2 = 1) (pb : 0 < b) (hL : IsLead b x L) {i j : Nat} (h : i < j) (hj : j < L) : hvs b i x ≠ hvs b j x := by
  intro e
  have := far_lt ob pb x j i h fun k hk => hL.no k (by omega)
  rw [e] at this
  omega
theorem distinct (ob : b % 2 = 1) (pb : 0 < b) (g : Int.gcd x b = 1) (hL : IsLead b x L) (hp : IsSpan b p) {i j : Nat} (h : i < j) (hj : j < L + p) : hvs b i x ≠ hvs b j x := by
  intro e
  have inL : ∀ k, L ≤ k → In b (hvs b k x) := fun k hk => by
    rw [show k = (k - L) + L by omega, hvs_add]
    exact in_hvs ob _ hL.is
  by_cases h1 : j < L
  · exact far_le ob pb hL h h1 e
  · by_cases h2 : i < L
    · exact hL.no i h2 (by rw [e]; exact inL j (by omega))
    · rw [show i = (i - L) + L by omega, show j = (i - L) + ((j - i) + L) by omega, hvs_add, hvs_add b (i - L), hvs_add b (j - i)] at e
      have := hvs_inj ob pb (i - L) hL.is (in_hvs ob (j - i) hL.is) e
      exact min_per (L := L) ob g hp (q := j - i) (by omega) (by omega) this.symm
end


/-! leads and spans as the program finds them -/


theorem band1 (x : Int) : Builtin.bitAnd x 1 = x % 2 := by
  have := PySem.W.kbt_mask x 1
  simpa using this
theorem bandK (x : Int) (k : Nat) : Builtin.bitAnd x (2 ^ k - 1) = x % 2 ^ k := PySem.W.kbt_mask x k
theorem mok_and1 {x j : Int} : IntMulOk (Builtin.bitAnd x 1) j := by
  rw [band1]
  exact mok_l (by omega) (by omega)
theorem hv_prog {b x : Int} : (x - Builtin.bitAnd x 1 * b) / 2 ^ (1 : Int).toNat = hv b x := by
  rw [band1]
  rfl
def sp_lead : Sp := fun vs H Q _ => ∃ t b : Int, vs = [.int t, .int b] ∧ 0 < b ∧ b % 2 = 1 ∧ ∀ n : Nat, IsLead b t n → Q (.int n) H
def sp_span : Sp := fun vs H Q _ => ∃ b : Int, vs = [.int b] ∧ 0 < b ∧ b % 2 = 1 ∧ ∀ n : Nat, IsSpan b n → Q (.int n) H
set_option hygiene false in
local macro_rules | `(tactic| walk_at "sd") => `(tactic| first
  | exact Bs.mok_and1
  | (show _ ≤ _; omega))
section
variable {P : Program} {w : World} {K : PySem.W.Frag} {mg : Str → Option Value} {base : Heap}
theorem ok_lead_of {f : Addr} {fd : FuncData} (F : FnP K "lead_of" "lead_of" s_lead_of f fd) (B : Bi mg) : FnOk P w K mg base CX0 1 f fd ["top", "bottom"] sp_lead := by
  refine F.ok sc_lead_of (fun vs H Q E h => ?_) (fun cdv A outer s H vs Q E hr h => ?_)
  · obtain ⟨t, b, rfl, _⟩ := h
    rfl
  · obtain ⟨t, b, rfl, pb, ob, q⟩ := h
    have nd := sc_lead_of.nd
    refine ⟨_, PSs.nox (pss_cons (ps_set (i := 2) nd rfl (Or.inl rfl) pe_int)
      (pss_cons (ps_while PassesOwn.never (PW.pt (pw_or (pt_cmpR op_gt (pv 0) pe_int (nomark _)) (pw_or1 (pt_cmpR op_lt (pv 0) (pe_un un_neg (pv 1)) (nomark _))))) (pss_cons (ps_set (i := 0) nd rfl (Or.inl rfl) (pe_op op_shr (pe_op op_sub (pv 0) (pe_op op_mulO (pe_op op_and (pv 0) pe_int) (pv 1))) pe_int))
      (pss_one (ps_set (i := 2) nd rfl (Or.inl rfl) (pe_op op_add (pv 2) pe_int)))))
      (pss_one (ps_ret (pv 2))))), ?_⟩
    walk_at "s0"
    walk_at "go"
    refine r_while (fun m σ H' => ∃ n : Nat, σ = [some (.int (hvs b n t)), some (.int b), some (.int n)] ∧ H' = H ∧ m = far b (hvs b n t) ∧ ∀ k, k < n → ¬ In b (hvs b k t)) _ ⟨0, rfl, rfl, rfl, fun k h => by omega⟩ ?_
    rintro m σ H' ⟨n, rfl, rfl, rfl, no⟩
    have step : ¬ In b (hvs b n t) → ∃ m', m' < far b (hvs b n t) ∧ ∃ k : Nat, [some (V.int ((hvs b n t - Builtin.bitAnd (hvs b n t) 1 * b) / 2 ^ (1 : Int).toNat)), some (V.int b), some (V.int (n + 1))] = [some (V.int (hvs b k t)), some (V.int b), some (V.int k)] ∧ H' = H' ∧ m' = far b (hvs b k t) ∧ ∀ j, j < k → ¬ In b (hvs b j t) := by
      intro h
      refine ⟨_, far_hv ob pb h, n + 1, ?_, rfl, by rw [hvs_succ], fun j hj => ?_⟩
      · rw [hv_prog, hvs_succ]
        rfl
      · by_cases z : j = n
        · rw [z]; exact h
        · exact no j (by omega)
    walk_at "go"
    · exact step (fun z => by have := z.2; omega)
    · exact step (fun z => by have := z.1; omega)
    · exact q n ⟨⟨by omega, by omega⟩, no⟩
theorem ok_span_of {f : Addr} {fd : FuncData} (F : FnP K "span_of" "span_of" s_span_of f fd) (B : Bi mg) : FnOk P w K mg base CX0 1 f fd ["bottom"] sp_span := by
  refine F.ok sc_span_of (fun vs H Q E h => ?_) (fun cdv A outer s H vs Q E hr h => ?_)
  · obtain ⟨b, rfl, _⟩ := h
    rfl
  · obtain ⟨b, rfl, pb, ob, q⟩ := h
    have nd := sc_span_of.nd
    refine ⟨_, PSs.nox (pss_cons (ps_par (i := 1) (j := 2) rfl nd rfl rfl (by decide) rfl rfl (pa_cons pe_int (pa_cons (pe_op op_mod pe_int (pv 0)) pa_nil)) rfl)
      (pss_cons (ps_while PassesOwn.never (pt_cmpR op_ne (pv 2) (pe_op op_mod pe_int (pv 0)) (nomark _)) (pss_one (ps_par (i := 1) (j := 2) rfl nd rfl rfl (by decide) rfl rfl (pa_cons (pe_op op_add (pv 1) pe_int) (pa_cons (pe_op op_mod (pe_op op_mulO pe_int (pv 2)) (pv 0)) pa_nil)) rfl)))
      (pss_one (ps_ret (pv 1))))), ?_⟩
    walk_at "s0"
    obtain ⟨p, hp⟩ := isSpan_ex ob pb
    walk_at "go"
    refine r_while (fun m σ H' => ∃ n : Nat, σ = [some (.int b), some (.int n), some (.int (2 ^ n % b))] ∧ H' = H ∧ m = p - n ∧ 1 ≤ n ∧ n ≤ p) _ ⟨1, by rw [Int.pow_one]; rfl, rfl, rfl, Nat.le_refl _, hp.pos⟩ ?_
    rintro m σ H' ⟨n, rfl, rfl, rfl, n1, np⟩
    walk_at "go"
    · have ne : n ≠ p := fun z => hc (by rw [z]; exact Int.emod_eq_emod_iff_emod_sub_eq_zero.mpr (Int.emod_eq_zero_of_dvd hp.dv))
      refine ⟨_, by omega, n + 1, ?_, rfl, rfl, by omega, by omega⟩
      have e : (2 * (2 ^ n % b)) % b = 2 ^ (n + 1) % b := by rw [Int.pow_succ, Int.mul_comm (2 ^ n) 2, Int.mul_emod, Int.emod_emod, ← Int.mul_emod]
      rw [e]
      rfl
    · have d : b ∣ 2 ^ n - 1 := Int.dvd_of_emod_eq_zero (Int.emod_eq_emod_iff_emod_sub_eq_zero.mp hc)
      have e : n = p := by
        by_cases z : n < p
        · exact absurd d (hp.no n n1 z)
        · omega
      exact q n (e ▸ hp)
end

/-! the low bits as the program finds them -/
abbrev s_inverse_low : Stmt := top 10
theorem sc_inverse_low : FnScope ["bottom", "width", "found", "known"] ["bottom", "width"] (defScope s_inverse_low) := ⟨rfl, rfl, rfl, by decide +kernel, rfl, by decide +kernel, by decide +kernel⟩
abbrev s_low_of : Stmt := top 11
theorem sc_low_of : FnScope ["top", "bottom", "width"] ["top", "bottom", "width"] (defScope s_low_of) := ⟨rfl, rfl, rfl, by decide +kernel, rfl, by decide +kernel, by decide +kernel⟩
theorem two_pow_pos (k : Nat) : (0 : Int) < 2 ^ k := Int.pow_pos (by decide)
theorem abs_emod {x : Int} {k : Nat} : (x % 2 ^ k).natAbs < 2 ^ k := by
  have h1 := Int.emod_nonneg x (show (2 : Int) ^ k ≠ 0 from Int.ne_of_gt (two_pow_pos k))
  have h2 := Int.emod_lt_of_pos x (two_pow_pos k)
  have h3 : ((2 ^ k : Nat) : Int) = 2 ^ k := by simp
  omega
/-- a step: twice as many bits of the inverse are right -/
theorem inv_step {b f : Int} {k : Nat} (h : (2 : Int) ^ k ∣ b * f - 1) : (2 : Int) ^ (2 * k) ∣ b * ((f * (2 - b * f)) % 2 ^ (2 * k)) - 1 := by
  obtain ⟨c, e⟩ := h
  have d : (2 : Int) ^ (2 * k) ∣ b * (f * (2 - b * f)) - 1 := ⟨-(c * c), by
    have e2 : (2 : Int) ^ (2 * k) = 2 ^ k * 2 ^ k := by rw [← Int.pow_add]; congr 1; omega
    rw [e2]
    grind⟩
  obtain ⟨g, e3⟩ := d
  have m := Int.emod_add_mul_ediv (f * (2 - b * f)) (2 ^ (2 * k))
  exact ⟨g - b * (f * (2 - b * f) / 2 ^ (2 * k)), by grind⟩
theorem dv_low {a : Int} {j k : Nat} (h : j ≤ k) (d : (2 : Int) ^ k ∣ a) : (2 : Int) ^ j ∣ a := by
  obtain ⟨c, e⟩ := d
  refine ⟨2 ^ (k - j) * c, ?_⟩
  rw [e, ← Int.mul_assoc, ← Int.pow_add]
  congr 2
  omega
theorem dv_emod {b f : Int} {k : Nat} (h : (2 : Int) ^ k ∣ b * f - 1) : (2 : Int) ^ k ∣ b * (f % 2 ^ k) - 1 := by
  obtain ⟨c, e⟩ := h
  have m := Int.emod_add_mul_ediv f (2 ^ k)
  exact ⟨c - b * (f / 2 ^ k), by grind⟩
/-- the inverse below 2 ^ n -/
structure IsInv (b r : Int) (n : Nat) : Prop where
  r0 : 0 ≤ r
  r1 : r < 2 ^ n
  dv : (2 : Int) ^ n ∣ b * r - 1
def sp_inv : Sp := fun vs H Q _ => ∃ (b : Int) (n : Nat), vs = [.int b, .int n] ∧ b % 2 = 1 ∧ b.natAbs < 2 ^ 100000 ∧ n ≤ 1000000 ∧ ∀ r H', Same H H' → IsInv b r n → Q (.int r) H'
/-- the low bits of a fraction -/
structure IsLow (t b r : Int) (n : Nat) : Prop where
  r0 : 0 ≤ r
  r1 : r < 2 ^ n
  dv : (2 : Int) ^ n ∣ b * r - t
def sp_lowof : Sp := fun vs H Q _ => ∃ (t b : Int) (n : Nat), vs = [.int t, .int b, .int n] ∧ b % 2 = 1 ∧ b.natAbs < 2 ^ 100000 ∧ t.natAbs < 2 ^ 1000000 ∧ n ≤ 1000000 ∧ ∀ r H', Same H H' → IsLow t b r n → Q (.int r) H'
theorem c_inv {F : Hp} {L : List (Addr × HO)} {b : Int} {n : Nat} {H : Hp} {Q : VK} {E : XK} (h : Own F H L) (ob : b % 2 = 1) (hb : b.natAbs < 2 ^ 100000) (hn : n ≤ 1000000) (k : ∀ r H', IsInv b r n → Own F H' L → Q (.int r) H') : sp_inv ([.int b, .int n] ++ []) H Q E := ⟨b, n, rfl, ob, hb, hn, fun r H' s i => k r H' i (h.same s)⟩
theorem cshl1 {j : Int} (h0 : 0 ≤ j) (hj : j ≤ 4000000) : CShl 1 j := cshl 1 h0 (by decide) (by omega)
theorem tn_cast (n : Nat) : ((n : Int)).toNat = n := by omega
set_option hygiene false in
local macro_rules | `(tactic| walk_at "sd") => `(tactic| exact Bs.cshl1 (by omega) (by omega))
section
variable {P : Program} {w : World} {K : PySem.W.Frag} {mg : Str → Option Value} {base : Heap}
theorem ok_inverse_low {f : Addr} {fd : FuncData} (F : FnP K "inverse_low" "inverse_low" s_inverse_low f fd) (B : Bi mg) : FnOk P w K mg base CX0 1 f fd ["bottom", "width"] sp_inv := by
  refine F.ok sc_inverse_low (fun vs H Q E h => ?_) (fun cdv A outer s H vs Q E hr h => ?_)
  · obtain ⟨b, n, rfl, _⟩ := h
    rfl
  · obtain ⟨b, n, rfl, ob, hb, hn, q⟩ := h
    have nd := sc_inverse_low.nd
    refine ⟨_, PSs.nox (pss_cons (ps_asg (pe_tup (pa_cons pe_int (pa_cons pe_int pa_nil))) (pg_tup rfl (pgs_cons (pg_name (i := 2) nd rfl (.inl rfl)) (pgs_cons (pg_name (i := 3) nd rfl (.inl rfl)) pgs_nil))))
      (pss_cons (ps_while PassesOwn.never (pt_cmpR op_lt (pv 3) (pv 1) (nomark _)) (pss_cons (ps_set (i := 3) nd rfl (Or.inl rfl) (pe_op op_mulO pe_int (pv 3)))
      (pss_one (ps_set (i := 2) nd rfl (Or.inl rfl) (pe_op op_and (pe_op op_mulO (pv 2) (pe_op op_sub pe_int (pe_op op_mulO (pv 0) (pv 2)))) (pe_op op_sub (pe_op op_shlW pe_int (pv 3)) pe_int))))))
      (pss_one (ps_ret (pe_op op_and (pv 2) (pe_op op_sub (pe_op op_shlW pe_int (pv 1)) pe_int)))))), ?_⟩
    walk_at "s0"
    have ow := Own.start H
    walk_at "go"
    refine r_while (fun m σ H' => ∃ (k : Nat) (g : Int), σ = [some (.int b), some (.int n), some (.int g), some (.int k)] ∧ Same H H' ∧ m = 2000001 - k ∧ 1 ≤ k ∧ k ≤ 2000000 ∧ g.natAbs < 2 ^ k ∧ (2 : Int) ^ k ∣ b * g - 1) _ ⟨1, 1, rfl, ow.toSame_of, rfl, by decide, by decide, by decide, ⟨b / 2, by omega⟩⟩ ?_
    rintro m σ H' ⟨k, g, rfl, sm, rfl, k1, k2, hg, dv⟩
    have c1 : IntMulOk b g := mok_w 100000 2000000 hb (Nat.lt_of_lt_of_le hg (Nat.pow_le_pow_right (by decide) k2)) (by decide)
    have hbg : (b * g).natAbs < 2 ^ (100000 + k) := mulW 100000 k hb hg
    have h2 : (2 - b * g).natAbs < 2 ^ (2100002) := by
      have e : 2 ^ (100000 + k) ≤ 2 ^ 2100000 := Nat.pow_le_pow_right (by decide) (by omega)
      have : 4 * 2 ^ 2100000 = 2 ^ 2100002 := by rw [show 2100002 = 2100000 + 2 by rfl, Nat.pow_add]; omega
      have p := Nat.pow_pos (n := 2100000) (show 0 < 2 by decide)
      generalize 2 ^ 2100000 = z at *
      generalize 2 ^ (100000 + k) = y at *
      generalize 2 ^ 2100002 = x at *
      omega
    have c2 : IntMulOk g (2 - b * g) := mok_w 2000000 2100002 (Nat.lt_of_lt_of_le hg (Nat.pow_le_pow_right (by decide) k2)) h2 (by decide)
    walk_at "go"
    · refine ⟨2000001 - 2 * k, by omega, 2 * k, (g * (2 - b * g)) % 2 ^ (2 * k), ?_, sm, rfl, by omega, by omega, abs_emod, inv_step dv⟩
      rw [Int.one_mul, bandK, show (2 * (k : Int)).toNat = 2 * k by omega]
      rfl
    · rw [Int.one_mul, bandK, tn_cast]
      have le : n ≤ k := by omega
      exact q _ _ sm ⟨Int.emod_nonneg _ (Int.ne_of_gt (two_pow_pos n)), Int.emod_lt_of_pos _ (two_pow_pos n), dv_emod (dv_low le dv)⟩
set_option hygiene false in
local macro_rules | `(tactic| walk_at "r1") => `(tactic| ((with_reducible refine' Bs.c_inv ?p1 ?p2 ?p3 ?p4 ?_); (case p1 => assumption); (case p2 => assumption); (case p3 => assumption); (case p4 => omega); intro rI H' ri ow))
theorem low_mul {t b r : Int} {n : Nat} (h : IsInv b r n) : IsLow t b ((t * r) % 2 ^ n) n := by
  obtain ⟨c, e⟩ := h.dv
  have m := Int.emod_add_mul_ediv (t * r) (2 ^ n)
  exact ⟨Int.emod_nonneg _ (Int.ne_of_gt (two_pow_pos n)), Int.emod_lt_of_pos _ (two_pow_pos n), ⟨t * c - b * (t * r / 2 ^ n), by grind⟩⟩
theorem ok_low_of {f : Addr} {fd : FuncData} (F : FnP K "low_of" "low_of" s_low_of f fd) (B : Bi mg) (c_inverse_low : Fo P w K mg base CX0 1 "inverse_low" ["bottom", "width"] sp_inv) : FnOk P w K mg base CX0 2 f fd ["top", "bottom", "width"] sp_lowof := by
  refine F.ok sc_low_of (fun vs H Q E h => ?_) (fun cdv A outer s H vs Q E hr h => ?_)
  · obtain ⟨t, b, n, rfl, _⟩ := h
    rfl
  · obtain ⟨t, b, n, rfl, ob, hb, ht, hn, q⟩ := h
    have nd := sc_low_of.nd
    refine ⟨_, PSs.nox (pss_one (ps_ret (pe_op op_and (pe_op op_mulO (pv 0) (pe_fo c_inverse_low hr (by decide) (pa_cons (pv 1) (pa_cons (pv 2) pa_nil)))) (pe_op op_sub (pe_op op_shlW pe_int (pv 2)) pe_int)))), ?_⟩
    walk_at "s0"
    have ow := Own.start H
    walk_at "go"
    have c1 : IntMulOk t rI := mok_w 1000000 1000000 ht (Nat.lt_of_lt_of_le (show rI.natAbs < 2 ^ n by
      have h3 : ((2 ^ n : Nat) : Int) = 2 ^ n := by simp
      have := ri.r0; have := ri.r1; omega) (Nat.pow_le_pow_right (by decide) hn)) (by decide)
    walk_at "go"
    rw [Int.one_mul, bandK, tn_cast]
    exact q _ _ ow.toSame_of (low_mul ri)
end

set_option hygiene false in
local macro_rules | `(tactic| walk_at "r1") => `(tactic| ((with_reducible refine' Bs.c_inv ?p1 ?p2 ?p3 ?p4 ?_); (case p1 => assumption); (case p2 => assumption); (case p3 => assumption); (case p4 => omega); intro rI H' ri ow))
/-! bits of fractions, plain -/
/-- the number of the first n bits -/
def lowS (b : Int) : Nat → Int → Int
  | 0, _ => 0
  | n + 1, t => t % 2 + 2 * lowS b n (hv b t)
theorem lowS_eq {b : Int} (ob : b % 2 = 1) : ∀ (n : Nat) (t : Int), t = b * lowS b n t + 2 ^ n * hvs b n t
  | 0, t => by simp [lowS, hvs]
  | n + 1, t => by
    have e := lowS_eq ob n (hv b t)
    have e2 := hv2 (x := t) ob
    show t = b * (t % 2 + 2 * lowS b n (hv b t)) + 2 ^ (n + 1) * hvs b n (hv b t)
    rw [Int.pow_succ]
    grind
theorem lowS_bd (b : Int) : ∀ (n : Nat) (t : Int), 0 ≤ lowS b n t ∧ lowS b n t < 2 ^ n
  | 0, t => by simp [lowS]
  | n + 1, t => by
    have h := lowS_bd b n (hv b t)
    have p := Int.emod_two_eq t
    show 0 ≤ t % 2 + 2 * lowS b n (hv b t) ∧ t % 2 + 2 * lowS b n (hv b t) < 2 ^ (n + 1)
    rw [Int.pow_succ]
    omega
theorem lowS_succ (b : Int) : ∀ (n : Nat) (t : Int), lowS b (n + 1) t = lowS b n t + 2 ^ n * (hvs b n t % 2)
  | 0, t => by simp [lowS, hvs]
  | n + 1, t => by
    have e := lowS_succ b n (hv b t)
    show t % 2 + 2 * lowS b (n + 1) (hv b t) = (t % 2 + 2 * lowS b n (hv b t)) + 2 ^ (n + 1) * (hvs b n (hv b t) % 2)
    rw [Int.pow_succ]
    grind
theorem dv_odd {b : Int} (ob : b % 2 = 1) : ∀ (n : Nat) {x : Int}, (2 : Int) ^ n ∣ b * x → (2 : Int) ^ n ∣ x
  | 0, x, _ => by simp
  | n + 1, x, h => by
    have h2 : (2 : Int) ∣ b * x := by
      obtain ⟨c, e⟩ := h
      exact ⟨2 ^ n * c, by rw [e, Int.pow_succ]; grind⟩
    have x2 : x % 2 = 0 := by
      have := Int.emod_eq_zero_of_dvd h2
      rw [Int.mul_emod, ob, Int.one_mul, Int.emod_emod] at this
      exact this
    obtain ⟨y, ey⟩ := Int.dvd_of_emod_eq_zero x2
    obtain ⟨c, e⟩ := h
    have : (2 : Int) ^ n ∣ b * y := ⟨c, by
      rw [ey, Int.pow_succ] at e
      have : 2 * (b * y) = 2 * (2 ^ n * c) := by grind
      omega⟩
    obtain ⟨d, ed⟩ := dv_odd ob n this
    exact ⟨d, by rw [ey, ed, Int.pow_succ]; grind⟩
theorem low_is {t b r : Int} {n : Nat} (ob : b % 2 = 1) (h : IsLow t b r n) : r = lowS b n t := by
  have e := lowS_eq ob n t
  have bd := lowS_bd b n t
  obtain ⟨c, ec⟩ := h.dv
  have d : (2 : Int) ^ n ∣ b * (r - lowS b n t) := ⟨c + hvs b n t, by grind⟩
  obtain ⟨k, ek⟩ := dv_odd ob n d
  have p := two_pow_pos n
  have r0 := h.r0
  have r1 := h.r1
  generalize hz : (2 : Int) ^ n = z at *
  have kk : k = 0 := by
    have h1 : z * k < z * 1 := by omega
    have h2 : z * (-1) < z * k := by omega
    have := Int.lt_of_mul_lt_mul_left h1 (by omega)
    have := Int.lt_of_mul_lt_mul_left h2 (by omega)
    omega
  subst kk
  omega
theorem low_bit {t b r : Int} {n : Nat} (ob : b % 2 = 1) (h : IsLow t b r (n + 1)) : r / 2 ^ n = hvs b n t % 2 := by
  rw [low_is ob h, lowS_succ]
  have bd := lowS_bd b n t
  rw [Int.add_mul_ediv_left _ _ (Int.ne_of_gt (two_pow_pos n)), Int.ediv_eq_zero_of_lt bd.1 bd.2, Int.zero_add]
theorem hvs_cyc {b y : Int} {p : Nat} (h : hvs b p y = y) : ∀ m : Nat, hvs b (m * p) y = y
  | 0 => by rw [Nat.zero_mul]; rfl
  | m + 1 => by rw [Nat.succ_mul, hvs_add, h, hvs_cyc h m]
theorem hvs_place {b x : Int} {L p : Nat} (ob : b % 2 = 1) (pb : 0 < b) (g : Int.gcd x b = 1) (hL : IsLead b x L) (hp : IsSpan b p) {i : Nat} (h : L ≤ i) : hvs b i x = hvs b (L + (i - L) % p) x := by
  have e := per ob pb g hL hp
  rw [Nat.add_comm, hvs_add] at e
  have m := Nat.mod_add_div (i - L) p
  have c := hvs_cyc e ((i - L) / p)
  rw [show i = (i - L) % p + (((i - L) / p) * p + L) by rw [Nat.mul_comm] at m; omega, hvs_add, hvs_add, c]
  rw [show L + ((i - L) % p + (((i - L) / p) * p + L) - L) % p = (i - L) % p + L by
    rw [show (i - L) % p + (((i - L) / p) * p + L) - L = (i - L) % p + ((i - L) / p) * p by omega, Nat.add_mul_mod_self_right, Nat.mod_mod]
    omega, hvs_add]

/-! the signs of words -/
abbrev s_fraction_of : Stmt := top 14
theorem sc_fraction_of : FnScope ["thing"] ["thing"] (defScope s_fraction_of) := ⟨rfl, rfl, rfl, by decide +kernel, rfl, by decide +kernel, by decide +kernel⟩
abbrev s_Word___add__ : Stmt := inClass (top 17) 8
theorem sc_Word___add__ : FnScope ["self", "other", "twin"] ["self", "other"] (defScope s_Word___add__) := ⟨rfl, rfl, rfl, by decide +kernel, rfl, by decide +kernel, by decide +kernel⟩
abbrev s_Word___radd__ : Stmt := inClass (top 17) 9
theorem sc_Word___radd__ : FnScope ["self", "other", "twin"] ["self", "other"] (defScope s_Word___radd__) := ⟨rfl, rfl, rfl, by decide +kernel, rfl, by decide +kernel, by decide +kernel⟩
abbrev s_Word___sub__ : Stmt := inClass (top 17) 10
theorem sc_Word___sub__ : FnScope ["self", "other", "twin"] ["self", "other"] (defScope s_Word___sub__) := ⟨rfl, rfl, rfl, by decide +kernel, rfl, by decide +kernel, by decide +kernel⟩
abbrev s_Word___rsub__ : Stmt := inClass (top 17) 11
theorem sc_Word___rsub__ : FnScope ["self", "other", "twin"] ["self", "other"] (defScope s_Word___rsub__) := ⟨rfl, rfl, rfl, by decide +kernel, rfl, by decide +kernel, by decide +kernel⟩
abbrev s_Word___mul__ : Stmt := inClass (top 17) 12
theorem sc_Word___mul__ : FnScope ["self", "other", "twin"] ["self", "other"] (defScope s_Word___mul__) := ⟨rfl, rfl, rfl, by decide +kernel, rfl, by decide +kernel, by decide +kernel⟩
abbrev s_Word___rmul__ : Stmt := inClass (top 17) 13
theorem sc_Word___rmul__ : FnScope ["self", "other", "twin"] ["self", "other"] (defScope s_Word___rmul__) := ⟨rfl, rfl, rfl, by decide +kernel, rfl, by decide +kernel, by decide +kernel⟩
abbrev s_Word___neg__ : Stmt := inClass (top 17) 22
theorem sc_Word___neg__ : FnScope ["self"] ["self"] (defScope s_Word___neg__) := ⟨rfl, rfl, rfl, by decide +kernel, rfl, by decide +kernel, by decide +kernel⟩
abbrev s_Word___invert__ : Stmt := inClass (top 17) 23
theorem sc_Word___invert__ : FnScope ["self"] ["self"] (defScope s_Word___invert__) := ⟨rfl, rfl, rfl, by decide +kernel, rfl, by decide +kernel, by decide +kernel⟩
/-- a word or an int, as a fraction -/
def Th (C : Addr) (H : Hp) (y : V) (u v : Int) : Prop := (y = .int u ∧ v = 1) ∨ ∃ b dx, y = .ref b ∧ H b = some (.ins C dx (wfl u v))
theorem Th.same {C : Addr} {H H' : Hp} {y : V} {u v : Int} (h : Th C H y u v) (s : Same H H') : Th C H' y u v := by
  rcases h with h | ⟨b, dx, e, q⟩
  · exact .inl h
  · exact .inr ⟨b, dx, e, s _ _ q⟩
/-- what isinstance asks -/
structure WTy (K : PySem.W.Frag) (C : Addr) : Prop where
  cl : Cls K C
  ha : PySem.W.findIn K (.ref C) "__class__" = some (some (.builtin "object.__class__"))
  hn : PySem.W.specialIn K (.builtin "object.__class__") "__get__" = some (some (.builtin "getset_descriptor.__get__"))
  ht : PySem.W.takesIn K (.builtin "object.__class__") = some true
  hm : PySem.W.mroIn K C (.type "object") = some true
  k1 : PySem.W.kitOne K (.ref C) (.ref C) = some true
  k2 : PySem.W.kitOne K (.type "int") (.ref C) = some false
  k3 : PySem.W.kitOne K (.type "int") (.type "int") = some true
section
variable {K : PySem.W.Frag} {F H : Hp} {L : List (Addr × HO)} {C a b dx : Addr} {Q : VK} {E : XK} {fs gs : List (Str × V)} {i t v : Int} {x y : V} {sp spR : Sp}
theorem r_isiW (ty : WTy K C) (e : H a = some (.ins C dx fs)) (k : Q (.bl true) H) : rIsi K [.ref a, .ref C] H Q := ⟨_, _, _, _, true, rfl, .own C, .base (.ins e ty.cl ty.ha ty.hn ty.ht ty.hm), ty.k1, k⟩
theorem r_isiI (ty : WTy K C) (k : Q (.bl false) H) : rIsi K [.int i, .ref C] H Q := ⟨_, _, _, _, false, rfl, .own C, .base (.int i), ty.k2, k⟩
theorem r_isiN (ty : WTy K C) (k : Q (.bl true) H) : rIsi K [.int i, .ty "int"] H Q := ⟨_, _, _, _, true, rfl, .ty _, .base (.int i), ty.k3, k⟩
def cOwn (C : Addr) (sp spR : Sp) (E : XK) (x y : V) (H : Hp) (Q : VK) : Prop := rOwn C sp spR E x y H Q
theorem r_own {E : L2.St → XK} {ta tb : TE} {σ : L2.St} (k : ta σ H fun x H1 => tb σ H1 fun y H2 => cOwn C sp spR (E σ) x y H2 Q) : tOwn C sp spR E ta tb σ H Q := k
theorem own_ww (e1 : H a = some (.ins C dx fs)) {dy : Addr} (e2 : H b = some (.ins C dy gs)) (k : sp [.ref a, .ref b] H Q E) : cOwn C sp spR E (.ref a) (.ref b) H Q := .inl ⟨a, dx, fs, rfl, e1, .inr ⟨b, dy, gs, rfl, e2⟩, k⟩
theorem own_wi (e1 : H a = some (.ins C dx fs)) (k : sp [.ref a, .int i] H Q E) : cOwn C sp spR E (.ref a) (.int i) H Q := .inl ⟨a, dx, fs, rfl, e1, .inl ⟨i, rfl⟩, k⟩
theorem own_iw (e1 : H a = some (.ins C dx fs)) (k : spR [.ref a, .int i] H Q E) : cOwn C sp spR E (.int i) (.ref a) H Q := .inr ⟨i, a, dx, fs, rfl, rfl, e1, k⟩
end
def sp_frac (C : Addr) : Sp := fun vs H Q _ => ∃ (y : V) (u v : Int), vs = [y] ∧ Th C H y u v ∧ ∀ p H', H p = none → Same H H' → H' p = some (.tup [.int u, .int v]) → Q (.ref p) H'
/-- what a sign between words gives -/
def sp_bin (C : Addr) (N D : Int → Int → Int → Int → Int) : Sp := fun vs H Q _ => ∃ (a dx : Addr) (t b : Int) (y : V) (u v : Int), vs = [.ref a, y] ∧ H a = some (.ins C dx (wfl t b)) ∧ Th C H y u v ∧ (t.natAbs < 2 ^ 3900 ∧ b.natAbs < 2 ^ 3900 ∧ u.natAbs < 2 ^ 3900 ∧ v.natAbs < 2 ^ 3900) ∧ b % 2 = 1 ∧ v % 2 = 1 ∧
  ∀ p d H', H p = none → Same H H' → H' p = some (.ins C d (wfl (wT (N t b u v) (D t b u v)) (wB (N t b u v) (D t b u v)))) → Q (.ref p) H'
def sp_un (C : Addr) (N : Int → Int → Int) : Sp := fun vs H Q _ => ∃ (a dx : Addr) (t b : Int), vs = [.ref a] ∧ H a = some (.ins C dx (wfl t b)) ∧ b.natAbs < 2 ^ 3900 ∧ b % 2 = 1 ∧
  ∀ p d H', H p = none → Same H H' → H' p = some (.ins C d (wfl (wT (N t b) b) (wB (N t b) b))) → Q (.ref p) H'
section
variable {F H : Hp} {L : List (Addr × HO)} {C a dx : Addr} {t b u v : Int} {y : V} {Q : VK} {E : XK} {N D : Int → Int → Int → Int → Int} {M : Int → Int → Int}
theorem c_frac (h : Own F H L) (th : Th C H y u v) (k : ∀ p H', H p = none → Own F H' ((p, .tup [.int u, .int v]) :: L) → Q (.ref p) H') : sp_frac C ([y] ++ []) H Q E := ⟨y, u, v, rfl, th, fun p H' n s e => k p H' n (h.newS n s e)⟩
theorem c_bin (h : Own F H L) (e : H a = some (.ins C dx (wfl t b))) (th : Th C H y u v) (bd : t.natAbs < 2 ^ 3900 ∧ b.natAbs < 2 ^ 3900 ∧ u.natAbs < 2 ^ 3900 ∧ v.natAbs < 2 ^ 3900) (ob : b % 2 = 1) (ov : v % 2 = 1)
    (k : ∀ p d H', H p = none → Own F H' ((p, .ins C d (wfl (wT (N t b u v) (D t b u v)) (wB (N t b u v) (D t b u v)))) :: L) → Q (.ref p) H') : sp_bin C N D [.ref a, y] H Q E := ⟨a, dx, t, b, y, u, v, rfl, e, th, bd, ob, ov, fun p d H' n s e => k p d H' n (h.newS n s e)⟩
theorem c_un (h : Own F H L) (e : H a = some (.ins C dx (wfl t b))) (bd : b.natAbs < 2 ^ 3900) (ob : b % 2 = 1) (k : ∀ p d H', H p = none → Own F H' ((p, .ins C d (wfl (wT (M t b) b) (wB (M t b) b))) :: L) → Q (.ref p) H') : sp_un C M [.ref a] H Q E := ⟨a, dx, t, b, rfl, e, bd, ob, fun p d H' n s e => k p d H' n (h.newS n s e)⟩
def cUn (C : Addr) (sp : Sp) (E : XK) (Q : VK) (x : V) (H : Hp) : Prop := rUn C sp E x H Q
theorem r_unO {sp : Sp} {ta : TE} {σ : L2.St} (k : ta σ H (cUn C sp E Q)) : tUn (rUn C sp E) ta σ H Q := k
theorem un_w {sp : Sp} {fs : List (Str × V)} (e : H a = some (.ins C dx fs)) (k : sp [.ref a] H Q E) : cUn C sp E Q (.ref a) H := ⟨a, dx, fs, rfl, e, k⟩
end
set_option hygiene false in
local macro_rules | `(tactic| walk_at "hx") => `(tactic| first | assumption | exact Bs.Own.get (by assumption) _ (by walk_at "oi") | exact Bs.Own.gets (by assumption) (by assumption))
set_option hygiene false in
local macro_rules | `(tactic| walk_at "th") => `(tactic| first | assumption | exact Bs.Th.same (by assumption) (Bs.Own.toSame (by assumption)) | exact Or.inl ⟨rfl, rfl⟩ | exact Or.inr ⟨_, _, rfl, by walk_at "hx"⟩)
set_option hygiene false in
local macro_rules | `(tactic| walk_at "r1") => `(tactic| first
  | ((with_reducible refine' Bs.r_isiW ?p1 ?p2 ?_); (case p1 => assumption); (case p2 => walk_at "hx"))
  | ((with_reducible refine' Bs.r_isiI ?p1 ?_); (case p1 => assumption))
  | ((with_reducible refine' Bs.r_isiN ?p1 ?_); (case p1 => assumption))
  | with_reducible refine Bs.r_own ?_
  | with_reducible refine Bs.r_unO ?_
  | ((with_reducible refine' Bs.un_w ?p1 ?_); (case p1 => walk_at "hx"))
  | ((with_reducible refine' Bs.own_ww ?p1 ?p2 ?_); (case p1 => walk_at "hx"); (case p2 => walk_at "hx"))
  | ((with_reducible refine' Bs.own_wi ?p1 ?_); (case p1 => walk_at "hx"))
  | ((with_reducible refine' Bs.own_iw ?p1 ?_); (case p1 => walk_at "hx"))
  | ((with_reducible refine' Bs.c_frac ?p1 ?p2 ?_); (case p1 => assumption); (case p2 => walk_at "th"); intro pT H' np ow)
  | ((with_reducible refine' Bs.o_gfldF ?p1 ?p3 ?p4 ?p5 ?_); (case p1 => walk_at "hx"); (case p3 => assumption); (case p4 => assumption); (case p5 => walk_at "lk")))
set_option hygiene false in
local macro_rules | `(tactic| walk_at "sd") => `(tactic| exact Bs.mok_w 3900 3900 (by assumption) (by assumption) (by decide))
section
variable {P : Program} {w : World} {K : PySem.W.Frag} {mg : Str → Option Value} {base : Heap} {C I f : Addr} {fd : FuncData}
theorem ok_fraction_of (F : FnP K "fraction_of" "fraction_of" s_fraction_of f fd) (B : Bi mg) (ty : WTy K C) (g_Word : mg "Word" = some (.ref C)) (nT : NoAttr K C "kept_top") (nB : NoAttr K C "kept_bottom") : FnOk P w K mg base CX0 1 f fd ["thing"] (sp_frac C) := by
  refine F.ok sc_fraction_of (fun vs H Q E h => ?_) (fun cdv A outer s H vs Q E hr h => ?_)
  · obtain ⟨y, u, v, rfl, _⟩ := h
    rfl
  · obtain ⟨y, u, v, rfl, th, q⟩ := h
    have nd := sc_fraction_of.nd
    have cl := ty.cl
    refine ⟨_, PSs.nox (pss_cons (ps_if (pt_val (pe_callB call_isi rfl B.isinstance (by decide +kernel) (pa_cons (pv 0) (pa_cons (pe_glob (v := .ref _) rfl g_Word rfl) pa_nil)))) (pss_one (ps_ret (pe_tup (pa_cons (pe_fld (pv 0) rfl) (pa_cons (pe_fld (pv 0) rfl) pa_nil))))) pss_nil)
      (pss_cons (ps_if (pt_val (pe_callB call_isi rfl B.isinstance (by decide +kernel) (pa_cons (pv 0) (pa_cons (pe_bltn (v := .ty "int") rfl B.int (by decide +kernel) rfl) pa_nil)))) (pss_one (ps_ret (pe_tup (pa_cons (pv 0) (pa_cons pe_int pa_nil))))) pss_nil)
      (pss_one (ps_ret pe_non)))), ?_⟩
    walk_at "s0"
    have ow := Own.start H
    rcases th with ⟨rfl, rfl⟩ | ⟨a, dx, rfl, ea⟩
    · walk_at "go"
      exact q pT H' np ow.drop.toSame_of (ow.get 0 rfl)
    · walk_at "go"
      exact q pT H' np ow.drop.toSame_of (ow.get 0 rfl)
theorem ok_Word___add__ (F : FnP K "__add__" "Word.__add__" s_Word___add__ f fd) (B : Bi mg) (c_Word : WordC P w K mg base C I) (c_fraction_of : Fo P w K mg base CX0 1 "fraction_of" ["thing"] (sp_frac C)) : FnOk P w K mg base CX0 6 f fd ["self", "other"] (sp_bin C (fun t b u v => t * v + u * b) (fun t b u v => b * v)) := by
  refine F.ok sc_Word___add__ (fun vs H Q E h => ?_) (fun cdv A outer s H vs Q E hr h => ?_)
  · obtain ⟨a, dx, t, b, y, u, v, rfl, _⟩ := h
    rfl
  · obtain ⟨a, dx, t, b, y, u, v, rfl, ea, th, ⟨b1, b2, b3, b4⟩, ob, ov, q⟩ := h
    have nd := sc_Word___add__.nd
    have cl := c_Word.cl
    have nT := c_Word.nT
    have nB := c_Word.nB
    refine ⟨_, PSs.nox (pss_cons (ps_set (i := 2) nd rfl (Or.inl rfl) (pe_fo c_fraction_of hr (by decide) (pa_cons (pv 1) pa_nil)))
      (pss_cons (ps_if (pt_cmpR op_isN (pv 2) pe_non (nomark _)) (pss_one ps_dead) pss_nil)
      (pss_one (ps_ret (pe_W2 c_Word hr (by decide) (fun _ => psL0) (pa_cons (pe_op op_add (pe_op op_mulO (pe_fld (pv 0) rfl) (pe_ix ix_tup (pv 2) pe_int (fun _ _ => rfl))) (pe_op op_mulO (pe_ix ix_tup (pv 2) pe_int (fun _ _ => rfl)) (pe_fld (pv 0) rfl))) (pa_cons (pe_op op_mulO (pe_fld (pv 0) rfl) (pe_ix ix_tup (pv 2) pe_int (fun _ _ => rfl))) pa_nil))))))), ?_⟩
    walk_at "s0"
    have ow := Own.start H
    have wok : wOk (t * v + u * b) (b * v) := ok_odd (odd_mul ob ov)
    have wbd : (b * v).natAbs < 2 ^ 8000 := Nat.lt_of_lt_of_le (mulW 3900 3900 b2 b4) (Nat.pow_le_pow_right (by decide) (by decide))
    walk_at "go"
    exact q pW _ H' (ow.new0 g0) ow.toSame_of (ow.get 0 rfl)
theorem ok_Word___radd__ (F : FnP K "__radd__" "Word.__radd__" s_Word___radd__ f fd) (B : Bi mg) (c_Word : WordC P w K mg base C I) (c_fraction_of : Fo P w K mg base CX0 1 "fraction_of" ["thing"] (sp_frac C)) : FnOk P w K mg base CX0 6 f fd ["self", "other"] (sp_bin C (fun t b u v => t * v + u * b) (fun t b u v => b * v)) := by
  refine F.ok sc_Word___radd__ (fun vs H Q E h => ?_) (fun cdv A outer s H vs Q E hr h => ?_)
  · obtain ⟨a, dx, t, b, y, u, v, rfl, _⟩ := h
    rfl
  · obtain ⟨a, dx, t, b, y, u, v, rfl, ea, th, ⟨b1, b2, b3, b4⟩, ob, ov, q⟩ := h
    have nd := sc_Word___radd__.nd
    have cl := c_Word.cl
    have nT := c_Word.nT
    have nB := c_Word.nB
    refine ⟨_, PSs.nox (pss_cons (ps_set (i := 2) nd rfl (Or.inl rfl) (pe_fo c_fraction_of hr (by decide) (pa_cons (pv 1) pa_nil)))
      (pss_cons (ps_if (pt_cmpR op_isN (pv 2) pe_non (nomark _)) (pss_one ps_dead) pss_nil)
      (pss_one (ps_ret (pe_W2 c_Word hr (by decide) (fun _ => psL0) (pa_cons (pe_op op_add (pe_op op_mulO (pe_fld (pv 0) rfl) (pe_ix ix_tup (pv 2) pe_int (fun _ _ => rfl))) (pe_op op_mulO (pe_ix ix_tup (pv 2) pe_int (fun _ _ => rfl)) (pe_fld (pv 0) rfl))) (pa_cons (pe_op op_mulO (pe_fld (pv 0) rfl) (pe_ix ix_tup (pv 2) pe_int (fun _ _ => rfl))) pa_nil))))))), ?_⟩
    walk_at "s0"
    have ow := Own.start H
    have wok : wOk (t * v + u * b) (b * v) := ok_odd (odd_mul ob ov)
    have wbd : (b * v).natAbs < 2 ^ 8000 := Nat.lt_of_lt_of_le (mulW 3900 3900 b2 b4) (Nat.pow_le_pow_right (by decide) (by decide))
    walk_at "go"
    exact q pW _ H' (ow.new0 g0) ow.toSame_of (ow.get 0 rfl)
theorem ok_Word___sub__ (F : FnP K "__sub__" "Word.__sub__" s_Word___sub__ f fd) (B : Bi mg) (c_Word : WordC P w K mg base C I) (c_fraction_of : Fo P w K mg base CX0 1 "fraction_of" ["thing"] (sp_frac C)) : FnOk P w K mg base CX0 6 f fd ["self", "other"] (sp_bin C (fun t b u v => t * v - u * b) (fun t b u v => b * v)) := by
  refine F.ok sc_Word___sub__ (fun vs H Q E h => ?_) (fun cdv A outer s H vs Q E hr h => ?_)
  · obtain ⟨a, dx, t, b, y, u, v, rfl, _⟩ := h
    rfl
  · obtain ⟨a, dx, t, b, y, u, v, rfl, ea, th, ⟨b1, b2, b3, b4⟩, ob, ov, q⟩ := h
    have nd := sc_Word___sub__.nd
    have cl := c_Word.cl
    have nT := c_Word.nT
    have nB := c_Word.nB
    refine ⟨_, PSs.nox (pss_cons (ps_set (i := 2) nd rfl (Or.inl rfl) (pe_fo c_fraction_of hr (by decide) (pa_cons (pv 1) pa_nil)))
      (pss_cons (ps_if (pt_cmpR op_isN (pv 2) pe_non (nomark _)) (pss_one ps_dead) pss_nil)
      (pss_one (ps_ret (pe_W2 c_Word hr (by decide) (fun _ => psL0) (pa_cons (pe_op op_sub (pe_op op_mulO (pe_fld (pv 0) rfl) (pe_ix ix_tup (pv 2) pe_int (fun _ _ => rfl))) (pe_op op_mulO (pe_ix ix_tup (pv 2) pe_int (fun _ _ => rfl)) (pe_fld (pv 0) rfl))) (pa_cons (pe_op op_mulO (pe_fld (pv 0) rfl) (pe_ix ix_tup (pv 2) pe_int (fun _ _ => rfl))) pa_nil))))))), ?_⟩
    walk_at "s0"
    have ow := Own.start H
    have wok : wOk (t * v - u * b) (b * v) := ok_odd (odd_mul ob ov)
    have wbd : (b * v).natAbs < 2 ^ 8000 := Nat.lt_of_lt_of_le (mulW 3900 3900 b2 b4) (Nat.pow_le_pow_right (by decide) (by decide))
    walk_at "go"
    exact q pW _ H' (ow.new0 g0) ow.toSame_of (ow.get 0 rfl)
theorem ok_Word___rsub__ (F : FnP K "__rsub__" "Word.__rsub__" s_Word___rsub__ f fd) (B : Bi mg) (c_Word : WordC P w K mg base C I) (c_fraction_of : Fo P w K mg base CX0 1 "fraction_of" ["thing"] (sp_frac C)) : FnOk P w K mg base CX0 6 f fd ["self", "other"] (sp_bin C (fun t b u v => u * b - t * v) (fun t b u v => b * v)) := by
  refine F.ok sc_Word___rsub__ (fun vs H Q E h => ?_) (fun cdv A outer s H vs Q E hr h => ?_)
  · obtain ⟨a, dx, t, b, y, u, v, rfl, _⟩ := h
    rfl
  · obtain ⟨a, dx, t, b, y, u, v, rfl, ea, th, ⟨b1, b2, b3, b4⟩, ob, ov, q⟩ := h
    have nd := sc_Word___rsub__.nd
    have cl := c_Word.cl
    have nT := c_Word.nT
    have nB := c_Word.nB
    refine ⟨_, PSs.nox (pss_cons (ps_set (i := 2) nd rfl (Or.inl rfl) (pe_fo c_fraction_of hr (by decide) (pa_cons (pv 1) pa_nil)))
      (pss_cons (ps_if (pt_cmpR op_isN (pv 2) pe_non (nomark _)) (pss_one ps_dead) pss_nil)
      (pss_one (ps_ret (pe_W2 c_Word hr (by decide) (fun _ => psL0) (pa_cons (pe_op op_sub (pe_op op_mulO (pe_ix ix_tup (pv 2) pe_int (fun _ _ => rfl)) (pe_fld (pv 0) rfl)) (pe_op op_mulO (pe_fld (pv 0) rfl) (pe_ix ix_tup (pv 2) pe_int (fun _ _ => rfl)))) (pa_cons (pe_op op_mulO (pe_fld (pv 0) rfl) (pe_ix ix_tup (pv 2) pe_int (fun _ _ => rfl))) pa_nil))))))), ?_⟩
    walk_at "s0"
    have ow := Own.start H
    have wok : wOk (u * b - t * v) (b * v) := ok_odd (odd_mul ob ov)
    have wbd : (b * v).natAbs < 2 ^ 8000 := Nat.lt_of_lt_of_le (mulW 3900 3900 b2 b4) (Nat.pow_le_pow_right (by decide) (by decide))
    walk_at "go"
    exact q pW _ H' (ow.new0 g0) ow.toSame_of (ow.get 0 rfl)
theorem ok_Word___mul__ (F : FnP K "__mul__" "Word.__mul__" s_Word___mul__ f fd) (B : Bi mg) (c_Word : WordC P w K mg base C I) (c_fraction_of : Fo P w K mg base CX0 1 "fraction_of" ["thing"] (sp_frac C)) : FnOk P w K mg base CX0 6 f fd ["self", "other"] (sp_bin C (fun t b u v => t * u) (fun t b u v => b * v)) := by
  refine F.ok sc_Word___mul__ (fun vs H Q E h => ?_) (fun cdv A outer s H vs Q E hr h => ?_)
  · obtain ⟨a, dx, t, b, y, u, v, rfl, _⟩ := h
    rfl
  · obtain ⟨a, dx, t, b, y, u, v, rfl, ea, th, ⟨b1, b2, b3, b4⟩, ob, ov, q⟩ := h
    have nd := sc_Word___mul__.nd
    have cl := c_Word.cl
    have nT := c_Word.nT
    have nB := c_Word.nB
    refine ⟨_, PSs.nox (pss_cons (ps_set (i := 2) nd rfl (Or.inl rfl) (pe_fo c_fraction_of hr (by decide) (pa_cons (pv 1) pa_nil)))
      (pss_cons (ps_if (pt_cmpR op_isN (pv 2) pe_non (nomark _)) (pss_one ps_dead) pss_nil)
      (pss_one (ps_ret (pe_W2 c_Word hr (by decide) (fun _ => psL0) (pa_cons (pe_op op_mulO (pe_fld (pv 0) rfl) (pe_ix ix_tup (pv 2) pe_int (fun _ _ => rfl))) (pa_cons (pe_op op_mulO (pe_fld (pv 0) rfl) (pe_ix ix_tup (pv 2) pe_int (fun _ _ => rfl))) pa_nil))))))), ?_⟩
    walk_at "s0"
    have ow := Own.start H
    have wok : wOk (t * u) (b * v) := ok_odd (odd_mul ob ov)
    have wbd : (b * v).natAbs < 2 ^ 8000 := Nat.lt_of_lt_of_le (mulW 3900 3900 b2 b4) (Nat.pow_le_pow_right (by decide) (by decide))
    walk_at "go"
    exact q pW _ H' (ow.new0 g0) ow.toSame_of (ow.get 0 rfl)
theorem ok_Word___rmul__ (F : FnP K "__rmul__" "Word.__rmul__" s_Word___rmul__ f fd) (B : Bi mg) (c_Word : WordC P w K mg base C I) (c_fraction_of : Fo P w K mg base CX0 1 "fraction_of" ["thing"] (sp_frac C)) : FnOk P w K mg base CX0 6 f fd ["self", "other"] (sp_bin C (fun t b u v => t * u) (fun t b u v => b * v)) := by
  refine F.ok sc_Word___rmul__ (fun vs H Q E h => ?_) (fun cdv A outer s H vs Q E hr h => ?_)
  · obtain ⟨a, dx, t, b, y, u, v, rfl, _⟩ := h
    rfl
  · obtain ⟨a, dx, t, b, y, u, v, rfl, ea, th, ⟨b1, b2, b3, b4⟩, ob, ov, q⟩ := h
    have nd := sc_Word___rmul__.nd
    have cl := c_Word.cl
    have nT := c_Word.nT
    have nB := c_Word.nB
    refine ⟨_, PSs.nox (pss_cons (ps_set (i := 2) nd rfl (Or.inl rfl) (pe_fo c_fraction_of hr (by decide) (pa_cons (pv 1) pa_nil)))
      (pss_cons (ps_if (pt_cmpR op_isN (pv 2) pe_non (nomark _)) (pss_one ps_dead) pss_nil)
      (pss_one (ps_ret (pe_W2 c_Word hr (by decide) (fun _ => psL0) (pa_cons (pe_op op_mulO (pe_fld (pv 0) rfl) (pe_ix ix_tup (pv 2) pe_int (fun _ _ => rfl))) (pa_cons (pe_op op_mulO (pe_fld (pv 0) rfl) (pe_ix ix_tup (pv 2) pe_int (fun _ _ => rfl))) pa_nil))))))), ?_⟩
    walk_at "s0"
    have ow := Own.start H
    have wok : wOk (t * u) (b * v) := ok_odd (odd_mul ob ov)
    have wbd : (b * v).natAbs < 2 ^ 8000 := Nat.lt_of_lt_of_le (mulW 3900 3900 b2 b4) (Nat.pow_le_pow_right (by decide) (by decide))
    walk_at "go"
    exact q pW _ H' (ow.new0 g0) ow.toSame_of (ow.get 0 rfl)
theorem ok_Word___neg__ (F : FnP K "__neg__" "Word.__neg__" s_Word___neg__ f fd) (B : Bi mg) (c_Word : WordC P w K mg base C I) : FnOk P w K mg base CX0 6 f fd ["self"] (sp_un C (fun t b => -t)) := by
  refine F.ok sc_Word___neg__ (fun vs H Q E h => ?_) (fun cdv A outer s H vs Q E hr h => ?_)
  · obtain ⟨a, dx, t, b, rfl, _⟩ := h
    rfl
  · obtain ⟨a, dx, t, b, rfl, ea, b2, ob, q⟩ := h
    have nd := sc_Word___neg__.nd
    have cl := c_Word.cl
    have nT := c_Word.nT
    have nB := c_Word.nB
    refine ⟨_, PSs.nox (pss_one (ps_ret (pe_W2 c_Word hr (by decide) (fun _ => psL0) (pa_cons (pe_un un_neg (pe_fld (pv 0) rfl)) (pa_cons (pe_fld (pv 0) rfl) pa_nil))))), ?_⟩
    walk_at "s0"
    have ow := Own.start H
    have wok : wOk (-t) b := ok_odd ob
    have wbd : b.natAbs < 2 ^ 8000 := Nat.lt_of_lt_of_le b2 (Nat.pow_le_pow_right (by decide) (by decide))
    walk_at "go"
    exact q pW _ H' (ow.new0 g0) ow.toSame_of (ow.get 0 rfl)
theorem ok_Word___invert__ (F : FnP K "__invert__" "Word.__invert__" s_Word___invert__ f fd) (B : Bi mg) (c_Word : WordC P w K mg base C I) : FnOk P w K mg base CX0 6 f fd ["self"] (sp_un C (fun t b => -t - b)) := by
  refine F.ok sc_Word___invert__ (fun vs H Q E h => ?_) (fun cdv A outer s H vs Q E hr h => ?_)
  · obtain ⟨a, dx, t, b, rfl, _⟩ := h
    rfl
  · obtain ⟨a, dx, t, b, rfl, ea, b2, ob, q⟩ := h
    have nd := sc_Word___invert__.nd
    have cl := c_Word.cl
    have nT := c_Word.nT
    have nB := c_Word.nB
    refine ⟨_, PSs.nox (pss_one (ps_ret (pe_W2 c_Word hr (by decide) (fun _ => psL0) (pa_cons (pe_op op_sub (pe_un un_neg (pe_fld (pv 0) rfl)) (pe_fld (pv 0) rfl)) (pa_cons (pe_fld (pv 0) rfl) pa_nil))))), ?_⟩
    walk_at "s0"
    have ow := Own.start H
    have wok : wOk (-t - b) b := ok_odd ob
    have wbd : b.natAbs < 2 ^ 8000 := Nat.lt_of_lt_of_le b2 (Nat.pow_le_pow_right (by decide) (by decide))
    walk_at "go"
    exact q pW _ H' (ow.new0 g0) ow.toSame_of (ow.get 0 rfl)
end
abbrev SA (P : Program) (w : World) (K : PySem.W.Frag) (mg : Str → Option Value) (base : Heap) (C : Addr) : Prop := OpS P w K mg base CX0 C "add" 6 (sp_bin C (fun t b u v => t * v + u * b) (fun t b u v => b * v)) (sp_bin C (fun t b u v => t * v + u * b) (fun t b u v => b * v))
abbrev SS (P : Program) (w : World) (K : PySem.W.Frag) (mg : Str → Option Value) (base : Heap) (C : Addr) : Prop := OpS P w K mg base CX0 C "sub" 6 (sp_bin C (fun t b u v => t * v - u * b) (fun t b u v => b * v)) (sp_bin C (fun t b u v => u * b - t * v) (fun t b u v => b * v))
abbrev SM (P : Program) (w : World) (K : PySem.W.Frag) (mg : Str → Option Value) (base : Heap) (C : Addr) : Prop := OpS P w K mg base CX0 C "mul" 6 (sp_bin C (fun t b u v => t * u) (fun t b u v => b * v)) (sp_bin C (fun t b u v => t * u) (fun t b u v => b * v))

/-! words of fractions: the signs in one form -/
/-! canonical words: the fields of a fraction -/
abbrev cw (C d : Addr) (p q : Int) : HO := .ins C d (wfl (wT p q) (wB p q))
/-- a word of the fraction, or an int -/
def Tn (C : Addr) (H : Hp) (y : V) (p q : Int) : Prop := (y = .int p ∧ q = 1) ∨ ∃ b d, y = .ref b ∧ H b = some (cw C d p q)
theorem Tn.th {C : Addr} {H : Hp} {y : V} {p q : Int} (h : Tn C H y p q) : Th C H y (wT p q) (wB p q) := by
  rcases h with ⟨e, rfl⟩ | h
  · exact .inl ⟨by rw [wT_one]; exact e, wB_one⟩
  · exact .inr h
theorem Tn.same {C : Addr} {H H' : Hp} {y : V} {p q : Int} (h : Tn C H y p q) (s : Same H H') : Tn C H' y p q := by
  rcases h with h | ⟨b, dx, e, z⟩
  · exact .inl h
  · exact .inr ⟨b, dx, e, s _ _ z⟩
/-- bounds of a fraction that is a word -/
structure Bd (n : Nat) (p q : Int) : Prop where
  ok : wOk p q
  p1 : p.natAbs < 2 ^ n
  q1 : q.natAbs < 2 ^ n
theorem Bd.w {n : Nat} {p q : Int} (h : Bd n p q) (hn : n ≤ 3900) : (wT p q).natAbs < 2 ^ 3900 ∧ (wB p q).natAbs < 2 ^ 3900 := by
  have a := wT_le (t := p) h.ok.1
  have b := wB_le (t := p) h.ok.1
  have k : (2 : Nat) ^ n ≤ 2 ^ 3900 := Nat.pow_le_pow_right (by decide) (hn)
  exact ⟨Nat.lt_of_le_of_lt a (Nat.lt_of_lt_of_le h.p1 k), Nat.lt_of_le_of_lt b (Nat.lt_of_lt_of_le h.q1 k)⟩
theorem Bd.ne {n : Nat} {p q : Int} (h : Bd n p q) : q ≠ 0 := h.ok.1
theorem Bd.mono {n m : Nat} {p q : Int} (h : Bd n p q) (hn : n ≤ m) : Bd m p q :=
  have k : (2 : Nat) ^ n ≤ 2 ^ m := Nat.pow_le_pow_right (by decide) hn
  ⟨h.ok, Nat.lt_of_lt_of_le h.p1 k, Nat.lt_of_lt_of_le h.q1 k⟩
/-- another form of the same fraction -/
theorem wOk_of {p q p' q' : Int} (h : wOk p q) (h' : q' ≠ 0) (e : p * q' = p' * q) : wOk p' q' := ⟨h', by rw [← (nm_eq h.1 h' e).2]; exact h.2⟩
theorem bd_int {i : Int} (n : Nat) (h : i.natAbs < 2 ^ n) (hn : 1 ≤ n) : Bd n i 1 := ⟨wOk_one, h, by
  have : 2 ^ 1 ≤ 2 ^ n := Nat.pow_le_pow_right (by decide) hn
  show 1 < 2 ^ n
  omega⟩
section
variable {n m : Nat} {a b c d : Int}
theorem x_cross : wT a b * b = a * wB a b := nm_cross
theorem nm_add (h : wOk a b) (g : wOk c d) : (wT a b * wB c d + wT c d * wB a b) * (b * d) = (a * d + c * b) * (wB a b * wB c d) := by
  have h1 := nm_cross (p := a) (q := b)
  have h2 := nm_cross (p := c) (q := d)
  grind
theorem nm_sub (h : wOk a b) (g : wOk c d) : (wT a b * wB c d - wT c d * wB a b) * (b * d) = (a * d - c * b) * (wB a b * wB c d) := by
  have h1 := nm_cross (p := a) (q := b)
  have h2 := nm_cross (p := c) (q := d)
  grind
theorem nm_mul (h : wOk a b) (g : wOk c d) : (wT a b * wT c d) * (b * d) = (a * c) * (wB a b * wB c d) := by
  have h1 := nm_cross (p := a) (q := b)
  have h2 := nm_cross (p := c) (q := d)
  grind
theorem ok_den (h : wOk a b) (g : wOk c d) {t : Int} : wOk t (wB a b * wB c d) := ok_odd (odd_mul (odd_nm h) (odd_nm g))
theorem Bd.add (h : Bd n a b) (g : Bd m c d) : Bd (n + m + 1) (a * d + c * b) (b * d) := by
  refine ⟨wOk_of (ok_den h.ok g.ok) (Int.mul_ne_zero h.ne g.ne) (nm_add h.ok g.ok), addW (n + m) (mulW n m h.p1 g.q1) (by rw [Nat.add_comm]; exact mulW m n g.p1 h.q1), ?_⟩
  exact Nat.lt_of_lt_of_le (mulW n m h.q1 g.q1) (Nat.pow_le_pow_right (by decide) (by omega))
theorem Bd.sub (h : Bd n a b) (g : Bd m c d) : Bd (n + m + 1) (a * d - c * b) (b * d) := by
  refine ⟨wOk_of (ok_den h.ok g.ok) (Int.mul_ne_zero h.ne g.ne) (nm_sub h.ok g.ok), subW (n + m) (mulW n m h.p1 g.q1) (by rw [Nat.add_comm]; exact mulW m n g.p1 h.q1), ?_⟩
  exact Nat.lt_of_lt_of_le (mulW n m h.q1 g.q1) (Nat.pow_le_pow_right (by decide) (by omega))
theorem Bd.mul (h : Bd n a b) (g : Bd m c d) : Bd (n + m) (a * c) (b * d) :=
  ⟨wOk_of (ok_den h.ok g.ok) (Int.mul_ne_zero h.ne g.ne) (nm_mul h.ok g.ok), mulW n m h.p1 g.p1, mulW n m h.q1 g.q1⟩
theorem nm_neg (h : b ≠ 0) : (-(wT a b)) * b = (0 - a) * wB a b := by
  have h1 := nm_cross (p := a) (q := b)
  grind
theorem nm_inv (h : b ≠ 0) : (-(wT a b) - wB a b) * b = (0 - a - b) * wB a b := by
  have h1 := nm_cross (p := a) (q := b)
  grind
theorem Bd.neg (h : Bd n a b) : Bd n (0 - a) b := ⟨wOk_of (ok_odd (odd_nm h.ok)) h.ne (nm_neg h.ne), by have := h.p1; omega, h.q1⟩
theorem Bd.inv (h : Bd n a b) : Bd (n + 1) (0 - a - b) b := by
  refine ⟨wOk_of (ok_odd (odd_nm h.ok)) h.ne (nm_inv h.ne), ?_, ?_⟩
  · have := h.p1; have := h.q1; rw [Nat.pow_succ]; omega
  · have := h.q1; rw [Nat.pow_succ]; omega
end
section
variable {F H : Hp} {L : List (Addr × HO)} {C r d0 : Addr} {a b c d : Int} {y : V} {Q : VK} {E : XK} {n m : Nat}
theorem c_addC (h : Own F H L) (e : H r = some (cw C d0 a b)) (th : Tn C H y c d) (b1 : Bd n a b) (b2 : Bd m c d) (hn : n ≤ 3900) (hm : m ≤ 3900)
    (k : ∀ p dW H', H p = none → Own F H' ((p, cw C dW (a * d + c * b) (b * d)) :: L) → Bd (n + m + 1) (a * d + c * b) (b * d) → Q (.ref p) H') : sp_bin C (fun t b u v => t * v + u * b) (fun t b u v => b * v) [.ref r, y] H Q E := by
  have z := nm_eq (ok_den b1.ok b2.ok (t := 0)).1 (Int.mul_ne_zero b1.ne b2.ne) (nm_add b1.ok b2.ok)
  refine c_bin h e th.th ⟨(b1.w hn).1, (b1.w hn).2, (b2.w hm).1, (b2.w hm).2⟩ (odd_nm b1.ok) (odd_nm b2.ok) fun p dW H' np ow => ?_
  rw [z.1, z.2] at ow
  exact k p dW H' np ow (b1.add b2)
theorem c_subC (h : Own F H L) (e : H r = some (cw C d0 a b)) (th : Tn C H y c d) (b1 : Bd n a b) (b2 : Bd m c d) (hn : n ≤ 3900) (hm : m ≤ 3900)
    (k : ∀ p dW H', H p = none → Own F H' ((p, cw C dW (a * d - c * b) (b * d)) :: L) → Bd (n + m + 1) (a * d - c * b) (b * d) → Q (.ref p) H') : sp_bin C (fun t b u v => t * v - u * b) (fun t b u v => b * v) [.ref r, y] H Q E := by
  have z := nm_eq (ok_den b1.ok b2.ok (t := 0)).1 (Int.mul_ne_zero b1.ne b2.ne) (nm_sub b1.ok b2.ok)
  refine c_bin h e th.th ⟨(b1.w hn).1, (b1.w hn).2, (b2.w hm).1, (b2.w hm).2⟩ (odd_nm b1.ok) (odd_nm b2.ok) fun p dW H' np ow => ?_
  rw [z.1, z.2] at ow
  exact k p dW H' np ow (b1.sub b2)
theorem c_rsubC (h : Own F H L) (e : H r = some (cw C d0 a b)) (th : Tn C H y c d) (b1 : Bd n a b) (b2 : Bd m c d) (hn : n ≤ 3900) (hm : m ≤ 3900)
    (k : ∀ p dW H', H p = none → Own F H' ((p, cw C dW (c * b - a * d) (d * b)) :: L) → Bd (m + n + 1) (c * b - a * d) (d * b) → Q (.ref p) H') : sp_bin C (fun t b u v => u * b - t * v) (fun t b u v => b * v) [.ref r, y] H Q E := by
  have z := nm_eq (ok_den b2.ok b1.ok (t := 0)).1 (Int.mul_ne_zero b2.ne b1.ne) (nm_sub b2.ok b1.ok)
  refine c_bin h e th.th ⟨(b1.w hn).1, (b1.w hn).2, (b2.w hm).1, (b2.w hm).2⟩ (odd_nm b1.ok) (odd_nm b2.ok) fun p dW H' np ow => ?_
  rw [Int.mul_comm (wB a b) (wB c d), z.1, z.2] at ow
  exact k p dW H' np ow (b2.sub b1)
theorem c_mulC (h : Own F H L) (e : H r = some (cw C d0 a b)) (th : Tn C H y c d) (b1 : Bd n a b) (b2 : Bd m c d) (hn : n ≤ 3900) (hm : m ≤ 3900)
    (k : ∀ p dW H', H p = none → Own F H' ((p, cw C dW (a * c) (b * d)) :: L) → Bd (n + m) (a * c) (b * d) → Q (.ref p) H') : sp_bin C (fun t b u v => t * u) (fun t b u v => b * v) [.ref r, y] H Q E := by
  have z := nm_eq (ok_den b1.ok b2.ok (t := 0)).1 (Int.mul_ne_zero b1.ne b2.ne) (nm_mul b1.ok b2.ok)
  refine c_bin h e th.th ⟨(b1.w hn).1, (b1.w hn).2, (b2.w hm).1, (b2.w hm).2⟩ (odd_nm b1.ok) (odd_nm b2.ok) fun p dW H' np ow => ?_
  rw [z.1, z.2] at ow
  exact k p dW H' np ow (b1.mul b2)
theorem c_negC (h : Own F H L) (e : H r = some (cw C d0 a b)) (b1 : Bd n a b) (hn : n ≤ 3900) (k : ∀ p dW H', H p = none → Own F H' ((p, cw C dW (0 - a) b) :: L) → Bd n (0 - a) b → Q (.ref p) H') : sp_un C (fun t b => -t) [.ref r] H Q E := by
  have z := nm_eq (ok_odd (odd_nm b1.ok) (t := 0)).1 b1.ne (nm_neg (a := a) b1.ne)
  refine c_un h e (b1.w hn).2 (odd_nm b1.ok) fun p dW H' np ow => ?_
  rw [z.1, z.2] at ow
  exact k p dW H' np ow b1.neg
theorem c_invC (h : Own F H L) (e : H r = some (cw C d0 a b)) (b1 : Bd n a b) (hn : n ≤ 3900) (k : ∀ p dW H', H p = none → Own F H' ((p, cw C dW (0 - a - b) b) :: L) → Bd (n + 1) (0 - a - b) b → Q (.ref p) H') : sp_un C (fun t b => -t - b) [.ref r] H Q E := by
  have z := nm_eq (ok_odd (odd_nm b1.ok) (t := 0)).1 b1.ne (nm_inv (a := a) b1.ne)
  refine c_un h e (b1.w hn).2 (odd_nm b1.ok) fun p dW H' np ow => ?_
  rw [z.1, z.2] at ow
  exact k p dW H' np ow b1.inv
end
section
variable {F H : Hp} {L : List (Addr × HO)} {C I r : Addr} {fs gs : List (Str × V)} {i : Int} {x y : V} {Q : VK} {E : XK} {sp spR : Sp} {σ : L2.St} {D : Ends}
/-- signs that set -/
theorem r_aug {te : TE} {ti : TIp} {i : Nat} {x : V} (h : σ[i]? = some (some x)) (k : te σ H fun y H1 => ti x y H1 fun z H2 => D.nx (σ.set i (some z)) H2) : tAug i te ti D σ H := ⟨x, h, k⟩
def iOwn (C : Addr) (sp spR : Sp) (E : XK) : TIp := fun x y H Q => (∃ a dx fs, x = .ref a ∧ H a = some (.ins C dx fs)) ∧ rOwn C sp spR E x y H Q
theorem i_own {d0 : Addr} (e : H r = some (.ins C d0 fs)) (k : cOwn C sp spR E (.ref r) y H Q) : (∃ a dx fs, V.ref r = .ref a ∧ H a = some (.ins C dx fs)) ∧ rOwn C sp spR E (.ref r) y H Q := ⟨⟨_, _, _, rfl, e⟩, k⟩
/-- a word made of a fraction -/
theorem o_WC {n : Nat} {a b : Int} (h : Own F H L) (b1 : Bd n a b) (hn : n ≤ 3900) (k : ∀ p dW H', H p = none → Own F H' ((p, cw C dW a b) :: L) → Q (.ref p) H') : cW C I Q E a b H :=
  o_W h (Nat.lt_of_lt_of_le b1.q1 (Nat.pow_le_pow_right (by decide) (by omega))) b1.ok k
end
set_option hygiene false in
local macro_rules | `(tactic| walk_at "tn") => `(tactic| first | assumption | exact Bs.Tn.same (by assumption) (Bs.Own.toSame (by assumption)) | exact Or.inl ⟨rfl, rfl⟩ | exact Or.inr ⟨_, _, rfl, by walk_at "hx"⟩)
set_option hygiene false in
local macro_rules | `(tactic| walk_at "r1") => `(tactic| first
  | ((with_reducible refine' Bs.c_addC ?p1 ?p2 ?p3 ?p4 ?p5 ?p6 ?p7 ?_); (case p1 => assumption); (case p2 => walk_at "hx"); (case p3 => walk_at "tn"); (case p4 => with_reducible assumption); (case p5 => with_reducible assumption); (case p6 => omega); (case p7 => omega); intro pW dW H' np ow bw)
  | ((with_reducible refine' Bs.c_subC ?p1 ?p2 ?p3 ?p4 ?p5 ?p6 ?p7 ?_); (case p1 => assumption); (case p2 => walk_at "hx"); (case p3 => walk_at "tn"); (case p4 => with_reducible assumption); (case p5 => with_reducible assumption); (case p6 => omega); (case p7 => omega); intro pW dW H' np ow bw)
  | ((with_reducible refine' Bs.c_rsubC ?p1 ?p2 ?p3 ?p4 ?p5 ?p6 ?p7 ?_); (case p1 => assumption); (case p2 => walk_at "hx"); (case p3 => walk_at "tn"); (case p4 => with_reducible assumption); (case p5 => with_reducible assumption); (case p6 => omega); (case p7 => omega); intro pW dW H' np ow bw)
  | ((with_reducible refine' Bs.c_mulC ?p1 ?p2 ?p3 ?p4 ?p5 ?p6 ?p7 ?_); (case p1 => assumption); (case p2 => walk_at "hx"); (case p3 => walk_at "tn"); (case p4 => with_reducible assumption); (case p5 => with_reducible assumption); (case p6 => omega); (case p7 => omega); intro pW dW H' np ow bw)
  | ((with_reducible refine' Bs.c_negC ?p1 ?p2 ?p4 ?p6 ?_); (case p1 => assumption); (case p2 => walk_at "hx"); (case p4 => with_reducible assumption); (case p6 => omega); intro pW dW H' np ow bw)
  | ((with_reducible refine' Bs.c_invC ?p1 ?p2 ?p4 ?p6 ?_); (case p1 => assumption); (case p2 => walk_at "hx"); (case p4 => with_reducible assumption); (case p6 => omega); intro pW dW H' np ow bw)
  | ((with_reducible refine' Bs.o_WC ?p1 ?p2 ?p3 ?_); (case p1 => assumption); (case p2 => with_reducible assumption); (case p3 => omega); intro pW dW H' np ow)
  | ((with_reducible refine' Bs.r_aug ?rv ?_); (case rv => exact rfl))
  | ((with_reducible refine' Bs.i_own ?p1 ?_); (case p1 => walk_at "hx")))

/-! calls of the low bits, leads, spans -/
theorem lt_pw {x : Nat} {n : Nat} (h : x ≤ 1000) (hn : Nat.ble 10 n = true) : x < 2 ^ n := Nat.lt_of_le_of_lt h (Nat.lt_of_lt_of_le (show 1000 < 2 ^ 10 by decide) (Nat.pow_le_pow_right (by decide) (Nat.le_of_ble_eq_true hn)))
/-- sizes that the low bits bear -/
structure Wd (t b : Int) : Prop where
  t1 : t.natAbs < 2 ^ 100000
  b1 : b.natAbs < 2 ^ 8000
theorem wd_pw {t b : Int} (h : t.natAbs ≤ 1000) (g : b.natAbs ≤ 1000) : Wd t b := ⟨lt_pw h rfl, lt_pw g rfl⟩
theorem c_lead {t b : Int} {H : Hp} {Q : VK} {E : XK} (pb : 0 < b) (ob : b % 2 = 1) (k : ∀ n : Nat, IsLead b t n → Q (.int n) H) : sp_lead ([.int t, .int b] ++ []) H Q E := ⟨t, b, rfl, pb, ob, k⟩
theorem c_span {b : Int} {H : Hp} {Q : VK} {E : XK} (pb : 0 < b) (ob : b % 2 = 1) (k : ∀ n : Nat, IsSpan b n → Q (.int n) H) : sp_span ([.int b] ++ []) H Q E := ⟨b, rfl, pb, ob, k⟩
theorem c_lowof {F H : Hp} {L : List (Addr × HO)} {t b i : Int} {Q : VK} {E : XK} (h : Own F H L) (ob : b % 2 = 1) (wd : Wd t b) (h0 : 0 ≤ i) (hi : i ≤ 1000000) (k : ∀ r H', Own F H' L → IsLow t b r i.toNat → Q (.int r) H') : sp_lowof ([.int t, .int b, .int i] ++ []) H Q E :=
  ⟨t, b, i.toNat, by rw [Int.toNat_of_nonneg h0]; rfl, ob, Nat.lt_of_lt_of_le wd.b1 (Nat.pow_le_pow_right (by decide) (by decide)), Nat.lt_of_lt_of_le wd.t1 (Nat.pow_le_pow_right (by decide) (by decide)), by omega, fun r H' s l => k r H' (h.same s) l⟩
set_option hygiene false in
local macro_rules | `(tactic| walk_at "r1") => `(tactic| first
  | ((with_reducible refine' Bs.c_lead ?p1 ?p2 ?_); (case p1 => assumption); (case p2 => assumption); intro nL hL)
  | ((with_reducible refine' Bs.c_span ?p1 ?p2 ?_); (case p1 => assumption); (case p2 => assumption); intro nS hS)
  | ((with_reducible refine' Bs.c_lowof ?p1 ?p2 ?p3 ?p5 ?p6 ?_); (case p1 => assumption); (case p2 => assumption); (case p3 => assumption); (case p5 => omega); (case p6 => omega); intro rL H' ow hl)
  | ((with_reducible refine' Bs.o_W ?p1 ?p2 ?p3 ?_); (case p1 => assumption); (case p2 => exact Bs.Wd.b1 (by assumption)); (case p3 => first | assumption | exact Bs.ok_odd (by assumption)); intro pW dW H' np ow))

/-! words moved -/
abbrev s_Word___lshift__ : Stmt := inClass (top 17) 24
theorem sc_Word___lshift__ : FnScope ["self", "other"] ["self", "other"] (defScope s_Word___lshift__) := ⟨rfl, rfl, rfl, by decide +kernel, rfl, by decide +kernel, by decide +kernel⟩
abbrev s_Word___rshift__ : Stmt := inClass (top 17) 25
theorem sc_Word___rshift__ : FnScope ["self", "other", "low"] ["self", "other"] (defScope s_Word___rshift__) := ⟨rfl, rfl, rfl, by decide +kernel, rfl, by decide +kernel, by decide +kernel⟩
def sp_shl (C I : Addr) : Sp := fun vs H Q E => ∃ (a dx : Addr) (t b n : Int), vs = [.ref a, .int n] ∧ H a = some (.ins C dx (wfl t b)) ∧ Wd t b ∧ b % 2 = 1 ∧ n ≤ 10000 ∧
  (0 ≤ n → ∀ p d H', H p = none → Same H H' → H' p = some (.ins C d (wfl (wT (t * 2 ^ n.toNat) b) (wB (t * 2 ^ n.toNat) b))) → Q (.ref p) H') ∧ (n < 0 → ∀ d H', H d = none → Same H H' → H' d = some (.xd [("value", .int n)]) → E (.ref I) (some d) H')
def sp_shr (C I : Addr) : Sp := fun vs H Q E => ∃ (a dx : Addr) (t b n : Int), vs = [.ref a, .int n] ∧ H a = some (.ins C dx (wfl t b)) ∧ Wd t b ∧ b % 2 = 1 ∧ n ≤ 10000 ∧
  (0 ≤ n → ∀ p d H', H p = none → Same H H' → H' p = some (cw C d (hvs b n.toNat t) b) → Q (.ref p) H') ∧ (n < 0 → ∀ d H', H d = none → Same H H' → H' d = some (.xd [("value", .int n)]) → E (.ref I) (some d) H')
abbrev SL (P : Program) (w : World) (K : PySem.W.Frag) (mg : Str → Option Value) (base : Heap) (C I : Addr) : Prop := OpL P w K mg base (L2.CX P w) C "lshift" 6 (sp_shl C I)
abbrev SR (P : Program) (w : World) (K : PySem.W.Frag) (mg : Str → Option Value) (base : Heap) (C I : Addr) : Prop := OpL P w K mg base (L2.CX P w) C "rshift" 6 (sp_shr C I)
/-! plain -/
theorem red_nm {t b : Int} (pb : 0 < b) (g : Int.gcd t b = 1) : wT t b = t ∧ wB t b = b := by
  have s : wSh t b = 1 := by unfold wSh; rw [if_neg (by omega), g]; rfl
  have e1 := wT_mul (t := t) (b := b)
  have e2 := wB_mul (t := t) (b := b)
  rw [s, Int.mul_one] at e1 e2
  exact ⟨e1, e2⟩
theorem cw_red {C d : Addr} {p q : Int} (h : wOk p q) : cw C d p q = cw C d (wT p q) (wB p q) := by
  have z := red_nm (nm_pos (t := p) h.1) (nm_co (t := p) h.1)
  unfold cw
  rw [z.1, z.2]
theorem hv_scale {k b x : Int} (ok : k % 2 = 1) (ob : b % 2 = 1) : hv (k * b) (k * x) = k * hv b x := by
  have e := hv2 (x := x) ob
  have e2 := hv2 (b := k * b) (x := k * x) (odd_mul ok ob)
  have p : (k * x) % 2 = x % 2 := by rw [Int.mul_emod, ok, Int.one_mul, Int.emod_emod]
  rw [p] at e2
  have e3 : k * (2 * hv b x) = k * (x - x % 2 * b) := by rw [e]
  have : 2 * hv (k * b) (k * x) = 2 * (k * hv b x) := by rw [e2]; grind
  omega
theorem hvs_scale {k b : Int} (ok : k % 2 = 1) (ob : b % 2 = 1) : ∀ (n : Nat) (x : Int), hvs (k * b) n (k * x) = k * hvs b n x
  | 0, x => rfl
  | n + 1, x => by
    show hvs (k * b) n (hv (k * b) (k * x)) = k * hvs b n (hv b x)
    rw [hv_scale ok ob, hvs_scale ok ob n]
theorem odd_of_mul {a b : Int} (h : (a * b) % 2 = 1) : a % 2 = 1 ∧ b % 2 = 1 := by
  have h1 := Int.emod_two_eq a
  have h2 := Int.emod_two_eq b
  rw [Int.mul_emod] at h
  rcases h1 with e | e <;> rcases h2 with e2 | e2 <;> rw [e, e2] at h <;> first | exact ⟨e, e2⟩ | (exfalso; revert h; decide)
theorem hvs_up {b : Int} (ob : b % 2 = 1) : ∀ (n : Nat) (x : Int), hvs b n (x * 2 ^ n) = x
  | 0, x => by simp [hvs]
  | n + 1, x => by
    show hvs b n (hv b (x * 2 ^ (n + 1))) = x
    have p : (x * 2 ^ (n + 1)) % 2 = 0 := by rw [Int.pow_succ, ← Int.mul_assoc, Int.mul_emod_left]
    have e := hv2 (x := x * 2 ^ (n + 1)) ob
    rw [p, Int.pow_succ] at e
    have : hv b (x * 2 ^ (n + 1)) = x * 2 ^ n := by rw [Int.pow_succ]; grind
    rw [this, hvs_up ob n x]
theorem hvs_bd {b : Int} (ob : b % 2 = 1) {m : Nat} (hb : b.natAbs < m) : ∀ (n : Nat) {x : Int}, x.natAbs < m → (hvs b n x).natAbs < m
  | 0, _, h => h
  | n + 1, x, h => by
    refine hvs_bd ob hb n (x := hv b x) ?_
    have e := hv2 (x := x) ob
    rcases Int.emod_two_eq x with p | p <;> rw [p] at e <;> omega
theorem hvs_co {t b : Int} (ob : b % 2 = 1) (g : Int.gcd t b = 1) (n : Nat) : Int.gcd (hvs b n t) b = 1 := by
  have d1 : (Int.gcd (hvs b n t) b : Int) ∣ hvs b n t := Int.gcd_dvd_left _ _
  have d2 : (Int.gcd (hvs b n t) b : Int) ∣ b := Int.gcd_dvd_right _ _
  have d3 : (Int.gcd (hvs b n t) b : Int) ∣ t := by
    obtain ⟨c, e⟩ := hvs_dvd ob n t
    obtain ⟨x, ex⟩ := d1
    obtain ⟨y, ey⟩ := d2
    refine ⟨2 ^ n * x - y * c, ?_⟩
    grind
  have : (Int.gcd (hvs b n t) b : Int) ∣ (Int.gcd t b : Int) := Int.dvd_coe_gcd d3 d2
  rw [g] at this
  exact Nat.dvd_one.mp (Int.natCast_dvd_natCast.mp this)
theorem nm_shl {a b : Int} (h : b ≠ 0) (k : Int) : (wT a b * k) * b = (a * k) * wB a b := by
  have h1 := nm_cross (p := a) (q := b)
  grind
theorem pw_shl {a : Int} {n k : Nat} (h : a.natAbs < 2 ^ n) : (a * 2 ^ k).natAbs < 2 ^ (n + k) := by
  rw [Int.natAbs_mul, Nat.pow_add, Int.natAbs_pow]
  exact Nat.mul_lt_mul_of_pos_right h (Nat.pow_pos (by decide))
theorem Bd.shl {n : Nat} {a b : Int} (h : Bd n a b) (k : Nat) : Bd (n + k) (a * 2 ^ k) b :=
  ⟨wOk_of (ok_odd (odd_nm h.ok)) h.ne (nm_shl h.ne _), pw_shl h.p1, Nat.lt_of_lt_of_le h.q1 (Nat.pow_le_pow_right (by decide) (by omega))⟩
theorem Bd.shr {n : Nat} {a b : Int} (h : Bd n a b) (oq : b % 2 = 1) (k : Nat) : Bd n (hvs b k a) b := ⟨ok_odd oq, hvs_bd oq h.q1 k h.p1, h.q1⟩
theorem nm_shr {a b : Int} (oq : b % 2 = 1) (k : Nat) : hvs (wB a b) k (wT a b) * b = hvs b k a * wB a b := by
  have e1 := wT_mul (t := a) (b := b)
  have e2 := wB_mul (t := a) (b := b)
  have o := odd_of_mul (a := wB a b) (b := wSh a b) (by rw [e2]; exact oq)
  have s := hvs_scale o.2 o.1 k (wT a b)
  rw [Int.mul_comm (wSh a b) (wB a b), Int.mul_comm (wSh a b) (wT a b), e1, e2] at s
  rw [s]
  generalize hvs (wB a b) k (wT a b) = z
  grind
section
variable {P : Program} {w : World} {K : PySem.W.Frag} {mg : Str → Option Value} {base : Heap} {C aInvalidWord aInvalidShift f : Addr} {fd : FuncData}
theorem shr_top {t b r : Int} {n : Nat} (ob : b % 2 = 1) (h : IsLow t b r n) : (t - r * b) / 2 ^ n = hvs b n t := by
  have e := lowS_eq ob n t
  rw [low_is ob h]
  have e2 : t - lowS b n t * b = 2 ^ n * hvs b n t := by grind
  rw [e2, Int.mul_ediv_cancel_left _ (Int.ne_of_gt (two_pow_pos n))]
theorem ok_Word___lshift__ (F : FnP K "__lshift__" "Word.__lshift__" s_Word___lshift__ f fd) (B : Bi mg) (x_InvalidShift : Xc P w K mg base "InvalidShift" aInvalidShift) (c_Word : WordC P w K mg base C aInvalidWord) : FnOk P w K mg base (L2.CX P w) 6 f fd ["self", "other"] (sp_shl C aInvalidShift) := by
  refine F.ok sc_Word___lshift__ (fun vs H Q E h => by walk_at "len") (fun cdv A outer s H vs Q E hr h => ?_)
  have nd := sc_Word___lshift__.nd
  obtain ⟨a, dx, t, b, n, rfl, ea, wd, ob, hn, q1, q2⟩ := h
  have cl := c_Word.cl
  have nT := c_Word.nT
  have nB := c_Word.nB
  refine ⟨_, pss_cons (ps_if (pt_cmpR op_lt (pv 1) pe_int (nomark _)) (pss_one (ps_rx rfl (takes_of rfl rfl rfl rfl) x_InvalidShift hr (by decide) (pa_cons (pv 1) pa_nil) (mo_cons mo_var mo_nil))) pss_nil)
      (pss_one (ps_ret (pe_W2 c_Word hr (by decide) (fun _ => psL0) (pa_cons (pe_op op_shlW (pe_fld (pv 0) rfl) (pv 1)) (pa_cons (pe_fld (pv 0) rfl) pa_nil))))), ?_⟩
  walk_at "s0"
  have ow := Own.start H
  have c1 : 0 ≤ n → CShl t n := fun h => cshl 100000 h wd.t1 (by omega)
  walk_at "go"
  · exact q2 hc dX H' (ow.new0 g0) ow.toSame_of (ow.get 0 rfl)
  have c2 := c1 (by omega)
  walk_at "go"
  · exact q1 (by omega) pW _ H' (ow.new0 g0) ow.toSame_of (ow.get 0 rfl)
theorem ok_Word___rshift__ (F : FnP K "__rshift__" "Word.__rshift__" s_Word___rshift__ f fd) (B : Bi mg) (x_InvalidShift : Xc P w K mg base "InvalidShift" aInvalidShift) (c_low_of : Fo P w K mg base CX0 2 "low_of" ["top", "bottom", "width"] (sp_lowof)) (c_Word : WordC P w K mg base C aInvalidWord) : FnOk P w K mg base (L2.CX P w) 6 f fd ["self", "other"] (sp_shr C aInvalidShift) := by
  refine F.ok sc_Word___rshift__ (fun vs H Q E h => by walk_at "len") (fun cdv A outer s H vs Q E hr h => ?_)
  have nd := sc_Word___rshift__.nd
  obtain ⟨a, dx, t, b, n, rfl, ea, wd, ob, hn, q1, q2⟩ := h
  have cl := c_Word.cl
  have nT := c_Word.nT
  have nB := c_Word.nB
  refine ⟨_, pss_cons (ps_if (pt_cmpR op_lt (pv 1) pe_int (nomark _)) (pss_one (ps_rx rfl (takes_of rfl rfl rfl rfl) x_InvalidShift hr (by decide) (pa_cons (pv 1) pa_nil) (mo_cons mo_var mo_nil))) pss_nil)
      (pss_cons (ps_set (i := 2) nd rfl (Or.inl rfl) (pe_fo c_low_of hr (by decide) (pa_cons (pe_fld (pv 0) rfl) (pa_cons (pe_fld (pv 0) rfl) (pa_cons (pv 1) pa_nil)))))
      (pss_one (ps_ret (pe_W2 c_Word hr (by decide) (fun _ => psL0) (pa_cons (pe_op op_shr (pe_op op_sub (pe_fld (pv 0) rfl) (pe_op op_mulO (pv 2) (pe_fld (pv 0) rfl))) (pv 1)) (pa_cons (pe_fld (pv 0) rfl) pa_nil)))))), ?_⟩
  walk_at "s0"
  have ow := Own.start H
  walk_at "go"
  · exact q2 hc dX H' (ow.new0 g0) ow.toSame_of (ow.get 0 rfl)
  · have c1 : IntMulOk rL b := mok_w 20000 8000 (Nat.lt_of_lt_of_le (show rL.natAbs < 2 ^ n.toNat by
      have h3 : ((2 ^ n.toNat : Nat) : Int) = 2 ^ n.toNat := by simp
      have := hl.r0; have := hl.r1; omega) (Nat.pow_le_pow_right (by decide) (by omega))) wd.b1 (by decide)
    walk_at "go"
    rw [shr_top ob hl] at ow
    exact q1 (by omega) pW _ H' (ow.new0 g0) ow.toSame_of (ow.get 0 rfl)
end

/-! lists and dicts: readings -/
set_option hygiene false in
local macro_rules | `(tactic| walk_at "r1") => `(tactic| first
  | with_reducible refine Bs.r_bm ?_
  | with_reducible refine Bs.r_il ?_
  | ((with_reducible refine' Bs.o_il ?p1 ?p2 ?_); (case p1 => assumption); (case p2 => walk_at "oi"))
  | ((with_reducible refine' Bs.o_lofT ?p1 ?p2 ?_); (case p1 => assumption); (case p2 => walk_at "hq"); intro pL H' np ow)
  | ((with_reducible refine' Bs.o_lofL ?p1 ?p2 ?_); (case p1 => assumption); (case p2 => walk_at "hq"); intro pL H' np ow)
  | with_reducible refine Bs.r_dnotin ?_
  | with_reducible refine Bs.r_dget ?_
  | ((with_reducible refine' Bs.o_unpF ?p1 ?p2 ?_); (case p1 => walk_at "hq"); (case p2 => exact rfl))
  | ((with_reducible refine' Bs.o_bmL ?p1 ?p2 ?_); (case p1 => assumption); (case p2 => walk_at "oi"))
  | ((with_reducible refine' Bs.o_dnew ?p1 ?_); (case p1 => assumption); intro pD H' np ow)
  | ((with_reducible refine' Bs.o_dn ?p1 ?p2 ?_); (case p1 => assumption); (case p2 => walk_at "oi"))
  | ((with_reducible refine' Bs.o_dg ?p1 ?p2 ?p3 ?_); (case p1 => assumption); (case p2 => walk_at "oi"); (case p3 => assumption))
  | ((with_reducible refine' Bs.o_lenD ?p1 ?p2 ?_); (case p1 => assumption); (case p2 => walk_at "oi")))
theorem two_at {x y v : Int} {m : Int} (h0 : 0 ≤ v) (h1 : v < 2) (x0 : 0 ≤ x ∧ x ≤ m) (y0 : 0 ≤ y ∧ y ≤ m) : ∃ N : Int, atI [V.int x, V.int y] v = some (.int N) ∧ 0 ≤ N ∧ N ≤ m := by
  have : v = 0 ∨ v = 1 := by omega
  rcases this with rfl | rfl
  · exact ⟨x, rfl, x0⟩
  · exact ⟨y, rfl, y0⟩
theorem o_ix2 {K : PySem.W.Frag} {F H : Hp} {L : List (Addr × HO)} {a : Addr} {i : Nat} {x y v m : Int} {Q : VK} (h : Own F H L) (e : L[i]? = some (a, .lst [.int x, .int y])) (h0 : 0 ≤ v) (h1 : v < 2) (x0 : 0 ≤ x ∧ x ≤ m) (y0 : 0 ≤ y ∧ y ≤ m) (k : ∀ N : Int, 0 ≤ N → N ≤ m → Q (.int N) H) : rIxL K (.ref a) (.int v) H Q := by
  obtain ⟨N, hN, N0, N1⟩ := two_at h0 h1 x0 y0
  exact o_ixL h e hN (k N N0 N1)

/-! the first bits, plain -/
theorem at_last {α : Type} {ys : List α} {v : α} : atI (ys ++ [v]) (-1) = some v := by
  unfold atI ixN
  rw [if_neg (by omega), if_pos (by simp; omega)]
  have : ((-1 : Int) + ((ys ++ [v]).length : Nat)).toNat = ys.length := by simp; omega
  show (ys ++ [v])[((-1 : Int) + ((ys ++ [v]).length : Nat)).toNat]? = some v
  rw [this]
  simp
/-- the first n bits -/
def bitsL (b t : Int) (n : Nat) : List Int := (List.range n).map fun i => hvs b i t % 2
theorem bitsL_succ (b t : Int) (n : Nat) : bitsL b t (n + 1) = bitsL b t n ++ [hvs b n t % 2] := by
  unfold bitsL
  rw [List.range_succ, List.map_append]
  rfl
theorem bitsL_len (b t : Int) (n : Nat) : (bitsL b t n).length = n := by unfold bitsL; simp
theorem at_bits {b t : Int} {n : Nat} {j : Int} (h0 : 0 ≤ j) (h : j < n) : atI ((bitsL b t n).map V.int) j = some (.int (hvs b j.toNat t % 2)) := by
  unfold atI ixN
  have l : ((bitsL b t n).map V.int).length = n := by rw [List.length_map, bitsL_len]
  rw [if_pos h0, l, if_pos h]
  show ((bitsL b t n).map V.int)[j.toNat]? = _
  have z : j.toNat < n := by omega
  unfold bitsL
  simp [z]

/-! the law's bits and cycle, by halves -/

def sp_bits (K : PySem.W.Frag) : Sp := fun vs H Q _ => ∃ (p : Addr) (t b : Int) (n : Nat), vs = [.ref p, .int n] ∧ SqT K H p [.int t, .int b] ∧ n ≤ 100000 ∧ ∀ r H', H r = none → Same H H' → H' r = some (.lst ((bitsL b t n).map V.int)) → Q (.ref r) H'
section
variable {P : Program} {w : World} {K : PySem.W.Frag} {mg : Str → Option Value} {base : Heap}
theorem ok_bits {f : Addr} {fd : FuncData} (F : FnP K "_law_bits" "_law_bits" s__law_bits f fd) (B : Bi mg) : FnOk P w K mg base CX0 1 f fd ["_law_pair", "_law_many"] (sp_bits K) := by
  refine F.ok sc__law_bits (fun vs H Q E h => ?_) (fun cdv A outer s H vs Q E hr h => ?_)
  · obtain ⟨p, t, b, n, rfl, _⟩ := h
    rfl
  · obtain ⟨p, t, b, n, rfl, sq, hn, q⟩ := h
    have nd := sc__law_bits.nd
    refine ⟨_, PSs.nox (pss_cons (ps_asg (pe_tup (pa_cons (pe_lst pa_nil) (pa_cons (pv 0) pa_nil))) (pg_tup rfl (pgs_cons (pg_name (i := 2) nd rfl (.inl rfl)) (pgs_cons (pg_tup rfl (pgs_cons (pg_name (i := 3) nd rfl (.inl rfl)) (pgs_cons (pg_name (i := 4) nd rfl (.inl rfl)) pgs_nil))) pgs_nil))))
      (pss_cons (ps_for PassesOwn.never rfl (pi_range1 rfl B.range (pa_cons (pv 1) pa_nil)) (pg_name (i := 5) nd rfl (.inl rfl))
      (pss_cons (ps_expr (pe_bm PySem.F.plainAttrs_list PySem.F.slot_list_append PySem.F.type_list_append mt_append (pv 2) (pa_cons (pe_op op_mod (pe_callTy cb_int1 rfl B.int (by decide +kernel) (pa_cons (pv 3) pa_nil)) pe_int) pa_nil)))
      (pss_one (ps_set (i := 3) nd rfl (Or.inl rfl) (pe_op op_fdivW (pe_op op_sub (pv 3) (pe_op op_mulO (pe_ix ix_list (pv 2) (pe_un un_neg pe_int) (fun _ _ => rfl)) (pv 4))) pe_int)))))
      (pss_one (ps_ret (pv 2))))), ?_⟩
    walk_at "s0"
    have ow := Own.start H
    walk_at "go"
    refine for_range (fun i σ' H' => ∃ u : Option V, σ' = [some (.ref p), some (.int n), some (.ref pL), some (.int (hvs b i t)), some (.int b), u] ∧ Own H H' [(pL, .lst ((bitsL b t i).map V.int))]) ⟨_, rfl, ow.drop⟩ ?_ ?_
    · rintro i σ' H1 hi ⟨u, rfl, ow⟩
      walk_at "go"
      refine o_app ow g0 (by rw [List.length_map, bitsL_len]; omega) ?_
      intro H2 ow
      have e : (bitsL b t i).map V.int ++ [.int (hvs b i t % 2)] = (bitsL b t (i + 1)).map V.int := by rw [bitsL_succ, List.map_append]; rfl
      have at1 : atI ((bitsL b t i).map V.int ++ [.int (hvs b i t % 2)]) (-1) = some (.int (hvs b i t % 2)) := by
        exact at_last
      walk_at "ow"
      walk_at "go"
      exact ⟨_, by rw [hvs_succ]; rfl, by rw [← e]; exact ow⟩
    · rintro σ' H1 ⟨u, rfl, ow⟩
      walk_at "go"
      rw [Int.toNat_natCast] at ow
      exact q pL _ (ow.new0 g0) ow.toSame_of (ow.get 0 rfl)
end
theorem c_bits {K : PySem.W.Frag} {F H : Hp} {L : List (Addr × HO)} {p : Addr} {t b i : Int} {Q : VK} {E : XK} (h : Own F H L) (s : SqT K H p [.int t, .int b]) (h0 : 0 ≤ i) (hi : i ≤ 100000) (k : ∀ r H', H r = none → Own F H' ((r, .lst ((bitsL b t i.toNat).map V.int)) :: L) → Q (.ref r) H') : sp_bits K ([.ref p, .int i] ++ []) H Q E :=
  ⟨p, t, b, i.toNat, by rw [Int.toNat_of_nonneg h0]; rfl, s, by omega, fun r H' n s e => k r H' n (h.newS n s e)⟩
set_option hygiene false in
local macro_rules | `(tactic| walk_at "r1") => `(tactic| ((with_reducible refine' Bs.c_bits ?p1 ?p2 ?p3 ?p4 ?_); (case p1 => assumption); (case p2 => walk_at "hq"); (case p3 => omega); (case p4 => omega); intro pL H' np ow))

/-! few places -/
/-- a fraction of which the places are few -/
structure Few (t b : Int) : Prop where
  pb : 0 < b
  ob : b % 2 = 1
  g : Int.gcd t b = 1
  bd : ∀ L p, IsLead b t L → IsSpan b p → L + p ≤ 90000

/-! the law's cycle, by halves -/

/-- what the cycle's dict holds -/
def kvsN (b t : Int) (n : Nat) : List (Key × V) := (List.range n).map fun i => (Sum.inl (hvs b i t), V.int i)
theorem kvsN_succ (b t : Int) (n : Nat) : kvsN b t (n + 1) = kvsN b t n ++ [(Sum.inl (hvs b n t), V.int n)] := by
  unfold kvsN
  rw [List.range_succ, List.map_append]
  rfl
theorem kvsN_len (b t : Int) (n : Nat) : (kvsN b t n).length = n := by unfold kvsN; simp
theorem kvsN_none {b t x : Int} {n : Nat} (h : ∀ i, i < n → hvs b i t ≠ x) : valV (kvsN b t n) (.inl x) = none := by
  unfold valV kvsN
  rw [Option.map_eq_none_iff, List.find?_eq_none]
  intro y hy
  obtain ⟨i, hi, rfl⟩ := List.mem_map.mp hy
  have := h i (List.mem_range.mp hi)
  simp [this]
theorem kvsN_put {b t : Int} {n : Nat} {v : V} (h : ∀ i, i < n → hvs b i t ≠ hvs b n t) (hv : v = .int n) : putK (kvsN b t n) (.inl (hvs b n t)) v = kvsN b t (n + 1) := by
  unfold putK
  rw [if_neg, kvsN_succ, hv]
  intro z
  obtain ⟨y, hy, e⟩ := List.any_eq_true.mp z
  unfold kvsN at hy
  obtain ⟨i, hi, rfl⟩ := List.mem_map.mp hy
  have := h i (List.mem_range.mp hi)
  simp [this] at e
theorem kvsN_some {b t : Int} {L : Nat} : ∀ {n : Nat}, L < n → (∀ i, i < n → i ≠ L → hvs b i t ≠ hvs b L t) → valV (kvsN b t n) (.inl (hvs b L t)) = some (.int L)
  | 0, h, _ => by omega
  | n + 1, h, d => by
    rw [kvsN_succ]
    unfold valV
    rw [List.find?_append]
    by_cases z : L = n
    · subst z
      have : (kvsN b t L).find? (fun kv => decide (kv.1 = Sum.inl (hvs b L t))) = none := by
        have := kvsN_none (b := b) (t := t) (x := hvs b L t) (n := L) fun i hi => d i (by omega) (by omega)
        unfold valV at this
        exact Option.map_eq_none_iff.mp this
      rw [this]
      simp
    · have e := kvsN_some (b := b) (t := t) (L := L) (n := n) (by omega) fun i hi => d i (by omega)
      unfold valV at e
      obtain ⟨y, hy, e2⟩ := Option.map_eq_some_iff.mp e
      rw [hy]
      simp [e2]
def sp_cycle (K : PySem.W.Frag) : Sp := fun vs H Q _ => ∃ (p : Addr) (t b : Int), vs = [.ref p] ∧ SqT K H p [.int t, .int b] ∧ 0 < b ∧ b % 2 = 1 ∧ Int.gcd t b = 1 ∧ (∀ L p, IsLead b t L → IsSpan b p → L + p ≤ 900000) ∧
  ∀ L s r H', IsLead b t L → IsSpan b s → H r = none → Same H H' → H' r = some (.tup [.int L, .int s]) → Q (.ref r) H'
section
variable {P : Program} {w : World} {K : PySem.W.Frag} {mg : Str → Option Value} {base : Heap}
theorem ok_cycle {f : Addr} {fd : FuncData} (F : FnP K "_law_cycle" "_law_cycle" s__law_cycle f fd) (B : Bi mg) : FnOk P w K mg base CX0 1 f fd ["_law_pair"] (sp_cycle K) := by
  refine F.ok sc__law_cycle (fun vs H Q E h => ?_) (fun cdv A outer s H vs Q E hr h => ?_)
  · obtain ⟨p, t, b, rfl, _⟩ := h
    rfl
  · obtain ⟨p, t, b, rfl, sq, pb, ob, g, bd, q⟩ := h
    have nd := sc__law_cycle.nd
    obtain ⟨N, hL⟩ := isLead_ex ob pb t
    obtain ⟨S, hS⟩ := isSpan_ex ob pb
    have nb := bd N S hL hS
    have hu : (A.deeper (envOfC ("_law_cycle" : Str) (defScope s__law_cycle) s.heap.objs.size f cdv)).units + 1 < cLine := by have := hr.un; omega
    refine ⟨_, PSs.nox (pss_cons (ps_asg (pe_tup (pa_cons pe_dnewK (pa_cons (pv 0) pa_nil))) (pg_tup rfl (pgs_cons (pg_name (i := 1) nd rfl (.inl rfl)) (pgs_cons (pg_tup rfl (pgs_cons (pg_name (i := 2) nd rfl (.inl rfl)) (pgs_cons (pg_name (i := 3) nd rfl (.inl rfl)) pgs_nil))) pgs_nil))))
      (pss_cons (ps_while PassesOwn.never (pt_cmp (pc_dnotin hu (pv 2) (pv 1))) (pss_cons (ps_asg (pe_callB cb_lenD rfl B.len (by decide +kernel) (pa_cons (pv 1) pa_nil)) (pg_sub (pv 1) (pv 2) (set_dict hu)))
      (pss_one (ps_set (i := 2) nd rfl (Or.inl rfl) (pe_op op_fdivW (pe_op op_sub (pv 2) (pe_op op_mulO (pe_op op_mod (pe_callTy cb_int1 rfl B.int (by decide +kernel) (pa_cons (pv 2) pa_nil)) pe_int) (pv 3))) pe_int)))))
      (pss_one (ps_ret (pe_tup (pa_cons (pe_dget hu (pv 1) (pv 2) (fun _ _ => rfl)) (pa_cons (pe_op op_sub (pe_callB cb_lenD rfl B.len (by decide +kernel) (pa_cons (pv 1) pa_nil)) (pe_dget hu (pv 1) (pv 2) (fun _ _ => rfl))) pa_nil))))))), ?_⟩
    walk_at "s0"
    have ow := Own.start H
    walk_at "go"
    refine r_while (fun m σ H' => ∃ n : Nat, σ = [some (.ref p), some (.ref pD), some (.int (hvs b n t)), some (.int b)] ∧ Own H H' [(pD, .dK (kvsN b t n))] ∧ n ≤ N + S ∧ m = N + S - n) _ ⟨0, rfl, ow.drop, Nat.zero_le _, rfl⟩ ?_
    rintro m σ H1 ⟨n, rfl, ow, hn, rfl⟩
    by_cases z : n < N + S
    · have e : valV (kvsN b t n) (.inl (hvs b n t)) = none := kvsN_none fun i hi => distinct ob pb g hL hS hi z
      walk_at "go"
      rw [e]
      refine i_nf ?_
      walk_at "go"
      refine o_dset ow g0 (by rw [kvsN_len]; omega) ?_
      intro H2 ow
      rw [kvsN_put (fun i hi => distinct ob pb g hL hS hi z) (by rw [kvsN_len])] at ow
      walk_at "ow"
      walk_at "go"
      exact ⟨_, by omega, n + 1, by rw [hvs_succ]; rfl, ow, by omega, rfl⟩
    · have ez : n = N + S := by omega
      subst ez
      have pe := per ob pb g hL hS
      have e : valV (kvsN b t (N + S)) (.inl (hvs b (N + S) t)) = some (.int N) := by
        rw [pe]
        refine kvsN_some (by have := hS.pos; omega) fun i hi ne => ?_
        rcases Nat.lt_or_gt_of_ne ne with h | h
        · exact distinct ob pb g hL hS h (by have := hS.pos; omega)
        · exact (distinct ob pb g hL hS h hi).symm
      walk_at "go"
      rw [e]
      refine i_nt ?_
      walk_at "go"
      have el : ((kvsN b t (N + S)).length : Int) - N = S := by rw [kvsN_len]; omega
      rw [el] at ow
      exact q N S pT H' hL hS (ow.new0 g0) ow.toSame_of (ow.get 0 rfl)
end
theorem c_cycle {K : PySem.W.Frag} {F H : Hp} {L : List (Addr × HO)} {p : Addr} {t b : Int} {Q : VK} {E : XK} (h : Own F H L) (s : SqT K H p [.int t, .int b]) (f : Few t b) (k : ∀ (N S : Nat) r H', IsLead b t N → IsSpan b S → N + S ≤ 90000 → H r = none → Own F H' ((r, .tup [.int N, .int S]) :: L) → Q (.ref r) H') : sp_cycle K ([.ref p] ++ []) H Q E :=
  ⟨p, t, b, rfl, s, f.pb, f.ob, f.g, fun L p h1 h2 => by have := f.bd L p h1 h2; omega, fun N S r H' h1 h2 n s e => k N S r H' h1 h2 (f.bd N S h1 h2) n (h.newS n s e)⟩
set_option hygiene false in
local macro_rules | `(tactic| walk_at "r1") => `(tactic| ((with_reducible refine' Bs.c_cycle ?p1 ?p2 ?p3 ?_); (case p1 => assumption); (case p2 => walk_at "hq"); (case p3 => assumption); intro nL nS pT H' hL hS hLS np ow))

/-! readings of calls by the slots, of x[::-1], of isinstance against bool -/
structure TyB (K : PySem.W.Frag) : Prop where
  k : PySem.W.kitOne K (.type "int") (.type "bool") = some false
  k3 : PySem.W.kitOne K (.type "int") (.type "int") = some true
theorem r_isiB {K : PySem.W.Frag} {H : Hp} {Q : VK} {i : Int} (ty : TyB K) (k : Q (.bl false) H) : rIsi K [.int i, .ty "bool"] H Q := ⟨_, _, _, _, false, rfl, .ty _, .base (.int i), ty.k, k⟩
theorem r_isiN2 {K : PySem.W.Frag} {H : Hp} {Q : VK} {i : Int} (ty : TyB K) (k : Q (.bl true) H) : rIsi K [.int i, .ty "int"] H Q := ⟨_, _, _, _, true, rfl, .ty _, .base (.int i), ty.k3, k⟩
set_option hygiene false in
local macro_rules | `(tactic| walk_at "oi") => `(tactic| first | exact Bs.g0 | exact Bs.g1 | exact Bs.g2 | exact Bs.g3 | exact Bs.g4 | exact Bs.g5 | exact Bs.g6 | exact Bs.g7 | exact Bs.g8 | exact Bs.g9 | exact Bs.g10 | exact Bs.g11 | exact Bs.g12 | exact Bs.g13 | exact Bs.g14 | exact Bs.g15 | exact Bs.g16 | exact Bs.g17 | exact Bs.g18 | exact Bs.g19 | exact Bs.g20 | exact Bs.g21 | exact Bs.g22 | exact Bs.g23 | exact Bs.g24 | exact Bs.g25 | exact Bs.g26 | exact Bs.g27 | exact Bs.g28 | exact Bs.g29 | exact Bs.g30 | exact Bs.g31 | exact Bs.g32 | exact Bs.g33 | exact Bs.g34 | exact Bs.g35 | exact Bs.g36 | exact Bs.g37 | exact Bs.g38 | exact Bs.g39 | exact Bs.g40)
set_option hygiene false in
local macro_rules | `(tactic| walk_at "r1") => `(tactic| first
  | with_reducible refine Bs.r_fx ?_
  | ((with_reducible refine' Bs.fx_pos ?p1 ?_); (case p1 => exact rfl))
  | with_reducible refine Bs.fx_kb2 ?_
  | with_reducible refine Bs.r_rv ?_
  | with_reducible refine Bs.r_part ?_
  | ((with_reducible refine' Bs.o_rv ?p1 ?p2 ?_); (case p1 => assumption); (case p2 => walk_at "hq"); intro pL H' np ow)
  | ((with_reducible refine' Bs.r_isiB ?p1 ?_); (case p1 => assumption))
  | ((with_reducible refine' Bs.r_isiN2 ?p1 ?_); (case p1 => assumption)))

/-! the properties lead and span -/


def sp_plead (C : Addr) : Sp := fun vs H Q _ => ∃ (a dx : Addr) (t b : Int), vs = [.ref a] ∧ H a = some (.ins C dx (wfl t b)) ∧ 0 < b ∧ b % 2 = 1 ∧ ∀ n : Nat, IsLead b t n → Q (.int n) H
def sp_pspan (C : Addr) : Sp := fun vs H Q _ => ∃ (a dx : Addr) (t b : Int), vs = [.ref a] ∧ H a = some (.ins C dx (wfl t b)) ∧ 0 < b ∧ b % 2 = 1 ∧ ∀ n : Nat, IsSpan b n → Q (.int n) H
theorem c_plead {H : Hp} {C a dx : Addr} {t b : Int} {Q : VK} {E : XK} (e : H a = some (.ins C dx (wfl t b))) (pb : 0 < b) (ob : b % 2 = 1) (k : ∀ n : Nat, IsLead b t n → Q (.int n) H) : sp_plead C [.ref a] H Q E := ⟨a, dx, t, b, rfl, e, pb, ob, k⟩
theorem c_pspan {H : Hp} {C a dx : Addr} {t b : Int} {Q : VK} {E : XK} (e : H a = some (.ins C dx (wfl t b))) (pb : 0 < b) (ob : b % 2 = 1) (k : ∀ n : Nat, IsSpan b n → Q (.int n) H) : sp_pspan C [.ref a] H Q E := ⟨a, dx, t, b, rfl, e, pb, ob, k⟩
theorem isLead_uniq {b t : Int} {n m : Nat} (h : IsLead b t n) (g : IsLead b t m) : n = m := by
  rcases Nat.lt_trichotomy n m with z | z | z
  · exact absurd h.is (g.no n z)
  · exact z
  · exact absurd g.is (h.no m z)
theorem isSpan_uniq {b : Int} {n m : Nat} (h : IsSpan b n) (g : IsSpan b m) : n = m := by
  rcases Nat.lt_trichotomy n m with z | z | z
  · exact absurd h.dv (g.no n h.pos z)
  · exact z
  · exact absurd g.dv (h.no m g.pos z)
theorem c_pleadK {H : Hp} {C a dx : Addr} {t b : Int} {N : Nat} {Q : VK} {E : XK} (e : H a = some (.ins C dx (wfl t b))) (pb : 0 < b) (ob : b % 2 = 1) (hL : IsLead b t N) (k : Q (.int N) H) : sp_plead C [.ref a] H Q E := ⟨a, dx, t, b, rfl, e, pb, ob, fun n h => by rw [isLead_uniq h hL]; exact k⟩
theorem c_pspanK {H : Hp} {C a dx : Addr} {t b : Int} {N : Nat} {Q : VK} {E : XK} (e : H a = some (.ins C dx (wfl t b))) (pb : 0 < b) (ob : b % 2 = 1) (hS : IsSpan b N) (k : Q (.int N) H) : sp_pspan C [.ref a] H Q E := ⟨a, dx, t, b, rfl, e, pb, ob, fun n h => by rw [isSpan_uniq h hS]; exact k⟩
set_option hygiene false in
local macro_rules | `(tactic| walk_at "r1") => `(tactic| first
  | ((with_reducible refine' Bs.o_propF ?p1 ?_); (case p1 => walk_at "hx"))
  | ((with_reducible refine' Bs.c_get ?p1 ?p2 ?_); (case p1 => walk_at "hx"); (case p2 => walk_at "lk"))
  | ((with_reducible refine' Bs.c_pleadK ?p1 ?p2 ?p3 ?p4 ?_); (case p1 => walk_at "hx"); (case p2 => assumption); (case p3 => assumption); (case p4 => with_reducible assumption))
  | ((with_reducible refine' Bs.c_pspanK ?p1 ?p2 ?p3 ?p4 ?_); (case p1 => walk_at "hx"); (case p2 => assumption); (case p3 => assumption); (case p4 => with_reducible assumption))
  | ((with_reducible refine' Bs.c_plead ?p1 ?p2 ?p3 ?_); (case p1 => walk_at "hx"); (case p2 => assumption); (case p3 => assumption); intro nL hL)
  | ((with_reducible refine' Bs.c_pspan ?p1 ?p2 ?p3 ?_); (case p1 => walk_at "hx"); (case p2 => assumption); (case p3 => assumption); intro nS hS))
section
variable {P : Program} {w : World} {K : PySem.W.Frag} {mg : Str → Option Value} {base : Heap} {C f : Addr} {fd : FuncData}
theorem ok_Word_lead (F : FnP K "lead" "Word.lead" s_Word_lead f fd) (B : Bi mg) (c_lead_of : Fo P w K mg base CX0 1 "lead_of" ["top", "bottom"] (sp_lead)) (cl : Cls K C) (nT : NoAttr K C "kept_top") (nB : NoAttr K C "kept_bottom") : FnOk P w K mg base CX0 2 f fd ["self"] (sp_plead C) := by
  refine F.ok sc_Word_lead (fun vs H Q E h => by walk_at "len") (fun cdv A outer s H vs Q E hr h => ?_)
  have nd := sc_Word_lead.nd
  obtain ⟨a, dx, t, b, rfl, ea, pb, ob, q⟩ := h
  refine ⟨_, PSs.nox (pss_one (ps_ret (pe_fo c_lead_of hr (by decide) (pa_cons (pe_fld (pv 0) rfl) (pa_cons (pe_fld (pv 0) rfl) pa_nil))))), ?_⟩
  walk_at "s0"
  have ow := Own.start H
  walk_at "go"
  exact q nL hL
theorem ok_Word_span (F : FnP K "span" "Word.span" s_Word_span f fd) (B : Bi mg) (c_span_of : Fo P w K mg base CX0 1 "span_of" ["bottom"] (sp_span)) (cl : Cls K C) (nB : NoAttr K C "kept_bottom") : FnOk P w K mg base CX0 2 f fd ["self"] (sp_pspan C) := by
  refine F.ok sc_Word_span (fun vs H Q E h => by walk_at "len") (fun cdv A outer s H vs Q E hr h => ?_)
  have nd := sc_Word_span.nd
  obtain ⟨a, dx, t, b, rfl, ea, pb, ob, q⟩ := h
  refine ⟨_, PSs.nox (pss_one (ps_ret (pe_fo c_span_of hr (by decide) (pa_cons (pe_fld (pv 0) rfl) pa_nil)))), ?_⟩
  walk_at "s0"
  have ow := Own.start H
  walk_at "go"
  exact q nS hS
end

/-! few places, plain -/
theorem lead_le {b t : Int} {L : Nat} (ob : b % 2 = 1) (pb : 0 < b) (h : IsLead b t L) : L ≤ t.natAbs := by
  have key : ∀ k, k ≤ L → far b (hvs b k t) + k ≤ far b t := by
    intro k
    induction k with
    | zero => intro _; exact Nat.le_refl _
    | succ k ih =>
      intro hk
      have i := ih (by omega)
      have l := far_hv ob pb (h.no k (by omega))
      rw [hvs_succ]
      omega
  have k := key L (Nat.le_refl _)
  have f : far b t ≤ t.natAbs := by
    unfold far
    split
    · exact Nat.le_refl _
    · split <;> omega
  omega
theorem span_le {b : Int} {p : Nat} (ob : b % 2 = 1) (pb : 0 < b) (h : IsSpan b p) : p ≤ b.toNat := by
  have bd : ∀ i, i ≤ b.toNat → ((2 : Int) ^ i % b).toNat < b.toNat := fun i _ => by
    have h1 := Int.emod_nonneg ((2 : Int) ^ i) (show b ≠ 0 by omega)
    have h2 := Int.emod_lt_of_pos ((2 : Int) ^ i) pb
    omega
  obtain ⟨i, j, hij, hj, e⟩ := php b.toNat _ bd
  have h1 := Int.emod_nonneg ((2 : Int) ^ i) (show b ≠ 0 by omega)
  have h2 := Int.emod_nonneg ((2 : Int) ^ j) (show b ≠ 0 by omega)
  have d : b ∣ 2 ^ j - 2 ^ i := Int.dvd_of_emod_eq_zero (Int.emod_eq_emod_iff_emod_sub_eq_zero.mp (by omega))
  have s : (2 : Int) ^ j - 2 ^ i = 2 ^ i * (2 ^ (j - i) - 1) := by
    rw [Int.mul_sub, ← Int.pow_add, Int.mul_one]
    congr 2
    omega
  rw [s] at d
  have d2 := odd_dvdp ob i d
  by_cases z : j - i < p
  · exact absurd d2 (h.no (j - i) (by omega) z)
  · omega
theorem few_pair {t b : Int} (h : PairOk t b) : Few (wT t b) (wB t b) := by
  have o := odd_nm h.ok
  have p := nm_pos (t := t) h.ne
  have a1 := wT_le (t := t) h.ne
  have a2 := wB_le (t := t) h.ne
  have t1 := h.t1
  have b1 := h.b1
  refine ⟨p, o, nm_co h.ne, fun L s hL hS => ?_⟩
  have l1 := lead_le o p hL
  have l2 := span_le o p hS
  omega

/-! leads of great tops -/
def far2 (b x : Int) : Nat := if 0 < x then x.natAbs else if x < -b then (-b - x).natAbs else 0
theorem far2_hv {b x : Int} (ob : b % 2 = 1) (pb : 0 < b) (h : ¬ In b x) : far2 b (hv b x) ≤ far2 b x / 2 := by
  have e := hv2 (x := x) ob
  have h' : 0 < x ∨ x < -b := by unfold In at h; omega
  unfold far2
  rcases Int.emod_two_eq x with p | p <;> rw [p] at e <;> rcases h' with q | q
  · rw [if_pos q]; split
    · omega
    · split <;> omega
  · rw [if_neg (show ¬ 0 < x by omega), if_pos q]; split
    · omega
    · split <;> omega
  · rw [if_pos q]; split
    · omega
    · split <;> omega
  · rw [if_neg (show ¬ 0 < x by omega), if_pos q]; split
    · omega
    · split <;> omega
theorem far2_pos {b x : Int} (h : ¬ In b x) : 1 ≤ far2 b x := by
  have h' : 0 < x ∨ x < -b := by unfold In at h; omega
  unfold far2
  split
  · omega
  · split <;> omega
theorem lead_log {b t : Int} {m L : Nat} (ob : b % 2 = 1) (pb : 0 < b) (ht : t.natAbs < 2 ^ m) (hL : IsLead b t L) : L ≤ m := by
  have key : ∀ k, k ≤ L → far2 b (hvs b k t) * 2 ^ k ≤ far2 b t := by
    intro k
    induction k with
    | zero => intro _; simp [hvs]
    | succ k ih =>
      intro hk
      have i := ih (by omega)
      have l := far2_hv ob pb (hL.no k (by omega))
      rw [hvs_succ, Nat.pow_succ]
      have : far2 b (hv b (hvs b k t)) * 2 ≤ far2 b (hvs b k t) := by omega
      calc far2 b (hv b (hvs b k t)) * (2 ^ k * 2) = (far2 b (hv b (hvs b k t)) * 2) * 2 ^ k := by ac_rfl
        _ ≤ far2 b (hvs b k t) * 2 ^ k := Nat.mul_le_mul_right _ this
        _ ≤ far2 b t := i
  by_cases z : L = 0
  · omega
  · have k := key (L - 1) (by omega)
    have p := far2_pos (hL.no (L - 1) (by omega))
    have f : far2 b t ≤ t.natAbs := by
      unfold far2
      split
      · exact Nat.le_refl _
      · split <;> omega
    have q : 2 ^ (L - 1) ≤ far2 b (hvs b (L - 1) t) * 2 ^ (L - 1) := Nat.le_mul_of_pos_left _ p
    have : 2 ^ (L - 1) < 2 ^ m := by omega
    have := (Nat.pow_lt_pow_iff_right (by decide)).mp this
    omega
theorem few_log {t b : Int} {m : Nat} (pb : 0 < b) (ob : b % 2 = 1) (g : Int.gcd t b = 1) (ht : t.natAbs < 2 ^ m) (hm : m ≤ 80000) (hb : b ≤ 1000) : Few t b := by
  refine ⟨pb, ob, g, fun L s hL hS => ?_⟩
  have l1 := lead_log ob pb ht hL
  have l2 := span_le ob pb hS
  omega
/-- a word of a fraction with a small bottom -/
theorem few_bd {n : Nat} {p q : Int} (h : Bd n p q) (hn : n ≤ 80000) (hb : q.natAbs ≤ 1000) : Few (wT p q) (wB p q) := by
  have a1 := wB_le (t := p) h.ne
  exact few_log (nm_pos h.ne) (odd_nm h.ok) (nm_co h.ne) (Nat.lt_of_le_of_lt (wT_le h.ne) h.p1) hn (by have := nm_pos (t := p) h.ne; omega)

/-! the number of a list of bits, plain -/
def worthL (ns : List Int) : Int := ns.foldr (fun b z => 2 * z + b) 0
theorem worthL_snoc (ns : List Int) (v : Int) : (ns ++ [v]).reverse.foldl (fun z b => 2 * z + b) 0 = ns.reverse.foldl (fun z b => 2 * z + b) v := by simp
theorem worthL_rev (ns : List Int) : worthL ns = ns.reverse.foldl (fun z b => 2 * z + b) 0 := by unfold worthL; rw [List.foldl_reverse]
theorem worth_bits (b : Int) : ∀ (n : Nat) (t : Int), worthL (bitsL b t n) = lowS b n t
  | 0, t => rfl
  | n + 1, t => by
    have e : bitsL b t (n + 1) = (t % 2) :: bitsL b (hv b t) n := by
      unfold bitsL
      rw [List.range_succ_eq_map, List.map_cons, List.map_map]
      rfl
    rw [e]
    show 2 * worthL (bitsL b (hv b t) n) + t % 2 = t % 2 + 2 * lowS b n (hv b t)
    rw [worth_bits b n]
    omega

/-! the number of a list of bits -/

def sp_worth (K : PySem.W.Frag) : Sp := fun vs H Q _ => ∃ (p : Addr) (ns : List Int), vs = [.ref p] ∧ SqL K H p (ns.map V.int) ∧ ∀ H', Same H H' → Q (.int (worthL ns)) H'
theorem c_worth {K : PySem.W.Frag} {F H : Hp} {L : List (Addr × HO)} {p : Addr} {ns : List Int} {Q : VK} {E : XK} (h : Own F H L) (s : SqL K H p (ns.map V.int)) (k : ∀ H', Own F H' L → Q (.int (worthL ns)) H') : sp_worth K ([.ref p] ++ []) H Q E := ⟨p, ns, rfl, s, fun H' s => k H' (h.same s)⟩
set_option hygiene false in
local macro_rules | `(tactic| walk_at "r1") => `(tactic| ((with_reducible refine' Bs.c_worth ?p1 ?p2 ?_); (case p1 => assumption); (case p2 => walk_at "hq"); intro H' ow))
section
variable {P : Program} {w : World} {K : PySem.W.Frag} {mg : Str → Option Value} {base : Heap} {f : Addr} {fd : FuncData}
theorem ok__law_worth (F : FnP K "_law_worth" "_law_worth" s__law_worth f fd) (B : Bi mg)  : FnOk P w K mg base CX0 1 f fd ["_law_bits_here"] (sp_worth K) := by
  refine F.ok sc__law_worth (fun vs H Q E h => by walk_at "len") (fun cdv A outer s H vs Q E hr h => ?_)
  have nd := sc__law_worth.nd
  obtain ⟨p, ns, rfl, sq, q⟩ := h
  refine ⟨_, PSs.nox (pss_cons (ps_set (i := 1) nd rfl (Or.inl rfl) pe_int)
      (pss_cons (ps_for PassesOwn.never rfl (pi_list (pe_rev (pv 0) (po_some (pe_un un_neg pe_int)))) (pg_name (i := 2) nd rfl (.inl rfl))
      (pss_one (ps_set (i := 1) nd rfl (Or.inl rfl) (pe_op op_add (pe_op op_mulO pe_int (pv 1)) (pv 2)))))
      (pss_one (ps_ret (pv 1))))), ?_⟩
  walk_at "s0"
  have ow := Own.start H
  walk_at "go"
  refine for_list (xs := (ns.map V.int).reverse) (fun i σ' H' => ∃ u : Option V, σ' = [some (.ref p), some (.int ((ns.reverse.take i).foldl (fun z b => 2 * z + b) 0)), u] ∧ Own H H' [(pL, .lst (ns.map V.int).reverse)]) ⟨_, rfl, ow⟩ (fun i σ' H' hi ⟨u, e, ow⟩ => SqL.of (ow.get 0 rfl)) ?_ ?_
  · rintro i x σ' H1 hx ⟨u, rfl, ow⟩
    rw [← List.map_reverse, List.getElem?_map] at hx
    obtain ⟨v, hv, rfl⟩ := Option.map_eq_some_iff.mp hx
    walk_at "go"
    refine ⟨some (.int v), ?_, ow⟩
    rw [List.take_succ, hv]
    simp
  · rintro σ' H1 ⟨u, rfl, ow⟩
    rw [List.length_reverse, List.length_map, ← List.length_reverse, List.take_length, ← worthL_rev]
    walk_at "go"
    exact q _ ow.toSame_of
end

/-! slices of bits -/
theorem sIx_some {n d : Nat} {i : Int} (h0 : 0 ≤ i) (h1 : i ≤ n) : HT.sIx n d (some i) = i.toNat := by
  show (if i < 0 then (i + (n : Int)).toNat else min i.toNat n) = i.toNat
  rw [if_neg (by omega)]
  omega
theorem cut_bits (b t : Int) {N s e : Nat} {lo hi : Option Int} (hlo : HT.sIx N 0 lo = s) (hhi : HT.sIx N N hi = e) (h : s ≤ e) (he : e ≤ N) : cutV ((bitsL b t N).map V.int) lo hi = ((List.range' s (e - s)).map (fun i => hvs b i t % 2)).map V.int := by
  unfold cutV
  rw [List.length_map, bitsL_len, hlo, hhi, ← List.map_drop, ← List.map_take]
  congr 1
  unfold bitsL
  rw [← List.map_drop, ← List.map_take, List.range_eq_range', List.drop_range', show 0 + s * 1 = s by omega, show N - s = (e - s) + (N - e) by omega, ← List.range'_append_1, List.take_left' (by simp)]
def cSl (K : PySem.W.Frag) (Q : VK) (x : V) (lo hi : Option Int) (H : Hp) : Prop := rSlL K x lo hi H Q
section
variable {K : PySem.W.Frag} {F H : Hp} {L : List (Addr × HO)} {a : Addr} {xs : List V} {Q : VK} {σ : L2.St} {te : TE} {tl th : TO} {lo hi : Option Int}
theorem r_sl (k : te σ H fun x H1 => tl σ H1 fun l H2 => th σ H2 fun u H3 => cSl K Q x l u H3) : tSl (rSlL K) te tl th σ H Q := k
theorem r_nopart {R : Option Int → Hp → Prop} (k : R none H) : tNoPart σ H R := k
theorem o_sl {ns : List Int} (h : Own F H L) (s : SqL K H a xs) (e : cutV xs lo hi = ns.map V.int) (k : ∀ p H', H p = none → Own F H' ((p, .lst (ns.map V.int)) :: L) → Q (.ref p) H') : cSl K Q (.ref a) lo hi H := ⟨a, xs, rfl, s, fun p n => by rw [e]; exact k p _ n (h.new n)⟩
end
set_option hygiene false in
local macro_rules | `(tactic| walk_at "r1") => `(tactic| first
  | with_reducible refine Bs.r_sl ?_
  | with_reducible refine Bs.r_nopart ?_)

/-! the word of a lead and a span -/

theorem pow_nat (n : Nat) : ((2 ^ n : Nat) : Int) = 2 ^ n := by simp
theorem bot_bd (S : Nat) : ((1 : Int) - 2 ^ S).natAbs < 2 ^ (S + 1) := by
  have p := two_pow_pos S
  have e := pow_nat S
  have e2 : 2 ^ (S + 1) = 2 ^ S * 2 := Nat.pow_succ 2 S
  omega
theorem bot_odd {S : Nat} (h : 1 ≤ S) : ((1 : Int) - 2 ^ S) % 2 = 1 := by
  obtain ⟨k, rfl⟩ := Nat.exists_eq_add_of_le h
  rw [Int.pow_add]
  omega
def sp_rep (K : PySem.W.Frag) : Sp := fun vs H Q _ => ∃ (lo ag : Int) (L S : Nat), vs = [.int lo, .int L, .int ag, .int S] ∧ lo.natAbs < 2 ^ 6000 ∧ ag.natAbs < 2 ^ 6000 ∧ L ≤ 6000 ∧ S ≤ 6000 ∧ ∀ r H', H r = none → Same H H' → H' r = some (.tup [.int (lo * (1 - 2 ^ S) + ag * 2 ^ L), .int (1 - 2 ^ S)]) → Q (.ref r) H'
section
variable {P : Program} {w : World} {K : PySem.W.Frag} {mg : Str → Option Value} {base : Heap} {f : Addr} {fd : FuncData}
theorem ok_repeated (F : FnP K "repeated" "repeated" s_repeated f fd) (B : Bi mg)  : FnOk P w K mg base CX0 1 f fd ["low", "lead", "again", "span"] (sp_rep K) := by
  refine F.ok sc_repeated (fun vs H Q E h => by walk_at "len") (fun cdv A outer s H vs Q E hr h => ?_)
  have nd := sc_repeated.nd
  obtain ⟨lo, ag, L, S, rfl, b1, b2, hL, hS, q⟩ := h
  refine ⟨_, PSs.nox (pss_cons (ps_set (i := 4) nd rfl (Or.inl rfl) (pe_op op_sub pe_int (pe_op op_shlW pe_int (pv 3))))
      (pss_one (ps_ret (pe_tup (pa_cons (pe_op op_add (pe_op op_mulO (pv 0) (pv 4)) (pe_op op_shlW (pv 2) (pv 1))) (pa_cons (pv 4) pa_nil)))))), ?_⟩
  walk_at "s0"
  have ow := Own.start H
  have bb := bot_bd S
  have c1 : IntMulOk lo (1 - 1 * 2 ^ ((S : Int)).toNat) := by
    rw [Int.toNat_natCast, Int.one_mul]
    exact mok_w 6000 (S + 1) b1 bb (by omega)
  have c2 : CShl ag (L : Int) := cshl 6000 (by omega) b2 (by omega)
  walk_at "go"
  rw [Int.toNat_natCast, Int.toNat_natCast, Int.one_mul] at ow
  exact q pT H' (ow.new0 g0) ow.toSame_of (ow.get 0 rfl)
end

/-! words of texts of bits -/


theorem for_str {x : Str} {g : TG} {tb : TS} {D : Ends} {σ : L2.St} {H : Hp} (Pv : Nat → L2.St → Hp → Prop) (h0 : Pv 0 σ H)
    (hs : ∀ i c σ H, x.cps[i]? = some c → Pv i σ H → g (.str ⟨#[c]⟩) σ H fun σ2 H2 => tb { D with nx := Pv (i + 1), ct := Pv (i + 1), bk := D.nx } σ2 H2) (hd : ∀ σ H, Pv x.cps.size σ H → D.nx σ H) :
    ∃ W : Nat → Nat → L2.St → Hp → Prop, (∃ m, W 0 m σ H) ∧ ∀ i m σ H, W i m σ H →
      ((Its x).stop i H ∧ D.nx σ H) ∨ ((Its x).go i H ∧ ∃ N : L2.St → Hp → Prop, (∀ σ' H', N σ' H' → ∃ m', m' < m ∧ W (i + 1) m' σ' H') ∧ ∀ y H', (Its x).yld i H y H' → g y σ H' fun σ2 H2 => tb { D with nx := N, ct := N, bk := D.nx } σ2 H2) := by
  refine ⟨fun i m σ H => m = x.cps.size - i ∧ i ≤ x.cps.size ∧ Pv i σ H, ⟨x.cps.size, by simp, Nat.zero_le _, h0⟩, ?_⟩
  rintro i m σ H ⟨rfl, hi, p⟩
  by_cases hlt : i < x.cps.size
  · refine .inr ⟨hlt, Pv (i + 1), fun σ' H' p' => ⟨x.cps.size - (i + 1), by omega, rfl, hlt, p'⟩, fun y H' z => ?_⟩
    obtain ⟨e, c, hc, rfl⟩ := z
    subst e
    exact hs i c σ _ hc p
  · have e : i = x.cps.size := by omega
    subst e
    exact .inl ⟨Nat.le_refl _, hd σ H p⟩
/-- the number of a text's bits -/
def tnum : List Nat → Int
  | [] => 0
  | c :: cs => (if c = 49 then 1 else 0) + 2 * tnum cs
theorem tnum_bd : ∀ l : List Nat, 0 ≤ tnum l ∧ tnum l < 2 ^ l.length
  | [] => by simp [tnum]
  | c :: cs => by
    have h := tnum_bd cs
    rw [List.length_cons, Int.pow_succ]
    show 0 ≤ (if c = 49 then 1 else 0) + 2 * tnum cs ∧ (if c = 49 then 1 else 0) + 2 * tnum cs < _
    split <;> omega
theorem tnum_rev {l : List Nat} {i c : Nat} (h : l.reverse[i]? = some c) : tnum (l.reverse.take (i + 1)).reverse = (if c = 49 then 1 else 0) + 2 * tnum (l.reverse.take i).reverse := by
  rw [List.take_succ, h]
  simp [tnum]
theorem str1 {c d : Nat} : (V.str ⟨#[c]⟩ = V.str ⟨#[d]⟩) ↔ c = d := by
  constructor
  · intro h
    injection h with h
    injection h with h
    simpa using h
  · rintro rfl; rfl
/-- a bit's sign -/
def Bt (c : Nat) : Prop := c = 48 ∨ c = 49
instance (c : Nat) : Decidable (Bt c) := by unfold Bt; infer_instance
theorem inV_bit (c : Nat) : inV (.str ⟨#[c]⟩) [.str (Str.ofString "0"), .str (Str.ofString "1")] = decide (Bt c) := by
  have e0 : (Str.ofString "0") = ⟨#[48]⟩ := by decide +kernel
  have e1 : (Str.ofString "1") = ⟨#[49]⟩ := by decide +kernel
  rw [e0, e1]
  have k : ∀ d : Nat, ((⟨#[d]⟩ : Str) = ⟨#[c]⟩) ↔ c = d := fun d => ⟨fun h => by injection h with h; exact (List.cons.inj (congrArg Array.toList h)).1.symm, fun h => by rw [h]⟩
  show ((decide ((⟨#[48]⟩ : Str) = ⟨#[c]⟩)) || ((decide ((⟨#[49]⟩ : Str) = ⟨#[c]⟩)) || false)) = decide (c = 48 ∨ c = 49)
  rw [Bool.or_false, decide_eq_decide.mpr (k 48), decide_eq_decide.mpr (k 49), Bool.decide_or]
def sp_num : Sp := fun vs H Q _ => ∃ z : Str, vs = [.str z] ∧ z.length ≤ 1000 ∧ Q (.int (tnum z.cps.toList)) H
/-- the word of a lead and a span -/
def fbT (z y : Str) : Int := tnum z.cps.toList * (1 - 2 ^ y.length) + tnum y.cps.toList * 2 ^ z.length
def FbOk (z y : Str) : Prop := (∀ c ∈ z.cps.toList ++ y.cps.toList, Bt c) ∧ 1 ≤ y.length
def sp_fb (C I : Addr) : Sp := fun vs H Q E => ∃ (z y : Str), vs = [.str z, .str y] ∧ z.length ≤ 1000 ∧ y.length ≤ 1000 ∧
  (FbOk z y → ∀ p dW H', H p = none → Same H H' → H' p = some (cw C dW (fbT z y) (1 - 2 ^ y.length)) → Q (.ref p) H') ∧
  (¬ FbOk z y → ∀ d q H', Same H H' → H d = none → H q = none → H' d = some (.xd [("value", .ref q)]) → H' q = some (.tup [.str z, .str y]) → E (.ref I) (some d) H')
def cIs (R : It → Hp → Prop) (v : V) (H1 : Hp) : Prop := ∃ x, v = .str x ∧ R (Its x) H1
section
variable {F H : Hp} {L : List (Addr × HO)} {Q : VK} {E : XK} {te : TE} {σ : L2.St} {R : It → Hp → Prop} {z y : Str} {C I : Addr}
theorem r_iS (k : te σ H (cIs R)) : iStr te σ H R := k
theorem c_iS (k : R (Its z) H) : cIs R (.str z) H := ⟨z, rfl, k⟩
theorem c_num (h : z.length ≤ 1000) (k : Q (.int (tnum z.cps.toList)) H) : sp_num ([.str z] ++ []) H Q E := ⟨z, rfl, h, k⟩
def rLenSt : List V → Hp → VK → Prop := fun xs H Q => ∃ z : Str, xs = [.str z] ∧ z.length ≤ sizeLine ∧ Q (.int z.length) H
theorem cb_lenSt {X : Cx} : CallR X (.builtin "len") rLenSt := call_len_str
theorem r_lenSt (h : z.length ≤ 1000) (k : Q (.int z.length) H) : rLenSt [.str z] H Q := ⟨z, rfl, Nat.le_trans h (by decide), k⟩
def rAddSt : R2 := fun x y H Q => ∃ i j : Str, x = .str i ∧ y = .str j ∧ i.length + j.length ≤ sizeLine ∧ Q (.str (i ++ j)) H
theorem op_addSt {X : Cx} : OpR X (binaryOp .Add) rAddSt := op_add_str
theorem r_addSt (h : z.length ≤ 1000) (g : y.length ≤ 1000) (k : Q (.str (z ++ y)) H) : rAddSt (.str z) (.str y) H Q := ⟨z, y, rfl, rfl, Nat.le_trans (Nat.add_le_add h g) (by decide), k⟩
theorem c_fbP (h : Own F H L) (hz : z.length ≤ 1000) (hy : y.length ≤ 1000) (ok : FbOk z y) (k : ∀ p dW H', H p = none → Own F H' ((p, cw C dW (fbT z y) (1 - 2 ^ y.length)) :: L) → Q (.ref p) H') : sp_fb C I ([.str z, .str y] ++ []) H Q E :=
  ⟨z, y, rfl, hz, hy, fun _ p dW H' n s e => k p dW H' n (h.newS n s e), fun n => absurd ok n⟩
theorem r_niS {K : PySem.W.Frag} {a : Addr} {c : Nat} (s : SqT K H a [.str (Str.ofString "0"), .str (Str.ofString "1")]) (k : Q (.bl (!decide (Bt c))) H) : rIn K true (.str ⟨#[c]⟩) (.ref a) H Q :=
  ⟨a, _, rfl, .inr s, rfl, rfl, by rw [if_pos rfl, inV_bit]; exact k⟩
theorem r_rep (K : PySem.W.Frag) {lo ag : Int} {L1 S : Nat} (h : Own F H L) (b1 : lo.natAbs < 2 ^ 1001) (b2 : ag.natAbs < 2 ^ 1001) (h1 : L1 ≤ 1000) (h2 : S ≤ 1000) (k : ∀ r H', H r = none → Own F H' ((r, .tup [.int (lo * (1 - 2 ^ S) + ag * 2 ^ L1), .int (1 - 2 ^ S)]) :: L) → Q (.ref r) H') : sp_rep K ([.int lo, .int L1, .int ag, .int S] ++ []) H Q E :=
  ⟨lo, ag, L1, S, rfl, Nat.lt_of_lt_of_le b1 (Nat.pow_le_pow_right (by decide) (by decide)), Nat.lt_of_lt_of_le b2 (Nat.pow_le_pow_right (by decide) (by decide)), by omega, by omega, fun r H' n s e => k r H' n (h.newS n s e)⟩
end
theorem str_app {z y : Str} : (z ++ y).cps.toList = z.cps.toList ++ y.cps.toList := by
  show (z.cps ++ y.cps).toList = _
  rw [Array.toList_append]
theorem str_len {z : Str} : z.cps.toList.length = z.length := Array.length_toList
theorem tnum_abs {z : Str} (h : z.length ≤ 1000) : (tnum z.cps.toList).natAbs < 2 ^ 1001 := by
  have b := tnum_bd z.cps.toList
  have p := pow_nat z.cps.toList.length
  have e := str_len (z := z)
  exact Nat.lt_of_lt_of_le (show (tnum z.cps.toList).natAbs < 2 ^ z.cps.toList.length by omega) (Nat.pow_le_pow_right (by decide) (by omega))
set_option hygiene false in
local macro_rules | `(tactic| walk_at "r1") => `(tactic| first
  | with_reducible refine Bs.r_iS ?_
  | with_reducible refine Bs.c_iS ?_
  | with_reducible refine Bs.r_rvS ?_
  | ((with_reducible refine' Bs.o_rvS ?p1 ?_); (case p1 => omega))
  | ((with_reducible refine' Bs.c_num ?p1 ?_); (case p1 => omega))
  | ((with_reducible refine' Bs.r_lenSt ?p1 ?_); (case p1 => omega))
  | ((with_reducible refine' Bs.r_addSt ?p1 ?p2 ?_); (case p1 => omega); (case p2 => omega))
  | ((with_reducible refine' Bs.r_niS ?p1 ?_); (case p1 => walk_at "hq")))
section
variable {P : Program} {w : World} {K : PySem.W.Frag} {mg : Str → Option Value} {base : Heap} {C aInvalidWord f : Addr} {fd : FuncData}
theorem ok_number_of (F : FnP K "number_of" "number_of" s_number_of f fd) (B : Bi mg)  : FnOk P w K mg base CX0 1 f fd ["text"] (sp_num) := by
  refine F.ok sc_number_of (fun vs H Q E h => by walk_at "len") (fun cdv A outer s H vs Q E hr h => ?_)
  have nd := sc_number_of.nd
  obtain ⟨z, rfl, hz, q⟩ := h
  refine ⟨_, PSs.nox (pss_cons (ps_set (i := 1) nd rfl (Or.inl rfl) pe_int)
      (pss_cons (ps_for PassesOwn.never rfl (pi_str (pe_revS (pv 0) (po_some (pe_un un_neg pe_int)))) (pg_name (i := 2) nd rfl (.inl rfl))
      (pss_one (ps_set (i := 1) nd rfl (Or.inl rfl) (pe_op op_add (pe_op op_mulO pe_int (pv 1)) (pe_callTy cb_int1 rfl B.int (by decide +kernel) (pa_cons (pe_cmpR op_eq (pv 2) pe_str (nomark _)) pa_nil))))))
      (pss_one (ps_ret (pv 1))))), ?_⟩
  walk_at "s0"
  have sz : sizeLine = 16777216 := by decide
  walk_at "go"
  refine for_str (x := ⟨z.cps.toList.reverse.toArray⟩) (fun i σ' H' => ∃ u : Option V, σ' = [some (.str z), some (.int (tnum (z.cps.toList.reverse.take i).reverse)), u] ∧ H' = H) ⟨_, rfl, rfl⟩ ?_ ?_
  · rintro i c σ' H1 hc ⟨u, rfl, rfl⟩
    have hc' : z.cps.toList.reverse[i]? = some c := by simpa using hc
    walk_at "go"
    refine ⟨some (.str ⟨#[c]⟩), ?_, rfl⟩
    have e1 : (Str.ofString "1") = ⟨#[49]⟩ := by decide +kernel
    rw [tnum_rev hc', e1]
    have e2 : (if decide (V.str ⟨#[c]⟩ = V.str ⟨#[49]⟩) = true then (1 : Int) else 0) = if c = 49 then 1 else 0 := by simp only [decide_eq_true_eq, str1]
    rw [e2, Int.add_comm]
  · rintro σ' H1 ⟨u, rfl, rfl⟩
    have e : (z.cps.toList.reverse.take (⟨z.cps.toList.reverse.toArray⟩ : Str).cps.size).reverse = z.cps.toList := by rw [List.take_of_length_le (by simp), List.reverse_reverse]
    rw [e]
    walk_at "go"
    exact q
theorem ok_from_bits (F : FnP K "from_bits" "from_bits" s_from_bits f fd) (B : Bi mg) (x_InvalidWord : Xc P w K mg base "InvalidWord" aInvalidWord) (c_repeated : Fo P w K mg base CX0 1 "repeated" ["low", "lead", "again", "span"] (sp_rep K)) (c_number_of : Fo P w K mg base CX0 1 "number_of" ["text"] (sp_num)) (c_Word : WordC P w K mg base C aInvalidWord) : FnOk P w K mg base (L2.CX P w) 6 f fd ["lead", "span"] (sp_fb C aInvalidWord) := by
  refine F.ok sc_from_bits (fun vs H Q E h => by walk_at "len") (fun cdv A outer s H vs Q E hr h => ?_)
  have nd := sc_from_bits.nd
  obtain ⟨z, y, rfl, hz, hy, q1, q2⟩ := h
  have cl := c_Word.cl
  have nT := c_Word.nT
  have nB := c_Word.nB
  refine ⟨_, pss_cons (ps_for (passes_of rfl) rfl (pi_str (pe_op op_addSt (pv 0) (pv 1))) (pg_name (i := 2) nd rfl (.inl rfl))
      (pss_one (ps_if (pt_cmpR op_notIn_seq (pv 2) (pe_tup (pa_cons pe_str (pa_cons pe_str pa_nil))) rfl) (pss_one (ps_rx rfl (takes_of rfl rfl rfl rfl) x_InvalidWord hr (by decide) (pa_cons (pe_tup (pa_cons (pv 0) (pa_cons (pv 1) pa_nil))) pa_nil) (mo_cons (mo_tup (mo_cons mo_var (mo_cons mo_var mo_nil))) mo_nil))) pss_nil)))
      (pss_cons (ps_if (pt_cmpR op_eq (pv 1) pe_str (nomark _)) (pss_one (ps_rx rfl (takes_of rfl rfl rfl rfl) x_InvalidWord hr (by decide) (pa_cons (pe_tup (pa_cons (pv 0) (pa_cons (pv 1) pa_nil))) pa_nil) (mo_cons (mo_tup (mo_cons mo_var (mo_cons mo_var mo_nil))) mo_nil))) pss_nil)
      (pss_cons (ps_asg (pe_fo c_repeated hr (by decide) (pa_cons (pe_fo c_number_of hr (by decide) (pa_cons (pv 0) pa_nil)) (pa_cons (pe_callB cb_lenSt rfl B.len (by decide +kernel) (pa_cons (pv 0) pa_nil)) (pa_cons (pe_fo c_number_of hr (by decide) (pa_cons (pv 1) pa_nil)) (pa_cons (pe_callB cb_lenSt rfl B.len (by decide +kernel) (pa_cons (pv 1) pa_nil)) pa_nil))))) (pg_tup rfl (pgs_cons (pg_name (i := 3) nd rfl (.inl rfl)) (pgs_cons (pg_name (i := 4) nd rfl (.inl rfl)) pgs_nil))))
      (pss_one (ps_ret (pe_W2 c_Word hr (by decide) (fun σ => passAt (takes_of rfl rfl rfl rfl) σ) (pa_cons (pv 3) (pa_cons (pv 4) pa_nil))))))), ?_⟩
  walk_at "s0"
  have ow := Own.start H
  have e0 : (Str.ofString "") = ⟨#[]⟩ := by decide +kernel
  walk_at "go"
  refine for_str (x := z ++ y) (fun i σ' H' => ∃ u : Option V, σ' = [some (.str z), some (.str y), u, none, none] ∧ Own H H' [] ∧ ∀ c ∈ (z.cps.toList ++ y.cps.toList).take i, Bt c) ⟨_, rfl, ow, by simp⟩ ?_ ?_
  · rintro i c σ' H1 hc ⟨u, rfl, ow, hb⟩
    have hc' : (z.cps.toList ++ y.cps.toList)[i]? = some c := by rw [← str_app, Array.getElem?_toList]; exact hc
    walk_at "go"
    · exact q2 (fun k => hc (k.1 c (List.mem_of_getElem? hc'))) dX pT H' ow.toSame_of (ow.new0 g0) (ow.new0 g1) (ow.get 0 rfl) (ow.get 1 rfl)
    · refine ⟨ow.drop, fun d hd => ?_⟩
      rw [List.take_succ, hc'] at hd
      rcases List.mem_append.mp hd with h | h
      · exact hb d h
      · obtain rfl : d = c := by simpa using h
        exact hc
  · rintro σ' H1 ⟨u, rfl, ow, hb⟩
    have hb2 : ∀ c ∈ z.cps.toList ++ y.cps.toList, Bt c := by
      intro c hc
      refine hb c ?_
      rw [← Array.length_toList, str_app, List.take_length]
      exact hc
    walk_at "go"
    · refine q2 (fun k => ?_) dX pT H' ow.toSame_of (ow.new0 g0) (ow.new0 g1) (ow.get 0 rfl) (ow.get 1 rfl)
      injection hc with hc
      have l := k.2
      rw [hc, e0] at l
      exact absurd l (by decide)
    · have yl : 1 ≤ y.length := Nat.pos_of_ne_zero fun z => hc (by
        rw [e0]
        obtain ⟨cs⟩ := y
        rw [Array.eq_empty_of_size_eq_zero (show cs.size = 0 from z)])
      have od := bot_odd yl
      have bb := Nat.lt_of_lt_of_le (bot_bd y.length) (Nat.pow_le_pow_right (show 0 < 2 by decide) (show y.length + 1 ≤ 8000 by omega))
      refine r_rep K ow (tnum_abs hz) (tnum_abs hy) hz hy ?_
      intro pT H' np ow
      walk_at "go"
      exact q1 ⟨hb2, yl⟩ pW dW H' (ow.new0 g0) ow.toSame_of (ow.get 0 rfl)
end

/-! texts of bits: str of an int, "".join -/
def rStrI : List V → Hp → VK → Prop := fun xs H Q => ∃ i, xs = [.int i] ∧ i.natAbs.log2 < 1920 ∧ Q (.str (toString i)) H
theorem cb_strI {X : Cx} : CallR X (.type "str") rStrI := call_str_int
def rJn (K : PySem.W.Frag) : V → List V → Hp → VK → Prop := fun x xs H Q => ∃ a p, ∃ ys : List Str, x = .str a ∧ xs = [.ref p] ∧ (SqL K H p (ys.map V.str) ∨ SqT K H p (ys.map V.str)) ∧ (ys.map (·.length)).sum + ys.length * a.length ≤ 16777216 ∧ Q (.str (Txt.join a ys)) H
theorem pe_joinS {X : Cx} {o e : Expr} {to te : TE} {apos pos : Pos} (ho : PE X o to) (he : PE X e te) (hs : starEach [e] X.env = [(false, eval e X.env)] := by rfl) (hbase : attributeBase o "join" X.env (eval o X.env) = eval o X.env := by rfl) (hline : (apos.endLine == pos.line) = true := by rfl) :
    PE X (.Call (.Attribute o "join" apos) [e] [] pos) (tM1 (rJn X.K) to te) := pe_join ho he hs hbase hline
def cM1 (r : V → List V → Hp → VK → Prop) (te : TE) (σ : L2.St) (Q : VK) (x : V) (H1 : Hp) : Prop := (∃ a, x = .str a) ∧ te σ H1 fun y H2 => r x [y] H2 Q
section
variable {K : PySem.W.Frag} {H : Hp} {Q : VK} {σ : L2.St} {to te : TE} {r : V → List V → Hp → VK → Prop} {a : Str} {p : Addr}
theorem r_m1 (k : to σ H (cM1 r te σ Q)) : tM1 r to te σ H Q := k
theorem c_m1 (k : te σ H fun y H2 => r (.str a) [y] H2 Q) : cM1 r te σ Q (.str a) H := ⟨⟨a, rfl⟩, k⟩
theorem c_join {ys : List Str} (s : SqL K H p (ys.map V.str)) (h1 : ∀ y ∈ ys, y.length ≤ 10) (h2 : ys.length ≤ 10000) (h3 : a.length ≤ 10) (k : Q (.str (Txt.join a ys)) H) : rJn K (.str a) [.ref p] H Q := by
  refine ⟨a, p, ys, rfl, rfl, .inl s, ?_, k⟩
  have m : ∀ zs : List Str, (∀ y ∈ zs, y.length ≤ 10) → (zs.map (·.length)).sum ≤ 10 * zs.length := by
    intro zs
    induction zs with
    | nil => intro _; simp
    | cons z zs ih =>
      intro h
      have h1 := h z List.mem_cons_self
      have h2 := ih fun y hy => h y (List.mem_cons_of_mem _ hy)
      simp only [List.map_cons, List.sum_cons, List.length_cons]
      omega
  have h4 := m ys h1
  have h5 : ys.length * a.length ≤ ys.length * 10 := Nat.mul_le_mul (Nat.le_refl _) h3
  omega
theorem c_strI {i : Int} (h : i.natAbs.log2 < 1920) (k : ∀ s : Str, Q (.str s) H) : rStrI [.int i] H Q := ⟨i, rfl, h, k _⟩
/-- the sign of a bit -/
def bC (b : Int) : Nat := if b = 1 then 49 else 48
def bS (b : Int) : Str := ⟨#[bC b]⟩
theorem c_strB {b : Int} (h : b = 0 ∨ b = 1) (k : Q (.str (bS b)) H) : rStrI [.int b] H Q := by
  have e0 : ((toString (0 : Int) : String) : Str) = bS 0 := by decide +kernel
  have e1 : ((toString (1 : Int) : String) : Str) = bS 1 := by decide +kernel
  rcases h with rfl | rfl
  · exact ⟨0, rfl, by decide, by rw [e0]; exact k⟩
  · exact ⟨1, rfl, by decide, by rw [e1]; exact k⟩
/-- the text of bits -/
def txtB (l : List Int) : Str := ⟨(l.map bC).toArray⟩
theorem txtB_len (l : List Int) : (txtB l).length = l.length := by show ((l.map bC).toArray).size = _; simp
theorem txtB_list (l : List Int) : (txtB l).cps.toList = l.map bC := by simp [txtB]
theorem join_bits' : ∀ l : List Int, Str.join ⟨#[]⟩ (l.map bS) = txtB l
  | [] => rfl
  | [b] => rfl
  | b :: c :: l => by
    have i := join_bits' (c :: l)
    show (bS b ++ (⟨#[]⟩ : Str)) ++ Str.join ⟨#[]⟩ ((c :: l).map bS) = _
    rw [i]
    show (⟨(#[bC b] ++ #[]) ++ ((c :: l).map bC).toArray⟩ : Str) = ⟨((b :: c :: l).map bC).toArray⟩
    simp
theorem join_bits (l : List Int) : Txt.join (Str.ofString "") (l.map bS) = txtB l := by
  have e : (Str.ofString "") = ⟨#[]⟩ := by decide +kernel
  rw [show Txt.join (Str.ofString "") (l.map bS) = Str.join (Str.ofString "") (l.map bS) from StrLaws.glued_eq_join _ _, e, join_bits']
theorem tnum_bits : ∀ l : List Int, (∀ b ∈ l, b = 0 ∨ b = 1) → tnum (l.map bC) = worthL l
  | [], _ => rfl
  | b :: l, h => by
    have i := tnum_bits l fun c hc => h c (List.mem_cons_of_mem _ hc)
    have hb := h b List.mem_cons_self
    show (if bC b = 49 then 1 else 0) + 2 * tnum (l.map bC) = 2 * worthL l + b
    rw [i]
    rcases hb with rfl | rfl
    · show (if (48 : Nat) = 49 then (1 : Int) else 0) + 2 * worthL l = 2 * worthL l + 0
      rw [if_neg (by decide)]
      omega
    · show (if (49 : Nat) = 49 then (1 : Int) else 0) + 2 * worthL l = 2 * worthL l + 1
      rw [if_pos rfl]
      omega
theorem bt_bC (b : Int) : Bt (bC b) := by
  unfold bC Bt
  split
  · exact .inr rfl
  · exact .inl rfl
end
set_option hygiene false in
local macro_rules | `(tactic| walk_at "r1") => `(tactic| first
  | with_reducible refine Bs.r_m1 ?_
  | with_reducible refine Bs.c_m1 ?_
  | ((with_reducible refine' Bs.c_strI ?p1 ?_); (case p1 => assumption); intro sI))

/-! lists put together -/
theorem o_cat {F H : Hp} {L : List (Addr × HO)} {a b : Addr} {xs ys : List V} {i j : Nat} {Q : VK} (h : Own F H L) (e1 : L[i]? = some (a, .lst xs)) (e2 : L[j]? = some (b, .lst ys)) (z : (xs.length + ys.length).ble 1000 = true) (k : ∀ p H', H p = none → Own F H' ((p, .lst (xs ++ ys)) :: L) → Q (.ref p) H') : rCat (.ref a) (.ref b) H Q :=
  ⟨a, b, xs, ys, rfl, rfl, h.get i e1, h.get j e2, Nat.le_trans (Nat.le_of_ble_eq_true z) (by decide), fun p n => k p _ n (h.new n)⟩
set_option hygiene false in
local macro_rules | `(tactic| walk_at "r1") => `(tactic| ((with_reducible refine' Bs.o_cat ?p1 ?p2 ?p3 ?p4 ?_); (case p1 => assumption); (case p2 => walk_at "oi"); (case p3 => walk_at "oi"); (case p4 => exact rfl); intro pL H' np ow; (try dsimp only [List.cons_append, List.nil_append] at ow)))

/-! texts compared with literals -/
theorem i_sF {x z : Str} {A B : Prop} (h : x ≠ z) (k : B) : if decide (V.str x = V.str z) = true then A else B := by rw [if_neg]; exact k; intro e; cases of_decide_eq_true e; exact h rfl
theorem i_sT {x : Str} {A B : Prop} (k : A) : if decide (V.str x = V.str x) = true then A else B := by rw [if_pos (decide_eq_true rfl)]; exact k
set_option hygiene false in
local macro_rules | `(tactic| walk_at "r1") => `(tactic| first
  | with_reducible refine Bs.i_sT ?_
  | ((with_reducible refine' Bs.i_sF ?p1 ?_); (case p1 => decide)))

/-! low bits of a word are those of its fraction -/
theorem low_red {p q : Int} (oq : q % 2 = 1) (n : Nat) : lowS (wB p q) n (wT p q) = lowS q n p := by
  have e1 := wT_mul (t := p) (b := q)
  have e2 := wB_mul (t := p) (b := q)
  have o := odd_of_mul (a := wB p q) (b := wSh p q) (by rw [e2]; exact oq)
  have bd := lowS_bd (wB p q) n (wT p q)
  refine low_is oq ⟨bd.1, bd.2, ?_⟩
  have e := lowS_eq o.1 n (wT p q)
  refine ⟨-(hvs (wB p q) n (wT p q)) * wSh p q, ?_⟩
  generalize lowS (wB p q) n (wT p q) = l at *
  generalize hvs (wB p q) n (wT p q) = h at *
  generalize wSh p q = s at *
  generalize hT : wT p q = t at *
  generalize hB : wB p q = b at *
  clear hT hB bd
  rw [← e1, ← e2, e]
  grind

/-! terms of words: the constructor, fixed, the weight of a word -/





/-- the fields of a term -/
abbrev tfl (s x y : V) : List (Str × V) := [("sign", s), ("first", x), ("second", y)]
theorem tk_ne1 : ¬ (("sign" : Str) = "first") := by decide +kernel
theorem tk_ne2 : ¬ (("sign" : Str) = "second") := by decide +kernel
theorem tk_ne3 : ¬ (("first" : Str) = "second") := by decide +kernel
theorem put_tm (s x y : V) : putF "second" y (putF "first" x (putF "sign" s [])) = tfl s x y := by
  have e1 : putF "sign" s [] = [(("sign" : Str), s)] := rfl
  have e2 : putF "first" x [(("sign" : Str), s)] = [(("sign" : Str), s), ("first", x)] := by
    show (if ("sign" : Str) = "first" then [(("sign" : Str), x)] else (("sign" : Str), s) :: putF "first" x []) = _
    rw [if_neg tk_ne1]
    rfl
  rw [e1, e2]
  show (if ("sign" : Str) = "second" then _ else (("sign" : Str), s) :: putF "second" y [("first", x)]) = _
  rw [if_neg tk_ne2]
  show (("sign" : Str), s) :: (if ("first" : Str) = "second" then _ else (("first" : Str), x) :: putF "second" y []) = _
  rw [if_neg tk_ne3]
  rfl
theorem tfl_s (s x y : V) : (tfl s x y).lookup ("sign" : Str) = some s := by simp [List.lookup]
theorem tfl_f (s x y : V) : (tfl s x y).lookup ("first" : Str) = some x := by
  have : (("first" : Str) == "sign") = false := by decide +kernel
  simp [List.lookup, this]
theorem tfl_d (s x y : V) : (tfl s x y).lookup ("second" : Str) = some y := by
  have h1 : (("second" : Str) == "sign") = false := by decide +kernel
  have h2 : (("second" : Str) == "first") = false := by decide +kernel
  simp [List.lookup, h1, h2]
/-- an own class with a plain constructor -/
structure ClC (P : Program) (w : World) (K : PySem.W.Frag) (mg : Str → Option Value) (base : Heap) (x : Str) (C : Addr) (k : Nat) (ps : List Str) (sp : Sp) : Prop where
  gC : mg x = some (.ref C)
  ex : ∃ (f : Addr) (fd : FuncData), Mk K C f ∧ FnOk P w K mg base CX0 k f fd ps sp ∧ Cb K fd ps ps.length [] gPos
section
variable {X : Cx} {x : Str} {C : Addr} {j k : Nat} {ps : List Str} {sp : Sp} {p pos : Pos} {e : Expr} {es : List Expr} {ta : TA} {n : Str}
theorem pe_mkC (c : ClC X.prog X.w X.K X.mg X.base x C k (n :: ps) sp) (hr : Room j X.A) (hj : k + 1 ≤ j) (ha : PA X (e :: es) ta) (hg : Gl X x := by rfl)
    (hall : (backToKw pos (keywordEach [] X.env)).all (·.1.isSome) = true := by rfl) (hks : (backToKw pos (keywordEach [] X.env)).filterMap (·.1) = [] := by rfl)
    (hdb : (x == ("__debug__" : Str)) = false := by decide) (he : starEach (e :: es) X.env = (false, eval e X.env) :: starEach es X.env := by rfl)
    (hpl : ((backTo pos (starEach (e :: es) X.env)).any (·.1) || (backToKw pos (keywordEach [] X.env)).any (·.1.isNone)) = false := by rfl) :
    PE X (.Call (.Name x p) (e :: es) [] pos) (tMkS C ps.length 0 sp gPos (fun _ => E0) ta tNil) := by
  obtain ⟨f, fd, M, F, b⟩ := c.ex
  exact pe_mkS (n := ps.length) M F (hr.mono hj) c.gC b (fun _ => psE0) ha pk_nil hg hall hks hdb he hpl
end
theorem clC_of {P : Program} {w : World} {K : PySem.W.Frag} {h base : Heap} {mg : Str → Option Value} {x : Str} {k : Nat} {fd : FuncData} {ps : List Str} {sp : Sp} (X : K.In h) (G : h.Ns mainGlobals mg) (g : qGlo x K = true) (m : qMkr x K = true)
    (ok : FnOk P w K mg base CX0 k (He.ma K (He.ga K x) "__init__") fd ps sp) (b : Binds K fd ps []) : ClC P w K mg base x (He.ga K x) k ps sp := ⟨He.glo_ok X G g, _, fd, He.mkr_ok m, ok, cb_pos b⟩
def sp_Term_init (CT : Addr) : Sp := fun vs H Q _ => ∃ (p dx : Addr) (s x y : V), vs = [.ref p, s, x, y] ∧ H p = some (.ins CT dx []) ∧ ∀ H', Mut p (.ins CT dx (tfl s x y)) H H' → Q .non H'
theorem cMk_T {CT : Addr} {Q : VK} {E : XK} {s x y : V} {F H : Hp} {L : List (Addr × HO)} (h : Own F H L) (k : ∀ p dT H', H p = none → Own F H' ((p, .ins CT dT (tfl s x y)) :: L) → Q (.ref p) H') : cMk CT 3 0 (sp_Term_init CT) gPos Q E [s, x, y] [] H :=
  ⟨rfl, rfl, fun p dx n1 n2 ne => by
    have s1 : Same H (upd (upd H dx (.own p)) p (.ins CT dx [])) := fun c o e => by rw [upd_ne (ne_of_none e n1), upd_ne (ne_of_none e n2)]; exact e
    exact ⟨p, dx, s, x, y, rfl, upd_same, fun H' m => ⟨rfl, k p dx H' n1 (h.newS n1 (fun c o e => m.keep c o (ne_of_none e n1) (s1 c o e)) m.here)⟩⟩⟩
/-- a reading of a constructor's call -/
theorem r_mkC {C : Addr} {n m : Nat} {sp : Sp} {gV : List V → List V → List V} {E : L2.St → XK} {t : TA} {σ : L2.St} {H : Hp} {Q : VK} (k : t σ H fun vs H1 => cMk C n m sp gV Q (E σ) vs [] H1) : tMkS C n m sp gV E t tNil σ H Q := k
/-- a part that no call of these laws reaches -/
def spF : Sp := fun _ _ _ _ => False
/-- the term of a word -/
abbrev tw (CT d r : Addr) : HO := .ins CT d (tfl (.str "word") (.ref r) .non)
def sp_fixed (CT : Addr) : Sp := fun vs H Q _ => ∃ r : Addr, vs = [.ref r] ∧ ∀ p d H', H p = none → Same H H' → H' p = some (tw CT d r) → Q (.ref p) H'
def sp_wtW (C CT : Addr) : Sp := fun vs H Q _ => ∃ (a d r dw : Addr) (t b : Int), vs = [.ref a] ∧ H a = some (tw CT d r) ∧ H r = some (.ins C dw (wfl t b)) ∧ 0 < b ∧ b % 2 = 1 ∧ ∀ L S : Nat, IsLead b t L → IsSpan b S → Q (.int (L + S)) H
section
variable {F H : Hp} {L : List (Addr × HO)} {C CT a d r dw : Addr} {t b : Int} {Q : VK} {E : XK} {N S : Nat}
theorem c_fixed (h : Own F H L) (k : ∀ p d H', H p = none → Own F H' ((p, tw CT d r) :: L) → Q (.ref p) H') : sp_fixed CT ([.ref r] ++ []) H Q E := ⟨r, rfl, fun p d H' n s e => k p d H' n (h.newS n s e)⟩
theorem c_wtW (e : H a = some (tw CT d r)) (ew : H r = some (.ins C dw (wfl t b))) (pb : 0 < b) (ob : b % 2 = 1) (hL : IsLead b t N) (hS : IsSpan b S) (k : Q (.int (N + S)) H) : sp_wtW C CT [.ref a] H Q E :=
  ⟨a, d, r, dw, t, b, rfl, e, ew, pb, ob, fun n m h1 h2 => by rw [isLead_uniq h1 hL, isSpan_uniq h2 hS]; exact k⟩
end
set_option hygiene false in
local macro_rules | `(tactic| walk_at "lk") => `(tactic| first | exact Bs.tfl_s _ _ _ | exact Bs.tfl_f _ _ _ | exact Bs.tfl_d _ _ _)
set_option hygiene false in
local macro_rules | `(tactic| walk_at "r1") => `(tactic| first
  | with_reducible refine Bs.r_mkC ?_
  | ((with_reducible refine' Bs.cMk_T ?p1 ?_); (case p1 => assumption); intro pM dM H' np ow)
  | ((with_reducible refine' Bs.c_fixed ?p1 ?_); (case p1 => assumption); intro pM dM H' np ow)
  | ((with_reducible refine' Bs.c_wtW ?p1 ?p2 ?p3 ?p4 ?p5 ?p6 ?_); (case p1 => walk_at "hx"); (case p2 => walk_at "hx"); (case p3 => assumption); (case p4 => assumption); (case p5 => with_reducible assumption); (case p6 => with_reducible assumption)))
section
variable {P : Program} {w : World} {K : PySem.W.Frag} {mg : Str → Option Value} {base : Heap} {C CT f : Addr} {fd : FuncData}
theorem ok_Term___init__ (F : FnP K "__init__" "Term.__init__" s_Term___init__ f fd) (B : Bi mg) (clT : Cls K CT) (nTs : NoAttr K CT "sign") (nTf : NoAttr K CT "first") (nTd : NoAttr K CT "second") : FnOk P w K mg base CX0 1 f fd ["self", "sign", "first", "second"] (sp_Term_init CT) := by
  refine F.ok sc_Term___init__ (fun vs H Q E h => by walk_at "len") (fun cdv A outer s H vs Q E hr h => ?_)
  have nd := sc_Term___init__.nd
  obtain ⟨p, dx, s, x, y, rfl, hp, q⟩ := h
  refine ⟨_, PSs.nox (pss_cons (ps_fld (pv 0) (pv 1) rfl)
      (pss_cons (ps_fld (pv 0) (pv 2) rfl)
      (pss_one (ps_fld (pv 0) (pv 3) rfl)))), ?_⟩
  walk_at "s0"
  have ow := Own.take1 hp
  walk_at "go"
  rw [put_tm] at ow
  exact q H' (ow.mut_of g0)
theorem ok_fixed (F : FnP K "fixed" "fixed" s_fixed f fd) (B : Bi mg) (c_Term : ClC P w K mg base "Term" CT 1 ["self", "sign", "first", "second"] (sp_Term_init CT)) : FnOk P w K mg base CX0 3 f fd ["word"] (sp_fixed CT) := by
  refine F.ok sc_fixed (fun vs H Q E h => by walk_at "len") (fun cdv A outer s H vs Q E hr h => ?_)
  have nd := sc_fixed.nd
  obtain ⟨r, rfl, q⟩ := h
  refine ⟨_, PSs.nox (pss_one (ps_ret (pe_mkC c_Term hr (by decide) (pa_cons pe_str (pa_cons (pv 0) (pa_cons pe_non pa_nil)))))), ?_⟩
  walk_at "s0"
  have ow := Own.start H
  walk_at "go"
  exact q pM dM H' (ow.new0 g0) ow.toSame_of (ow.get 0 rfl)
theorem ok_parts_of (F : FnP K "parts_of" "parts_of" s_parts_of f fd) (B : Bi mg) : FnOk P w K mg base CX0 1 f fd ["term"] spF :=
  F.ok sc_parts_of (fun vs H Q E h => h.elim) (fun cdv A outer s H vs Q E hr h => h.elim)
theorem ok_weight_rec (F : FnP K "weight_of" "weight_of" s_weight_of f fd) : FnOk P w K mg base CX0 1 f fd ["term"] spF :=
  F.ok sc_weight_of (fun vs H Q E h => h.elim) (fun cdv A outer s H vs Q E hr h => h.elim)
theorem ok_weight_of (F : FnP K "weight_of" "weight_of" s_weight_of f fd) (B : Bi mg) (p_lead : PrC P w K mg base CX0 C "lead" 2 (sp_plead C)) (p_span : PrC P w K mg base CX0 C "span" 2 (sp_pspan C)) (c_parts_of : Fo P w K mg base CX0 1 "parts_of" ["term"] (spF)) (c_weight_rec : Fo P w K mg base CX0 1 "weight_of" ["term"] spF) (clT : Cls K CT) (nTs : NoAttr K CT "sign") (nTf : NoAttr K CT "first") (nTd : NoAttr K CT "second") : FnOk P w K mg base CX0 4 f fd ["term"] (sp_wtW C CT) := by
  refine F.ok sc_weight_of (fun vs H Q E h => by walk_at "len") (fun cdv A outer s H vs Q E hr h => ?_)
  have nd := sc_weight_of.nd
  obtain ⟨a, d, r, dw, t, b, rfl, ea, er, pb, ob, q⟩ := h
  refine ⟨_, PSs.nox (pss_cons (ps_if (pt_cmpR op_eq (pe_fld (pv 0) rfl) pe_str (nomark _)) (pss_one (ps_ret pe_int)) pss_nil)
      (pss_cons (ps_if (pt_cmpR op_eq (pe_fld (pv 0) rfl) pe_str (nomark _)) (pss_one (ps_ret (pe_op op_add (pe_wp p_lead hr (by decide) (pe_fld (pv 0) rfl)) (pe_wp p_span hr (by decide) (pe_fld (pv 0) rfl))))) pss_nil)
      (pss_cons (ps_set (i := 1) nd rfl (Or.inl rfl) (pe_ifExp (pt_cmpR op_in_seq (pe_fld (pv 0) rfl) (pe_tup (pa_cons pe_str (pa_cons pe_str pa_nil))) rfl) pe_int pe_int))
      (pss_cons (ps_for PassesOwn.never rfl (pi_list (pe_fo c_parts_of hr (by decide) (pa_cons (pv 0) pa_nil))) (pg_name (i := 2) nd rfl (.inl rfl))
      (pss_one (ps_set (i := 1) nd rfl (Or.inl rfl) (pe_op op_mulO (pv 1) (pe_fo c_weight_rec hr (by decide) (pa_cons (pv 2) pa_nil))))))
      (pss_cons (ps_if (pt_cmpR op_eq (pe_fld (pv 0) rfl) pe_str (nomark _)) (pss_one (ps_ret (pe_op op_mulO (pv 1) (pe_op op_add pe_int (pe_callB cb_abs rfl B.abs (by decide +kernel) (pa_cons (pe_fld (pv 0) rfl) pa_nil)))))) pss_nil)
      (pss_one (ps_ret (pe_ifExp (pt_cmpR op_eq (pe_fld (pv 0) rfl) pe_str (nomark _)) (pe_op op_shlW (pv 1) (pe_fld (pv 0) rfl)) (pv 1))))))))), ?_⟩
  walk_at "s0"
  have ow := Own.start H
  walk_at "go"
  exact q _ _ hL hS
theorem ok_Term_weight (F : FnP K "weight" "Term.weight" s_Term_weight f fd) (B : Bi mg) (c_weight_of : Fo P w K mg base CX0 4 "weight_of" ["term"] (sp_wtW C CT)) : FnOk P w K mg base CX0 5 f fd ["self"] (sp_wtW C CT) := by
  refine F.ok sc_Term_weight (fun vs H Q E h => by walk_at "len") (fun cdv A outer s H vs Q E hr h => ?_)
  have nd := sc_Term_weight.nd
  obtain ⟨a, d, r, dw, t, b, rfl, ea, er, pb, ob, q⟩ := h
  refine ⟨_, PSs.nox (pss_one (ps_ret (pe_fo c_weight_of hr (by decide) (pa_cons (pv 0) pa_nil)))), ?_⟩
  walk_at "s0"
  exact ⟨.ref a, rfl, a, d, r, dw, t, b, rfl, ea, er, pb, ob, q⟩
end

/-! readings within a block or a suite -/
theorem ixL_K {X : Cx} {K : PySem.W.Frag} (h : X.K = K) : IxR X (rIxL K) := h ▸ ix_list
theorem isi_K {X : Cx} {K : PySem.W.Frag} (h : X.K = K) : CallR X (.builtin "isinstance") (rIsi K) := h ▸ call_isi

/-! k09: texts, words of texts caught, what is due -/



instance fbDec (z y : Str) : Decidable (FbOk z y) := by unfold FbOk; infer_instance
/-- a text of few plain signs -/
structure T9 (z : Str) : Prop where
  l : z.length ≤ 200
  a : ∀ c ∈ z.cps.toList, c < 1000
theorem t9_bits {l : List Int} (h : l.length ≤ 200) : T9 (txtB l) := ⟨by rw [txtB_len]; exact h, fun c hc => by
  rw [txtB_list] at hc
  obtain ⟨b, _, rfl⟩ := List.mem_map.mp hc
  unfold bC
  split <;> decide⟩
theorem rp_str {z : Str} (h : T9 z) : Rp 0 300 (.str z) := by
  refine ⟨?_, ?_, ?_, ?_, ?_⟩
  · simp [PyData.showable]
  · simp [PyData.hasDict]
  · simp [PyData.depth]
  · simp only [PyData.leavesShort, List.all_eq_true, decide_eq_true_eq]
    exact fun c hc => Nat.lt_of_lt_of_le (h.a c hc) (by decide)
  · have := h.l
    have e : z.cps.size = z.length := rfl
    simp only [PyData.weight]
    omega
theorem rq_str {k m : Nat} {z : Str} (h : T9 z) (hm : Nat.ble 300 m = true) : Rp k m (.str z) := (rp_str h).mono (Nat.zero_le _) (Nat.le_of_ble_eq_true hm)
/-- what is due -/
def d9 (z y : Str) : PyData := if FbOk z y then .list [.int (wT (fbT z y) (1 - 2 ^ y.length)), .int (wB (fbT z y) (1 - 2 ^ y.length))] else .list [.bool true, .tuple [.str z, .str y]]
theorem tnum_lt {z : Str} (h : z.length ≤ 200) : (tnum z.cps.toList).natAbs < 2 ^ 200 := by
  have b := tnum_bd z.cps.toList
  have p := pow_nat z.cps.toList.length
  have e := str_len (z := z)
  exact Nat.lt_of_lt_of_le (show (tnum z.cps.toList).natAbs < 2 ^ z.cps.toList.length by omega) (Nat.pow_le_pow_right (by decide) (by omega))
theorem bot_lt {S : Nat} (h : S ≤ 200) : ((1 : Int) - 2 ^ S).natAbs < 2 ^ 201 := Nat.lt_of_lt_of_le (bot_bd S) (Nat.pow_le_pow_right (by decide) (by omega))
theorem pow_lt9 {S : Nat} (h : S ≤ 200) : ((2 : Int) ^ S).natAbs < 2 ^ 201 := by
  rw [Int.natAbs_pow]
  exact Nat.pow_lt_pow_right (by decide) (by omega)
theorem fbT_bd {z y : Str} (hz : T9 z) (hy : T9 y) : (fbT z y).natAbs < 2 ^ 402 :=
  addW 401 (mulW 200 201 (tnum_lt hz.l) (bot_lt hy.l)) (mulW 200 201 (tnum_lt hy.l) (pow_lt9 hz.l))
theorem fb_bd {z y : Str} (hz : T9 z) (hy : T9 y) (ok : FbOk z y) : Bd 402 (fbT z y) (1 - 2 ^ y.length) :=
  ⟨ok_odd (bot_odd ok.2), fbT_bd hz hy, Nat.lt_of_lt_of_le (bot_lt hy.l) (Nat.pow_le_pow_right (by decide) (by decide))⟩
theorem rp_d9 {z y : Str} (hz : T9 z) (hy : T9 y) : Rp 60 27000 (d9 z y) := by
  unfold d9
  split
  · rename_i ok
    have b := fb_bd hz hy ok
    refine rq_list (by simp) (by simp) (rpl_cons ?_ (rpl_cons ?_ rpl_nil))
    · exact (rp_intS 402 (Nat.lt_of_le_of_lt (wT_le b.ne) b.p1) (by decide) (by decide)).mono (Nat.zero_le _) (by simp)
    · exact (rp_intS 402 (Nat.lt_of_le_of_lt (wB_le b.ne) b.q1) (by decide) (by decide)).mono (Nat.zero_le _) (by simp)
  · refine rq_list (by simp) (by simp) (rpl_cons (rq_bl (by simp)) (rpl_cons (rq_tup (by simp) (by simp) (rpl_cons (rq_str hz (by simp)) (rpl_cons (rq_str hy (by simp)) rpl_nil))) rpl_nil))
def sp_text9 : Sp := fun vs H Q _ => ∃ (a : Addr) (x y z m : Int), vs = [.ref a, .int m] ∧ H a = some (wl x y z) ∧ WOk y z ∧ z + 70 ≤ 1000000 ∧ 0 ≤ m ∧ m ≤ 60 ∧
  ∀ (l : List Int) x' z' H', l.length = m.toNat → (∀ b ∈ l, b = 0 ∨ b = 1) → z ≤ z' → z' ≤ z + 70 → Mut a (wl x' y z') H H' → Q (.str (txtB l)) H'
def sp_caught9 (K : PySem.W.Frag) : Sp := fun vs H Q _ => ∃ (z y : Str) (m : Int), vs = [.str z, .str y, .int m] ∧ T9 z ∧ T9 y ∧ ∀ r H', H r = none → Same H H' → Dp K H' (.ref r) (d9 z y) → Q (.ref r) H'
def sp_due9 (K : PySem.W.Frag) : Sp := fun vs H Q _ => ∃ (z y : Str), vs = [.str z, .str y] ∧ T9 z ∧ T9 y ∧ ∀ r H', H r = none → Same H H' → Dp K H' (.ref r) (d9 z y) → Q (.ref r) H'
theorem at3 {v m : Int} (h0 : 0 ≤ v) (h1 : v < 3) (m0 : 0 ≤ m) (m1 : m ≤ 60) : ∃ N : Int, atI [V.int m, V.int 1, V.int 3] v = some (.int N) ∧ 0 ≤ N ∧ N ≤ 63 ∧ (0 < m → 0 < N) := by
  have : v = 0 ∨ v = 1 ∨ v = 2 := by omega
  rcases this with rfl | rfl | rfl
  · exact ⟨m, rfl, by omega, by omega, fun h => h⟩
  · exact ⟨1, rfl, by omega, by omega, fun h => by omega⟩
  · exact ⟨3, rfl, by omega, by omega, fun h => by omega⟩
section
variable {F H : Hp} {L : List (Addr × HO)} {C I a : Addr} {z y : Str} {Q : VK} {E : XK} {K : PySem.W.Frag} {m : Int}
theorem c_fbN (h : Own F H L) (hz : z.length ≤ 1000) (hy : y.length ≤ 1000) (no : ¬ FbOk z y) (k : ∀ d q H', Own F H' ((d, .xd [("value", .ref q)]) :: (q, .tup [.str z, .str y]) :: L) → E (.ref I) (some d) H') : sp_fb C I ([.str z, .str y] ++ []) H Q E :=
  ⟨z, y, rfl, hz, hy, fun ok => absurd ok no, fun _ d q H' s n1 n2 e1 e2 => k d q H' (by
    have nq : d ≠ q := ne_of e1 e2 (fun z => by cases z)
    have w1 := h.newS n2 s e2
    exact w1.newAt (h.fresh n1) e1 (fun i a o e z => by
      cases i with
      | zero => simp at e; exact nq (z.trans e.1.symm)
      | succ i =>
        have := (h.own i a o (by simpa using e)).1
        rw [← z, n1] at this
        cases this))⟩
theorem notIn_K {X : Cx} {K : PySem.W.Frag} (h : X.K = K) : OpR X (compareOp .NotIn) (rIn K true) := h ▸ op_notIn_seq
theorem txtB_app (l k : List Int) : txtB l ++ txtB k = txtB (l ++ k) := by
  show (⟨(l.map bC).toArray ++ (k.map bC).toArray⟩ : Str) = ⟨((l ++ k).map bC).toArray⟩
  simp
/-- int of a bit's sign -/
def rIntS : List V → Hp → VK → Prop := fun xs H Q => ∃ a n, xs = [.str a] ∧ PySem.intText? a = some n ∧ a.length ≤ 640 ∧ Q (.int n) H
theorem cb_intS {X : Cx} : CallR X (.type "int") rIntS := call_int_str
theorem c_intB {c : Nat} (h : Bt c) (k : Q (.int (if c = 49 then 1 else 0)) H) : rIntS [.str ⟨#[c]⟩] H Q := by
  have e0 : PySem.intText? ⟨#[48]⟩ = some 0 := by decide +kernel
  have e1 : PySem.intText? ⟨#[49]⟩ = some 1 := by decide +kernel
  rcases h with rfl | rfl
  · exact ⟨_, 0, rfl, e0, by decide, k⟩
  · exact ⟨_, 1, rfl, e1, by decide, k⟩
/-- the bits of a text -/
def bitsZ (z : Str) : List Int := z.cps.toList.map fun c => if c = 49 then 1 else 0
theorem worth_bitsZ (z : Str) : worthL (bitsZ z) = tnum z.cps.toList := by
  unfold bitsZ
  induction z.cps.toList with
  | nil => rfl
  | cons c l i =>
    show 2 * worthL (l.map fun c => if c = 49 then 1 else 0) + (if c = 49 then 1 else 0) = (if c = 49 then 1 else 0) + 2 * tnum l
    rw [i]
    omega
end
theorem all_take {l : List Nat} {i c : Nat} (h : l[i]? = some c) : (∀ d ∈ l.take (i + 1), Bt d) ↔ (∀ d ∈ l.take i, Bt d) ∧ Bt c := by
  rw [List.take_succ, h]
  constructor
  · intro g
    exact ⟨fun d hd => g d (List.mem_append_left _ hd), g c (List.mem_append_right _ (by simp))⟩
  · rintro ⟨g1, g2⟩ d hd
    rcases List.mem_append.mp hd with z | z
    · exact g1 d z
    · obtain rfl : d = c := by simpa using z
      exact g2
theorem dpa_rep {K : PySem.W.Frag} {H : Hp} : ∀ m : Nat, DpAll K H (List.replicate m (V.int 1)) (List.replicate m (PyData.int 1))
  | 0 => .nil
  | m + 1 => .cons (.int 1) (dpa_rep m)
theorem lay_rep : ∀ m : Nat, PyData.canLayAll0 (List.replicate m (PyData.int 1)) = true
  | 0 => by simp [PyData.canLayAll0]
  | m + 1 => by rw [List.replicate_succ]; simp only [PyData.canLayAll0, PyData.canLay0, lay_rep m, Bool.and_self]
theorem dep_rep : ∀ m : Nat, PyData.depthAll (List.replicate m (PyData.int 1)) = 0
  | 0 => by simp [PyData.depthAll]
  | m + 1 => by rw [List.replicate_succ]; simp only [PyData.depthAll, PyData.depth, dep_rep m, Nat.max_self]
theorem r_neE {K : PySem.W.Frag} {H : Hp} {D p : Addr} {m : Nat} {Q : VK} (e1 : H D = some (.lst (List.replicate m (.int 1)))) (e2 : H p = some (.lst [])) (k : Q (.bl (!decide (m = 0))) H) : rNeD K (.ref D) (.ref p) H Q := by
  refine ⟨.list (List.replicate m (.int 1)), .list [], dp_lst e1 (dpa_rep m), dp_lst e2 .nil, ?_, rfl, ?_⟩
  · unfold SeqAt.shaped
    simp only [PyData.canLay0, lay_rep m, PyData.depth, dep_rep m, Bool.true_and]
    decide
  · have e : PyData.eqv (.list (List.replicate m (.int 1))) (.list []) = decide (m = 0) := by
      cases m <;> simp [PyData.eqv, PyData.eqvAll, List.replicate_succ]
    rw [e]
    exact k
/-- the ints of a text's signs -/
theorem c_lcInt {F H : Hp} {L : List (Addr × HO)} {σ : L2.St} {Q : VK} {j : Nat} {z : Str} (h : Own F H L) (hz : ∀ c ∈ z.cps.toList, Bt c) (hl : z.length ≤ 1000) (hj : ∀ v : V, wipe ((wipe σ [j]).set j (some v)) [j] = wipe σ [j]) (hs : ∀ v : V, ((wipe σ [j]).set j (some v))[j]? = some (some v))
    (k : ∀ D H', H D = none → Own F H' ((D, .lst ((bitsZ z).map V.int)) :: L) → Q (.ref D) H') : cLc (gName j) tYes (tCB rIntS (tCons (tVar j) tNil)) [j] σ Q (Its z) H := by
  refine c_lcJ z.cps.size (by have : z.cps.size = z.length := rfl; omega) hj (fun D i acc H' => Own F H' ((D, .lst acc) :: L) ∧ acc = ((bitsZ z).take i).map V.int) (fun D nD => ⟨h.new nD, by simp⟩) ?_ ?_ ?_ ?_
  · rintro D i acc H1 ⟨ow, rfl⟩ hi
    exact hi
  · rintro D acc H1 ⟨ow, rfl⟩
    exact Nat.le_refl _
  · rintro D i acc H1 x H2 R hi la ⟨ow, rfl⟩ ⟨rfl, c, hc1, rfl⟩ hR
    have hc' : z.cps.toList[i]? = some c := by rw [Array.getElem?_toList]; exact hc1
    refine ⟨.str ⟨#[c]⟩, hs _, ?_⟩
    refine c_intB (hz c (List.mem_of_getElem? hc')) ?_
    refine hR _ _ (ow.get 0 rfl) ⟨ow.put 0 rfl, ?_⟩
    have e : (bitsZ z)[i]? = some (if c = 49 then 1 else 0) := by unfold bitsZ; rw [List.getElem?_map, hc']; rfl
    rw [List.take_succ, e]
    simp
  · rintro D acc H1 nD ⟨ow, rfl⟩ la
    rw [List.take_of_length_le (show (bitsZ z).length ≤ z.cps.size by unfold bitsZ; rw [List.length_map, str_len]; exact Nat.le_refl _)] at ow
    exact k D H1 nD ow
set_option hygiene false in
local macro_rules | `(tactic| walk_at "r1") => `(tactic| first
  | ((with_reducible refine' Bs.c_lcInt ?p1 ?p2 ?p3 ?p4 ?p5 ?_); (case p1 => assumption); (case p2 => assumption); (case p3 => omega); (case p4 => exact fun _ => rfl); (case p5 => exact fun _ => rfl); intro pL H' np ow)
  | ((with_reducible refine' Bs.c_fbP ?p1 ?p2 ?p3 ?p4 ?_); (case p1 => assumption); (case p2 => omega); (case p3 => omega); (case p4 => assumption); intro pW dW H' np ow)
  | ((with_reducible refine' Bs.c_fbN ?p1 ?p2 ?p3 ?p4 ?_); (case p1 => assumption); (case p2 => omega); (case p3 => omega); (case p4 => assumption); intro dX pT H' ow))
section
variable {P : Program} {w : World} {K : PySem.W.Frag} {mg : Str → Option Value} {base : Heap} {C aInvalidWord aBitError f : Addr} {fd : FuncData}
theorem ok__law_text (F : FnP K "_law_text" "_law_text" s__law_text f fd) (B : Bi mg) (c__law_take : Fo P w K mg base CX0 1 "_law_take" ["_law_well_here", "_law_many"] (sp_take)) : FnOk P w K mg base CX0 2 f fd ["_law_well_here", "_law_size"] (sp_text9) := by
  refine F.ok sc__law_text (fun vs H Q E h => by walk_at "len") (fun cdv A outer s H vs Q E hr h => ?_)
  have nd := sc__law_text.nd
  obtain ⟨a, x, y, z, m, rfl, ha, wk, hz, m0, m1, q⟩ := h
  refine ⟨_, PSs.nox (pss_cons (ps_par (i := 2) (j := 3) rfl nd rfl rfl (by decide) rfl rfl (pa_cons (pe_fo c__law_take hr (by decide) (pa_cons (pv 0) (pa_cons pe_int pa_nil))) (pa_cons pe_str pa_nil)) rfl)
      (pss_cons (ps_setLc (i := 4) (own := [("_law_turn", 5)]) (g := gName 5) (tt := tYes) (by rfl) nd rfl rfl (sw_true rfl rfl rfl rfl) (pi_range1 rfl B.range (pa_cons (pe_ix ix_list (pe_lst (pa_cons (pv 1) (pa_cons pe_int (pa_cons pe_int pa_nil)))) (pv 2) (fun _ _ => rfl)) pa_nil)) (blkOk_by (own := [("_law_turn", 5)]) (N := ["_law_well_here", "_law_size", "_law_way", "_law_found", "_law_part", "_law_turn", "_law_place"]) (sc := defScope s__law_text) (by decide +kernel)) (fun _ _ _ _ _ => pg_name (i := 5) nd rfl (Or.inl rfl)) (fun _ _ _ _ _ => pts_nil) (fun _ _ _ _ _ => (pe_fo c__law_take hr (by decide) (pa_cons (pv 0) (pa_cons pe_int pa_nil)))))
      (pss_cons (ps_for PassesOwn.never rfl (pi_range1 rfl B.range (pa_cons (pv 1) pa_nil)) (pg_name (i := 6) nd rfl (.inl rfl))
      (pss_one (ps_set (i := 3) nd rfl (Or.inl rfl) (pe_op op_addSt (pv 3) (pe_callTy cb_strI rfl B.str (by decide +kernel) (pa_cons (pe_ix ix_list (pv 4) (pe_op op_mod (pe_callTy cb_int1 rfl B.int (by decide +kernel) (pa_cons (pv 6) pa_nil)) (pe_callB cb_len rfl B.len (by decide +kernel) (pa_cons (pv 4) pa_nil))) (fun _ _ => rfl)) pa_nil))))))
      (pss_one (ps_ret (pv 3)))))), ?_⟩
  walk_at "s0"
  have ow := Own.take1 ha
  walk_at "go"
  obtain ⟨N, hN, N0, N1, N2⟩ := at3 v0 v1 m0 m1
  refine r_lc ?_
  walk_at "go"
  refine c_lcJ N.toNat (by omega) (fun _ => rfl) (fun D i acc H' => ∃ (x' z' : Int) (l : List Int), acc = l.map V.int ∧ l.length = i ∧ (∀ b ∈ l, b = 0 ∨ b = 1) ∧ WOk y z' ∧ zw ≤ z' ∧ z' ≤ zw + i ∧ Own (fun b => if b = a then none else H b) H' [(D, .lst acc), (a, wl x' y z')]) ?_ ?_ ?_ ?_ ?_
  · intro D nD
    exact ⟨_, _, [], rfl, rfl, fun b hb => (List.not_mem_nil hb).elim, wk, by omega, by omega, (ow.drop).new nD⟩
  · rintro D i acc H1 ⟨x', z', l, rfl, hl, hb, wk', h1, h2, ow⟩ hi
    exact hi
  · rintro D acc H1 ⟨x', z', l, rfl, hl, hb, wk', h1, h2, ow⟩
    exact Nat.le_refl _
  · rintro D i acc H1 x1 H2 R hi la ⟨x', z', l, rfl, hl, hb, wk', h1, h2, ow⟩ ⟨rfl, hy⟩ hR
    subst hy
    walk_at "go"
    refine hR _ _ (ow.get 0 rfl) ⟨_, _, l ++ [vw], by simp, by simp; omega, fun b h => ?_, by assumption, by omega, by omega, ow.put 0 rfl⟩
    rcases List.mem_append.mp h with h | h
    · exact hb b h
    · obtain rfl := List.mem_singleton.mp h
      omega
  · rintro D acc H1 nD ⟨x', z', l0, rfl, hl, hb, wk', h1, h2, ow⟩ la
    walk_at "go"
    refine for_range (fun i σ' H' => ∃ (u : Option V) (l : List Int), σ' = [some (.ref a), some (.int m), some (.int vw), some (.str (txtB l)), some (.ref D), none, u] ∧ l.length = i ∧ (∀ b ∈ l, b = 0 ∨ b = 1) ∧ Own (fun b => if b = a then none else H b) H' [(D, .lst (l0.map V.int)), (a, wl x' y z')]) ⟨_, [], rfl, rfl, fun b hb => (List.not_mem_nil hb).elim, ow⟩ ?_ ?_
    · rintro i σ' H2 hi ⟨u, l, rfl, hl1, hb1, ow⟩
      have hp : 0 < l0.length := by omega
      have hp2 : 0 < ((l0.map V.int).length : Int) := by rw [List.length_map]; omega
      have hlb := txtB_len l
      obtain ⟨b, hb2, hat⟩ : ∃ b : Int, (b = 0 ∨ b = 1) ∧ atI (l0.map V.int) ((0 + (i : Int)) % ((l0.map V.int).length : Int)) = some (.int b) := by
        rw [List.length_map]
        have e1 := Int.emod_nonneg (0 + (i : Int)) (show (l0.length : Int) ≠ 0 by omega)
        have e2 := Int.emod_lt_of_pos (0 + (i : Int)) (show (0 : Int) < l0.length by omega)
        generalize (0 + (i : Int)) % (l0.length : Int) = k at *
        obtain ⟨k, rfl⟩ := Int.eq_ofNat_of_zero_le e1
        exact ⟨l0[k], hb _ (List.getElem_mem (by omega)), at_map (by omega)⟩
      walk_at "go"
      refine c_strB hb2 ?_
      have lb : (bS b).length = 1 := rfl
      walk_at "go"
      rw [show txtB l ++ bS b = txtB (l ++ [b]) from txtB_app l [b]]
      refine ⟨_, l ++ [b], rfl, by simp; omega, fun x h => ?_, ow⟩
      rcases List.mem_append.mp h with h | h
      · exact hb1 x h
      · obtain rfl := List.mem_singleton.mp h
        exact hb2
    · rintro σ' H2 ⟨u, l, rfl, hl1, hb1, ow⟩
      walk_at "go"
      exact q l _ _ _ hl1 hb1 (by omega) (by omega) (ow.mut_of g1)
theorem ok__law_caught (F : FnP K "_law_caught" "_law_caught" s__law_caught f fd) (B : Bi mg) (x_BitError : Xc P w K mg base "BitError" aBitError) (c_from_bits : Fo P w K mg base (L2.CX P w) 6 "from_bits" ["lead", "span"] (sp_fb C aInvalidWord)) (k_from_bits : FoK P w K mg base (L2.CX P w) 6 "from_bits" ["lead", "span"] (sp_fb C aInvalidWord) ["span", "lead"] gKB) (x_InvalidWord : Xc P w K mg base "InvalidWord" aInvalidWord) (p_top : PrC P w K mg base CX0 C "top" 1 (getSp C "kept_top")) (p_bottom : PrC P w K mg base CX0 C "bottom" 1 (getSp C "kept_bottom")) (xs_InvalidWord : Xs K aBitError aInvalidWord) : FnOk P w K mg base CX0 9 f fd ["_law_head", "_law_loop", "_law_way"] (sp_caught9 K) := by
  refine F.ok sc__law_caught (fun vs H Q E h => by walk_at "len") (fun cdv A outer s H vs Q E hr h => ?_)
  have nd := sc__law_caught.nd
  obtain ⟨z, y, m, rfl, hz, hy, q⟩ := h
  refine ⟨_, PSs.nox (pss_cons (ps_set (i := 3) nd rfl (Or.inl rfl) pe_non)
      (pss_cons (ps_set (i := 4) nd rfl (Or.inl rfl) pe_non)
      (pss_cons (ps_try_as (n := "e") (i := 5) rfl rfl nd rfl rfl ⟨rfl, by decide, .inl x_BitError.gC⟩ takes0 (fun W pn xe tk _ => (pss_one (ps_set (i := 4) nd rfl (Or.inl rfl) (pe_ifExp (pt_cmpR op_eq (pv 2) pe_int (nomark _)) (pe_fx c_from_bits hr (by decide) (fun σ => passAt tk σ) (pa_cons (pv 0) (pa_cons (pv 1) pa_nil))) (pe_fk k_from_bits hr (by decide) (fun σ => passAt tk σ) (pk_cons (pv 1) (pk_cons (pv 0) pk_nil)))))))
      (fun a oe cls d pn hz hf => (pss_one (ps_set (i := 3) nd rfl (Or.inl rfl) (pe_lst (pa_cons (pe_callB (call_isX hz hf) rfl B.isinstance (by decide +kernel) (pa_cons (pv 5) (pa_cons (pe_glob (v := .ref _) rfl x_InvalidWord.gC rfl) pa_nil))) (pa_cons (pe_xv mo_var hz hf (pv 5)) pa_nil)))))))
      (pss_cons (ps_if (pt_cmpR op_notN (pv 3) pe_non (nomark _)) (pss_one (ps_ret (pv 3))) pss_nil)
      (pss_one (ps_ret (pe_lst (pa_cons (pe_wp p_top hr (by decide) (pv 4)) (pa_cons (pe_wp p_bottom hr (by decide) (pv 4)) pa_nil))))))))), ?_⟩
  walk_at "s0"
  have ow := Own.start H
  have kX := xs_InvalidWord.kit
  have eX := xs_InvalidWord.exm
  have ecX := x_InvalidWord.ec
  have xfX := x_InvalidWord.xf
  have nvX := x_InvalidWord.nv
  have lz := hz.l
  have ly := hy.l
  by_cases ok : FbOk z y
  · walk_at "go"
    all_goals exact q pL H' (ow.new0 g0) ow.toSame_of (by rw [d9, if_pos ok]; exact dp_lst (ow.get 0 rfl) (.cons (.int _) (.cons (.int _) .nil)))
  · walk_at "go"
    all_goals exact q pL H' (ow.new0 g0) ow.toSame_of (by rw [d9, if_neg ok]; exact dp_lst (ow.get 0 rfl) (.cons (.bl _) (.cons (dp_tup (ow.get 2 rfl) (.cons (.str _) (.cons (.str _) .nil))) .nil)))
theorem ok__law_due (F : FnP K "_law_due" "_law_due" s__law_due f fd) (B : Bi mg) (c__law_worth : Fo P w K mg base CX0 1 "_law_worth" ["_law_bits_here"] (sp_worth K)) (c__law_lowest : Fo P w K mg base CX0 2 "_law_lowest" ["_law_pair"] (sp_low K)) : FnOk P w K mg base CX0 4 f fd ["_law_head", "_law_loop"] (sp_due9 K) := by
  refine F.ok sc__law_due (fun vs H Q E h => by walk_at "len") (fun cdv A outer s H vs Q E hr h => ?_)
  have nd := sc__law_due.nd
  obtain ⟨z, y, rfl, hz, hy, q⟩ := h
  refine ⟨_, PSs.nox (pss_cons (ps_if (PW.pt (pw_or (pt_cmpR op_eq (pv 1) pe_str (nomark _)) (pw_or1 (pt_cmpR (op_neD hr.units) (pe_lc (own := [("_law_char", 2)]) (g := gName 2) (by rfl) nd (pi_str (pe_op op_addSt (pv 0) (pv 1))) (blkOk_by (own := [("_law_char", 2)]) (N := ["_law_head", "_law_loop", "_law_char", "_law_low", "_law_again", "_law_bottom"]) (sc := defScope s__law_due) (by decide +kernel)) (fun _ _ _ _ _ => pg_name (i := 2) nd rfl (Or.inl rfl)) (fun _ _ _ _ _ => (pts_one (pt_cmpR (notIn_K (K := K) rfl) (pv 2) (pe_tup (pa_cons pe_str (pa_cons pe_str pa_nil))) rfl))) (fun _ _ _ _ _ => pe_int)) (pe_lst pa_nil) (nomark _))))) (pss_one (ps_ret (pe_lst (pa_cons pe_bl (pa_cons (pe_tup (pa_cons (pv 0) (pa_cons (pv 1) pa_nil))) pa_nil))))) pss_nil)
      (pss_cons (ps_par (i := 3) (j := 4) rfl nd rfl rfl (by decide) rfl rfl (pa_cons (pe_fo c__law_worth hr (by decide) (pa_cons (pe_lc (own := [("_law_char", 2)]) (g := gName 2) (tt := tYes) (by rfl) nd (pi_str (pv 0)) (blkOk_by (own := [("_law_char", 2)]) (N := ["_law_head", "_law_loop", "_law_char", "_law_low", "_law_again", "_law_bottom"]) (sc := defScope s__law_due) (by decide +kernel)) (fun _ _ _ _ _ => pg_name (i := 2) nd rfl (Or.inl rfl)) (fun _ _ _ _ _ => pts_nil) (fun _ _ _ _ _ => (pe_callTy cb_intS rfl B.int (by decide +kernel) (pa_cons (pv 2) pa_nil)))) pa_nil)) (pa_cons (pe_fo c__law_worth hr (by decide) (pa_cons (pe_lc (own := [("_law_char", 2)]) (g := gName 2) (tt := tYes) (by rfl) nd (pi_str (pv 1)) (blkOk_by (own := [("_law_char", 2)]) (N := ["_law_head", "_law_loop", "_law_char", "_law_low", "_law_again", "_law_bottom"]) (sc := defScope s__law_due) (by decide +kernel)) (fun _ _ _ _ _ => pg_name (i := 2) nd rfl (Or.inl rfl)) (fun _ _ _ _ _ => pts_nil) (fun _ _ _ _ _ => (pe_callTy cb_intS rfl B.int (by decide +kernel) (pa_cons (pv 2) pa_nil)))) pa_nil)) pa_nil)) rfl)
      (pss_cons (ps_set (i := 5) nd rfl (Or.inl rfl) (pe_op op_sub pe_int (pe_op op_shlW pe_int (pe_callB cb_lenSt rfl B.len (by decide +kernel) (pa_cons (pv 1) pa_nil)))))
      (pss_one (ps_ret (pe_callTy cb_listof rfl B.list (by decide +kernel) (pa_cons (pe_fo c__law_lowest hr (by decide) (pa_cons (pe_tup (pa_cons (pe_op op_add (pe_op op_mulO (pv 3) (pv 5)) (pe_op op_shlW (pv 4) (pe_callB cb_lenSt rfl B.len (by decide +kernel) (pa_cons (pv 0) pa_nil)))) (pa_cons (pv 5) pa_nil))) pa_nil)) pa_nil))))))), ?_⟩
  walk_at "s0"
  have ow := Own.start H
  have lz := hz.l
  have ly := hy.l
  have e0 : (Str.ofString "") = ⟨#[]⟩ := by decide +kernel
  walk_at "go"
  · refine q pL H' (ow.new0 g0) ow.toSame_of ?_
    rw [d9, if_neg (fun k => by
      have l := k.2
      injection hc with hc
      rw [hc, e0] at l
      exact absurd l (by decide))]
    exact dp_lst (ow.get 0 rfl) (.cons (.bl _) (.cons (dp_tup (ow.get 1 rfl) (.cons (.str _) (.cons (.str _) .nil))) .nil))
  · have yl : 1 ≤ y.length := Nat.pos_of_ne_zero fun z => hc (by
      rw [e0]
      obtain ⟨cs⟩ := y
      rw [Array.eq_empty_of_size_eq_zero (show cs.size = 0 from z)])
    have sl : (z ++ y).cps.size = z.length + y.length := by
      have e1 := congrArg List.length (str_app (z := z) (y := y))
      rw [List.length_append, str_len, str_len, str_len] at e1
      exact e1
    refine r_lc ?_
    walk_at "go"
    refine c_lcF (z ++ y).cps.size (by omega) (fun _ => rfl) (fun D i acc H' => ∃ m : Nat, acc = List.replicate m (.int 1) ∧ m ≤ i ∧ (m = 0 ↔ ∀ c ∈ (z.cps.toList ++ y.cps.toList).take i, Bt c) ∧ Own H H' [(D, .lst acc)]) ?_ ?_ ?_ ?_ ?_
    · intro D nD
      exact ⟨0, rfl, Nat.le_refl _, by simp, ow.new nD⟩
    · rintro D i acc H1 ⟨m, rfl, hm, hb, ow⟩ hi
      exact hi
    · rintro D acc H1 ⟨m, rfl, hm, hb, ow⟩
      exact Nat.le_refl _
    · rintro D i acc H1 x1 H2 R Z hi la ⟨m, rfl, hm, hb, ow⟩ ⟨rfl, c, hc1, rfl⟩ hR hZ
      have hc' : (z.cps.toList ++ y.cps.toList)[i]? = some c := by rw [← str_app, Array.getElem?_toList]; exact hc1
      have at1 := all_take hc'
      walk_at "go"
      · refine hR _ _ (ow.get 1 rfl) ⟨m + 1, List.replicate_succ'.symm, by omega, ⟨fun h => by omega, fun h => absurd (at1.mp h).2 hc⟩, (ow.put 1 rfl).drop⟩
      · exact hZ _ ⟨m, rfl, by omega, hb.trans ⟨fun h => at1.mpr ⟨h, hc⟩, fun h => (at1.mp h).1⟩, ow.drop⟩
    · rintro D acc H1 nD ⟨m, rfl, hm, hb, ow⟩ la
      have tk : (z.cps.toList ++ y.cps.toList).take (z ++ y).cps.size = z.cps.toList ++ y.cps.toList := List.take_of_length_le (by rw [List.length_append, str_len, str_len, sl]; exact Nat.le_refl _)
      rw [tk] at hb
      walk_at "go"
      refine r_neE (ow.get 1 rfl) (ow.get 0 rfl) ?_
      by_cases m0 : m = 0
      · have ok : FbOk z y := ⟨hb.mp m0, yl⟩
        have hz1 : ∀ c ∈ z.cps.toList, Bt c := fun c h => ok.1 c (List.mem_append_left _ h)
        have hy1 : ∀ c ∈ y.cps.toList, Bt c := fun c h => ok.1 c (List.mem_append_right _ h)
        rw [decide_eq_true m0]
        have tz : (worthL (bitsZ z)).natAbs < 2 ^ 200 := by rw [worth_bitsZ]; exact tnum_lt hz.l
        have ty : (worthL (bitsZ y)).natAbs < 2 ^ 200 := by rw [worth_bitsZ]; exact tnum_lt hy.l
        have eb : (1 : Int) - 1 * 2 ^ ((y.length : Int)).toNat = 1 - 2 ^ y.length := by rw [Int.toNat_natCast, Int.one_mul]
        have od := bot_odd yl
        have nbq : (1 : Int) - 1 * 2 ^ ((y.length : Int)).toNat ≠ 0 := by rw [eb]; omega
        have lb : ((1 : Int) - 1 * 2 ^ ((y.length : Int)).toNat).natAbs < 2 ^ 201 := by rw [eb]; exact bot_lt ly
        have lbq : ((1 : Int) - 1 * 2 ^ ((y.length : Int)).toNat).natAbs < 2 ^ 8000 := Nat.lt_of_lt_of_le lb (Nat.pow_le_pow_right (by decide) (by decide))
        have c1 : IntMulOk (worthL (bitsZ z)) ((1 : Int) - 1 * 2 ^ ((y.length : Int)).toNat) := mok_w 200 201 tz lb (by decide)
        have c2 : CShl (worthL (bitsZ y)) (z.length : Int) := cshl 200 (by omega) ty (by omega)
        walk_at "go"
        refine r_lc ?_
        walk_at "go"
        refine r_lc ?_
        walk_at "go"
        have eT : worthL (bitsZ z) * (1 - 1 * 2 ^ ((y.length : Int)).toNat) + worthL (bitsZ y) * 2 ^ ((z.length : Int)).toNat = fbT z y := by
          rw [eb, worth_bitsZ, worth_bitsZ, Int.toNat_natCast]
          rfl
        rw [eT, eb] at ow
        refine q pL H' (ow.new0 g0) ow.toSame_of ?_
        rw [d9, if_pos ok]
        exact dp_lst (ow.get 0 rfl) (.cons (.int _) (.cons (.int _) .nil))
      · have no : ¬ FbOk z y := fun k => m0 (hb.mpr k.1)
        rw [decide_eq_false m0]
        walk_at "go"
        refine q pL H' (ow.new0 g0) ow.toSame_of ?_
        rw [d9, if_neg no]
        exact dp_lst (ow.get 0 rfl) (.cons (.bl _) (.cons (dp_tup (ow.get 1 rfl) (.cons (.str _) (.cons (.str _) .nil))) .nil))
end

/-! the law's loops -/

def sp_fits : Sp := fun vs H Q _ => ∃ (a : Addr) (x y z : Int), vs = [.ref a] ∧ H a = some (wl x y z) ∧ WOk y z ∧ z + 200 ≤ 1000000 ∧ ∀ x' z' H', z ≤ z' → z' ≤ z + 200 → Mut a (wl x' y z') H H' → Q (.bl true) H'
section
variable {P : Program} {w : World} {K : PySem.W.Frag} {mg : Str → Option Value} {base : Heap}
def sp_law (K : PySem.W.Frag) : Sp := fun vs H Q _ => ∃ (a : Addr) (ns : List Int), vs = [.ref a] ∧ SqL K H a (ns.map V.int) ∧ ns.length ≤ 63 ∧ ∀ H', Same H H' → Q (.bl true) H'
theorem c_well {F H : Hp} {L : List (Addr × HO)} {a : Addr} {ns : List Int} {k : Nat} {i : Int} {Q : VK} {E : XK} (h : Own F H L) (hS : SqL K H a (ns.map V.int)) (hl : ns.length ≤ 63) (hi : i = (k : Int)) (hk : k ≤ 63) (q : ∀ p x y H', H p = none → WOk y 0 → Own F H' ((p, wl x y 0) :: L) → Q (.ref p) H') : sp_well K ([.ref a, .int i] ++ []) H Q E :=
  ⟨a, ns, k, by rw [hi]; rfl, hS, hl, hk, fun p x y H' n e s w => q p x y H' n w (h.newS n s e)⟩
theorem c_fits {F H : Hp} {L : List (Addr × HO)} {i : Nat} {a : Addr} {x y z : Int} {Q : VK} {E : XK} (h : Own F H L) (e : L[i]? = some (a, wl x y z)) (wk : WOk y z) (hz : z + 200 ≤ 1000000)
    (k : ∀ x' z' H', z ≤ z' → z' ≤ z + 200 → WOk y z' → Own F H' (L.set i (a, wl x' y z')) → Q (.bl true) H') : sp_fits ([.ref a] ++ []) H Q E :=
  ⟨a, x, y, z, rfl, h.get i e, wk, hz, fun x' z' H' h1 h2 m => k x' z' H' h1 h2 ⟨wk.y0, wk.y1, by have := wk.z0; omega, by omega⟩ (h.mut i e m)⟩
theorem ok_law {f : Addr} {fd : FuncData} (F : FnP K "law" "law" s_law f fd) (B : Bi mg) (c__law_well : Fo P w K mg base CX0 1 "_law_well" ["_law_script", "_law_place"] (sp_well K)) (c__law_fits : FoG P w K mg base CX0 20 "_law_fits" ["_law_well_here"] sp_fits) : FnG P w K mg base CX0 21 f fd ["_law_script"] (sp_law K) := by
  refine FunD_okG F sc_law (fun vs H Q E h => ?_) (fun cdv A outer s H vs Q E gd hr h => ?_)
  · obtain ⟨a, ns, rfl, _⟩ := h
    rfl
  · obtain ⟨a, ns, rfl, hS, hl, q⟩ := h
    have nd := sc_law.nd
    refine ⟨_, PSs.nox (pss_cons (ps_for PassesOwn.never rfl (pi_range1 rfl B.range (pa_cons (pe_callB (cb_max2 rfl) rfl B.max (by decide +kernel) (pa_cons pe_int (pa_cons (pe_callB (cb_min2 rfl) rfl B.min (by decide +kernel) (pa_cons pe_int (pa_cons (pe_callB cb_len rfl B.len (by decide +kernel) (pa_cons (pv 0) pa_nil)) pa_nil))) pa_nil))) pa_nil)) (pg_name (i := 1) nd rfl (.inl rfl))
      (pss_cons (ps_set (i := 2) nd rfl (Or.inl rfl) (pe_fo c__law_well hr (by decide) (pa_cons (pv 0) (pa_cons (pv 1) pa_nil))))
      (pss_one (ps_for PassesOwn.never rfl (pi_range1 rfl B.range (pa_cons pe_int pa_nil)) (pg_name (i := 3) nd rfl (.inl rfl))
      (pss_one (ps_if (pt_not (pt_val (pe_foG c__law_fits gd hr (by decide) (pa_cons (pv 2) pa_nil)))) (pss_one (ps_ret pe_bl)) pss_nil))))))
      (pss_one (ps_ret pe_bl))), ?_⟩
    walk_at "s0"
    have hl2 : (ns.map V.int).length ≤ 63 := by rw [List.length_map]; exact hl
    walk_at "go"
    refine for_range (fun _ σ' H' => ∃ u1 u2 u3 : Option V, σ' = [some (.ref a), u1, u2, u3] ∧ Same H H') ⟨_, _, _, rfl, Same.refl H⟩ ?_ ?_
    · rintro i σ' H1 hi ⟨u1, u2, u3, rfl, s1⟩
      have ow := Own.start H1
      have hS1 := s1.seq hS
      walk_at "go"
      refine c_well (k := i) ow hS1 hl (by omega) (by omega) ?_
      intro pL x y H' np wk ow
      walk_at "go"
      refine for_range (fun j σ' H' => ∃ (x' z' : Int) (u : Option V), σ' = [some (.ref a), some (.int (0 + (i : Int))), some (.ref pL), u] ∧ WOk y z' ∧ z' ≤ 200 * j ∧ Own H1 H' [(pL, wl x' y z')]) ⟨_, _, _, rfl, wk, by omega, ow⟩ ?_ ?_
      · rintro j σ' H2 hj ⟨x', z', u, rfl, wk, hz, ow⟩
        walk_at "go"
        refine c_fits ow g0 wk (by have := wk.z0; omega) ?_
        intro x2 z2 H3 h1 h2 wk ow
        walk_at "go"
        exact ⟨_, _, _, rfl, wk, by omega, ow⟩
      · rintro σ' H2 ⟨x', z', u, rfl, wk, hz, ow⟩
        exact ⟨_, _, _, rfl, s1.trans ow.toSame_of⟩
    · rintro σ' H1 ⟨u1, u2, u3, rfl, s1⟩
      walk_at "go"
      exact q H1 s1
end

/-! k09: the law -/

theorem Own.frzs {H : Hp} {x : Addr × HO} : ∀ (L1 : List (Addr × HO)) {F : Hp}, Own F H (L1 ++ [x]) → ∃ F', Own F' H [x] ∧ Same F F' ∧ ∀ (i : Nat) (a : Addr) (o : HO), L1[i]? = some (a, o) → F' a = some o
  | [], F, h => ⟨F, h, Same.refl F, fun i a o e => by simp at e⟩
  | (p, o) :: L1, F, h => by
    obtain ⟨h2, s⟩ := Own.frz (L := L1 ++ [x]) h
    obtain ⟨F', h3, s3, g⟩ := Own.frzs L1 h2
    refine ⟨F', h3, s.trans s3, fun i a u e => ?_⟩
    cases i with
    | zero => simp at e; obtain ⟨rfl, rfl⟩ := e; exact s3 _ _ upd_same
    | succ i => exact g i a u (by simpa using e)
/-! texts cut -/
def tkS (z : Str) (k : Nat) : Str := ⟨(z.cps.toList.take k).toArray⟩
def drS (z : Str) (k : Nat) : Str := ⟨(z.cps.toList.drop k).toArray⟩
theorem cut_tk {z : Str} {i : Int} (h : 0 ≤ i) : cutS z none (some i) = tkS z i.toNat := by
  unfold cutS tkS
  have e1 : HT.sIx z.length 0 none = 0 := rfl
  have e2 : HT.sIx z.length z.length (some i) = min i.toNat z.length := by
    show (if i < 0 then (i + (z.length : Int)).toNat else min i.toNat z.length) = _
    rw [if_neg (by omega)]
  rw [e1, e2, List.drop_zero, Nat.sub_zero, ← str_len, ← List.take_eq_take_min]
theorem cut_dr {z : Str} {i : Int} (h : 0 ≤ i) : cutS z (some i) none = drS z i.toNat := by
  unfold cutS drS
  have e1 : HT.sIx z.length 0 (some i) = min i.toNat z.length := by
    show (if i < 0 then (i + (z.length : Int)).toNat else min i.toNat z.length) = _
    rw [if_neg (by omega)]
  have e2 : HT.sIx z.length z.length none = z.length := rfl
  have l := str_len (z := z)
  rw [e1, e2]
  congr 1
  by_cases c : i.toNat ≤ z.length
  · rw [Nat.min_eq_left c, List.take_of_length_le (by rw [List.length_drop]; omega)]
  · rw [Nat.min_eq_right (by omega), Nat.sub_self, List.take_zero, List.drop_eq_nil_of_le (by omega)]
theorem tkS_list (z : Str) (k : Nat) : (tkS z k).cps.toList = z.cps.toList.take k := by simp [tkS]
theorem drS_list (z : Str) (k : Nat) : (drS z k).cps.toList = z.cps.toList.drop k := by simp [drS]
theorem tkS_len (z : Str) (k : Nat) : (tkS z k).length ≤ z.length ∧ (tkS z k).length ≤ k := by
  have l := str_len (z := z)
  rw [← str_len, tkS_list, List.length_take]
  omega
theorem drS_len (z : Str) (k : Nat) : (drS z k).length ≤ z.length := by
  have l := str_len (z := z)
  rw [← str_len, drS_list, List.length_drop]
  omega
theorem len_app (z y : Str) : (z ++ y).length = z.length + y.length := by
  rw [← str_len, str_app, List.length_append, str_len, str_len]
theorem mem_app {z y : Str} {c : Nat} : c ∈ (z ++ y).cps.toList ↔ c ∈ z.cps.toList ∨ c ∈ y.cps.toList := by rw [str_app, List.mem_append]
theorem mem_tk {z : Str} {k c : Nat} (h : c ∈ (tkS z k).cps.toList) : c ∈ z.cps.toList := by rw [tkS_list] at h; exact List.mem_of_mem_take h
theorem mem_dr {z : Str} {k c : Nat} (h : c ∈ (drS z k).cps.toList) : c ∈ z.cps.toList := by rw [drS_list] at h; exact List.mem_of_mem_drop h
/-- a plain text of a bounded length -/
structure Tx (n : Nat) (z : Str) : Prop where
  l : z.length ≤ n
  a : ∀ c ∈ z.cps.toList, c < 1000
theorem Tx.t9 {n : Nat} {z : Str} (h : Tx n z) (hn : n ≤ 200) : T9 z := ⟨Nat.le_trans h.l hn, h.a⟩
theorem Tx.app {n m : Nat} {z y : Str} (h : Tx n z) (g : Tx m y) : Tx (n + m) (z ++ y) := ⟨by rw [len_app]; have := h.l; have := g.l; omega, fun c hc => (mem_app.mp hc).elim (h.a c) (g.a c)⟩
theorem Tx.tk {n : Nat} {z : Str} (h : Tx n z) (k : Nat) : Tx n (tkS z k) := ⟨Nat.le_trans (tkS_len z k).1 h.l, fun c hc => h.a c (mem_tk hc)⟩
theorem Tx.dr {n : Nat} {z : Str} (h : Tx n z) (k : Nat) : Tx n (drS z k) := ⟨Nat.le_trans (drS_len z k) h.l, fun c hc => h.a c (mem_dr hc)⟩
theorem tx_one {c : Nat} (h : c < 1000) : Tx 1 ⟨#[c]⟩ := ⟨Nat.le_refl _, fun d hd => by
  have : d = c := by simpa using hd
  omega⟩
theorem mem_one (c : Nat) : c ∈ (⟨#[c]⟩ : Str).cps.toList := by simp
/-! numbers of bits -/
theorem worth_inj : ∀ xs ys : List Int, xs.length = ys.length → (∀ x ∈ xs, x = 0 ∨ x = 1) → (∀ y ∈ ys, y = 0 ∨ y = 1) → worthL xs = worthL ys → xs = ys
  | [], [], _, _, _, _ => rfl
  | x :: xs, y :: ys, l, hx, hy, e => by
    have a := hx x List.mem_cons_self
    have b := hy y List.mem_cons_self
    have e1 : 2 * worthL xs + x = 2 * worthL ys + y := e
    have i := worth_inj xs ys (by simpa using l) (fun z hz => hx z (List.mem_cons_of_mem _ hz)) (fun z hz => hy z (List.mem_cons_of_mem _ hz)) (by omega)
    rw [i, show x = y by omega]
theorem worth_app : ∀ xs ys : List Int, worthL (xs ++ ys) = worthL xs + 2 ^ xs.length * worthL ys
  | [], ys => by show worthL ys = 0 + 1 * worthL ys; omega
  | x :: xs, ys => by
    show 2 * worthL (xs ++ ys) + x = 2 * worthL xs + x + 2 ^ (xs.length + 1) * worthL ys
    rw [worth_app xs ys, Int.pow_succ]
    grind
theorem bitsZ_app (z y : Str) : bitsZ (z ++ y) = bitsZ z ++ bitsZ y := by unfold bitsZ; rw [str_app, List.map_append]
theorem bitsZ_len (z : Str) : (bitsZ z).length = z.length := by unfold bitsZ; rw [List.length_map, str_len]
theorem bitsZ_bit (z : Str) : ∀ x ∈ bitsZ z, x = 0 ∨ x = 1 := fun x hx => by
  obtain ⟨c, _, rfl⟩ := List.mem_map.mp hx
  split
  · exact .inr rfl
  · exact .inl rfl
theorem bitsL_bit (b t : Int) (n : Nat) : ∀ x ∈ bitsL b t n, x = 0 ∨ x = 1 := fun x hx => by
  obtain ⟨i, _, rfl⟩ := List.mem_map.mp hx
  omega
/-- the bits of the word of a lead and a span -/
theorem told_eq {z y : Str} (ok : FbOk z y) : bitsL (wB (fbT z y) (1 - 2 ^ y.length)) (wT (fbT z y) (1 - 2 ^ y.length)) (z.length + 2 * y.length) = bitsZ ((z ++ y) ++ y) := by
  refine worth_inj _ _ (by rw [bitsL_len, bitsZ_len, len_app, len_app]; omega) (bitsL_bit _ _ _) (bitsZ_bit _) ?_
  rw [worth_bits, low_red (bot_odd ok.2), bitsZ_app, bitsZ_app, worth_app, worth_app, List.length_append, bitsZ_len, bitsZ_len, worth_bitsZ, worth_bitsZ]
  have b1 := tnum_bd z.cps.toList
  have b2 := tnum_bd y.cps.toList
  rw [str_len] at b1 b2
  symm
  have pz := two_pow_pos z.length
  have py := two_pow_pos y.length
  have e2 : (2 : Int) ^ (z.length + 2 * y.length) = 2 ^ z.length * 2 ^ y.length * 2 ^ y.length := by rw [show z.length + 2 * y.length = z.length + y.length + y.length by omega, Int.pow_add, Int.pow_add]
  refine low_is (bot_odd ok.2) ⟨?_, ?_, ?_⟩
  · have h1 := Int.mul_nonneg (Int.le_of_lt pz) b2.1
    have h2 := Int.mul_nonneg (Int.le_of_lt (two_pow_pos (z.length + y.length))) b2.1
    omega
  · rw [e2, Int.pow_add]
    generalize tnum z.cps.toList = u at *
    generalize tnum y.cps.toList = v at *
    generalize (2 : Int) ^ z.length = p at *
    generalize (2 : Int) ^ y.length = q at *
    have h1 : p * v ≤ p * (q - 1) := Int.mul_le_mul_of_nonneg_left (by omega) (by omega)
    have h2 : p * q * v ≤ p * q * (q - 1) := Int.mul_le_mul_of_nonneg_left (by omega) (Int.le_of_lt (Int.mul_pos pz py))
    have h3 : p * q * (q - 1) = p * q * q - p * q := by grind
    have h4 : p * (q - 1) = p * q - p := by grind
    omega
  · rw [e2, Int.pow_add]
    unfold fbT
    generalize tnum z.cps.toList = u at *
    generalize tnum y.cps.toList = v at *
    generalize (2 : Int) ^ z.length = p at *
    generalize (2 : Int) ^ y.length = q at *
    exact ⟨-v, by grind⟩
theorem dpa_ints {K : PySem.W.Frag} {H : Hp} : ∀ l : List Int, DpAll K H (l.map V.int) (l.map PyData.int)
  | [] => .nil
  | i :: l => .cons (.int i) (dpa_ints l)
theorem rp_bits {l : List Int} (h : ∀ b ∈ l, b = 0 ∨ b = 1) (n : l.length ≤ 200) : Rp 60 27000 (.list (l.map PyData.int)) := by
  have r : RpL 0 80 (l.map PyData.int) := fun d hd => by
    obtain ⟨i, hi, rfl⟩ := List.mem_map.mp hd
    have := h i hi
    exact rq_int (by omega) (by simp)
  have g := rp_list (rpl_all r)
  rw [List.length_map] at g
  exact g.mono (by decide) (by omega)
/-- signs that are no bits -/
structure SgOk (s : Str) : Prop where
  l0 : 1 ≤ s.length
  l1 : s.length ≤ 200
  no : ∀ c ∈ s.cps.toList, c ≠ 48 ∧ c ≠ 49 ∧ c < 1000
instance (s : Str) : Decidable (SgOk s) := decidable_of_iff (1 ≤ s.length ∧ s.length ≤ 200 ∧ ∀ c ∈ s.cps.toList, c ≠ 48 ∧ c ≠ 49 ∧ c < 1000) ⟨fun h => ⟨h.1, h.2.1, h.2.2⟩, fun h => ⟨h.l0, h.l1, h.no⟩⟩
section
variable {K : PySem.W.Frag} {F H : Hp} {L : List (Addr × HO)} {a : Addr} {z y : Str} {Q : VK} {E : XK} {i m x : Int} {c k : Nat} {te : TE} {tl th : TO} {σ : L2.St}
def cSlS (Q : VK) (x : V) (lo hi : Option Int) (H : Hp) : Prop := rSlS x lo hi H Q
theorem r_slS (k : te σ H fun x H1 => tl σ H1 fun l H2 => th σ H2 fun u H3 => cSlS Q x l u H3) : tSl rSlS te tl th σ H Q := k
theorem c_slT (h : z.length ≤ 1000) (h0 : 0 ≤ i) (k : Q (.str (tkS z i.toNat)) H) : cSlS Q (.str z) none (some i) H := ⟨z, rfl, Nat.le_trans h (by decide), by rw [cut_tk h0]; exact k⟩
theorem c_slD (h : z.length ≤ 1000) (h0 : 0 ≤ i) (k : Q (.str (drS z i.toNat)) H) : cSlS Q (.str z) (some i) none H := ⟨z, rfl, Nat.le_trans h (by decide), by rw [cut_dr h0]; exact k⟩
theorem c_text9 {y0 z0 : Int} {j : Nat} (h : Own F H L) (e : L[j]? = some (a, wl x y0 z0)) (wk : WOk y0 z0) (hz : z0 + 70 ≤ 1000000) (m0 : 0 ≤ m) (m1 : m ≤ 60)
    (k : ∀ l x' z' H', l.length = m.toNat → (∀ b ∈ l, b = 0 ∨ b = 1) → z0 ≤ z' → z' ≤ z0 + 70 → WOk y0 z' → Own F H' (L.set j (a, wl x' y0 z')) → Q (.str (txtB l)) H') : sp_text9 ([.ref a, .int m] ++ []) H Q E :=
  ⟨a, x, y0, z0, m, rfl, h.get j e, wk, hz, m0, m1, fun l x' z' H' h1 h2 h3 h4 m => k l x' z' H' h1 h2 h3 h4 ⟨wk.y0, wk.y1, by have := wk.z0; omega, by omega⟩ (h.mut j e m)⟩
theorem c_caught9 (h : Own F H L) (hz : T9 z) (hy : T9 y) (k : ∀ r H', Dp K H' (.ref r) (d9 z y) → Own F H' L → Q (.ref r) H') : sp_caught9 K ([.str z, .str y, .int m] ++ []) H Q E := ⟨z, y, m, rfl, hz, hy, fun r H' _ s d => k r H' d (h.same s)⟩
theorem c_caughtN (h : Own F H L) (hz : T9 z) (hy : T9 y) (no : ¬ FbOk z y) (k : ∀ r H', Dp K H' (.ref r) (.list [.bool true, .tuple [.str z, .str y]]) → Own F H' L → Q (.ref r) H') : sp_caught9 K ([.str z, .str y, .int m] ++ []) H Q E :=
  c_caught9 h hz hy fun r H' d ow => k r H' (by rw [d9, if_neg no] at d; exact d) ow
theorem c_due9 (h : Own F H L) (hz : T9 z) (hy : T9 y) (k : ∀ r H', Dp K H' (.ref r) (d9 z y) → Own F H' L → Q (.ref r) H') : sp_due9 K ([.str z, .str y] ++ []) H Q E := ⟨z, y, rfl, hz, hy, fun r H' _ s d => k r H' d (h.same s)⟩
theorem r_ixStr (h : z.length ≤ 1000) (e : atI z.cps.toList i = some c) (k : Q (.str ⟨#[c]⟩) H) : rIxS (.str z) (.int i) H Q := ⟨z, i, c, rfl, rfl, Nat.le_trans h (by decide), e, k⟩
end
set_option hygiene false in
local macro_rules | `(tactic| walk_at "dp") => `(tactic| exact Bs.dp_lst (by walk_at "hx") (Bs.dpa_ints _))
set_option hygiene false in
local macro_rules | `(tactic| walk_at "hx") => `(tactic| first | assumption | exact Bs.Own.get (by assumption) _ (by walk_at "oi") | exact Bs.Own.gets (by assumption) (by assumption))
set_option hygiene false in
local macro_rules | `(tactic| walk_at "rp") => `(tactic| exact Bs.rq_str (by assumption) (by simp))
set_option hygiene false in
local macro_rules | `(tactic| walk_at "r1") => `(tactic| first
  | with_reducible refine Bs.r_slS ?_
  | ((with_reducible refine' Bs.c_slT ?p1 ?p2 ?_); (case p1 => omega); (case p2 => omega))
  | ((with_reducible refine' Bs.c_slD ?p1 ?p2 ?_); (case p1 => omega); (case p2 => omega))
  | ((with_reducible refine' Bs.c_text9 ?p1 ?p2 ?p3 ?p4 ?p5 ?p6 ?_); (case p1 => assumption); (case p2 => walk_at "oi"); (case p3 => assumption); (case p4 => omega); (case p5 => omega); (case p6 => omega); intro lT xw zw H' lnT btT z0 z1 wk ow; walk_at "ow")
  | ((with_reducible refine' Bs.c_caughtN ?p1 ?p2 ?p3 ?p4 ?_); (case p1 => assumption); (case p2 => assumption); (case p3 => assumption); (case p4 => assumption); intro rC H' dpC ow)
  | ((with_reducible refine' Bs.c_caught9 ?p1 ?p2 ?p3 ?_); (case p1 => assumption); (case p2 => assumption); (case p3 => assumption); intro rC H' dpC ow)
  | ((with_reducible refine' Bs.c_due9 ?p1 ?p2 ?p3 ?_); (case p1 => assumption); (case p2 => assumption); (case p3 => assumption); intro rC H' dpC ow))
section
variable {P : Program} {w : World} {K : PySem.W.Frag} {mg : Str → Option Value} {base : Heap} {C CT aInvalidWord aBitError f : Addr} {fd : FuncData}
theorem ok__law_fits (F : FnP K "_law_fits" "_law_fits" s__law_fits f fd) (B : Bi mg) (c__law_take : Fo P w K mg base CX0 1 "_law_take" ["_law_well_here", "_law_many"] (sp_take)) (c__law_text : Fo P w K mg base CX0 2 "_law_text" ["_law_well_here", "_law_size"] (sp_text9)) (c__law_caught : Fo P w K mg base CX0 9 "_law_caught" ["_law_head", "_law_loop", "_law_way"] (sp_caught9 K)) (c__law_due : Fo P w K mg base CX0 4 "_law_due" ["_law_head", "_law_loop"] (sp_due9 K)) (c_from_bits : Fo P w K mg base (L2.CX P w) 6 "from_bits" ["lead", "span"] (sp_fb C aInvalidWord)) (p_lead : PrC P w K mg base CX0 C "lead" 2 (sp_plead C)) (p_span : PrC P w K mg base CX0 C "span" 2 (sp_pspan C)) (p_weight : PrC P w K mg base CX0 CT "weight" 5 (sp_wtW C CT)) (c_fixed : Fo P w K mg base CX0 3 "fixed" ["word"] (sp_fixed CT)) (c__law_cycle : Fo P w K mg base CX0 1 "_law_cycle" ["_law_pair"] (sp_cycle K)) (p_top : PrC P w K mg base CX0 C "top" 1 (getSp C "kept_top")) (p_bottom : PrC P w K mg base CX0 C "bottom" 1 (getSp C "kept_bottom")) (c__law_bits : Fo P w K mg base CX0 1 "_law_bits" ["_law_pair", "_law_many"] (sp_bits K)) : FnG P w K mg base CX0 20 f fd ["_law_well_here"] (sp_fits) := by
  refine FnG.mono (j := 11) ?_ (by decide)
  refine FunD_okG F sc__law_fits (fun vs H Q E h => by walk_at "len") (fun cdv A outer s H vs Q E gd hr h => ?_)
  have nd := sc__law_fits.nd
  obtain ⟨a, x, y, z, rfl, ha, wk, hz, q⟩ := h
  refine ⟨_, PSs.nox (pss_cons (ps_setLc (i := 1) (own := [("_law_turn", 2)]) (g := gName 2) (tt := tYes) (by rfl) nd rfl rfl (sw_true rfl rfl rfl rfl) (pi_range1 rfl B.range (pa_cons pe_int pa_nil)) (blkOk_by (own := [("_law_turn", 2)]) (N := ["_law_well_here", "_law_sizes", "_law_turn", "_law_head", "_law_loop", "_law_way", "_law_word", "_law_row", "_law_begin", "_law_again", "_law_told", "_law_char", "_law_signs", "_law_odd", "_law_place", "_law_spot", "_law_tries", "_law_left", "_law_right"]) (sc := defScope s__law_fits) (by decide +kernel)) (fun _ _ _ _ _ => pg_name (i := 2) nd rfl (Or.inl rfl)) (fun _ _ _ _ _ => pts_nil) (fun _ _ _ _ _ => (pe_ix (ixL_K (K := K) rfl) (pe_lst (pa_cons (pe_fo c__law_take hr (by decide) (pa_cons (pv 0) (pa_cons pe_int pa_nil))) (pa_cons (pe_fo c__law_take hr (by decide) (pa_cons (pv 0) (pa_cons pe_int pa_nil))) pa_nil))) (pe_fo c__law_take hr (by decide) (pa_cons (pv 0) (pa_cons pe_int pa_nil))) (fun _ _ => rfl))))
      (C8.pss_cut (ps_par3 (i := 3) (j := 4) (l := 5) rfl nd rfl rfl rfl (by decide) (by decide) (by decide) rfl rfl rfl (pa_cons (pe_fo c__law_text hr (by decide) (pa_cons (pv 0) (pa_cons (pe_ix ix_list (pv 1) pe_int (fun _ _ => rfl)) pa_nil))) (pa_cons (pe_fo c__law_text hr (by decide) (pa_cons (pv 0) (pa_cons (pe_callB (cb_max2 rfl) rfl B.max (by decide +kernel) (pa_cons pe_int (pa_cons (pe_ix ix_list (pv 1) pe_int (fun _ _ => rfl)) pa_nil))) pa_nil))) (pa_cons (pe_fo c__law_take hr (by decide) (pa_cons (pv 0) (pa_cons pe_int pa_nil))) pa_nil))) rfl)
      (C8.pss_cut (ps_if (pt_cmpR op_ne (pe_callB (call_reprD gd hr) rfl B.repr (by decide +kernel) (pa_cons (pe_fo c__law_caught hr (by decide) (pa_cons (pv 3) (pa_cons (pv 4) (pa_cons (pv 5) pa_nil)))) pa_nil)) (pe_callB (call_reprD gd hr) rfl B.repr (by decide +kernel) (pa_cons (pe_fo c__law_due hr (by decide) (pa_cons (pv 3) (pa_cons (pv 4) pa_nil))) pa_nil)) (nomark _)) (pss_one (ps_ret pe_bl)) pss_nil)
      (C8.pss_cut (ps_set (i := 6) nd rfl (Or.inl rfl) (pe_fx c_from_bits hr (by decide) (fun _ => psL0) (pa_cons (pv 3) (pa_cons (pv 4) pa_nil))))
      (pss_cons (ps_set (i := 7) nd rfl (Or.inl rfl) (pe_lst (pa_cons (pe_wp p_lead hr (by decide) (pv 6)) (pa_cons (pe_wp p_span hr (by decide) (pv 6)) (pa_cons (pe_wp p_weight hr (by decide) (pe_fo c_fixed hr (by decide) (pa_cons (pv 6) pa_nil))) pa_nil)))))
      (pss_cons (ps_asg (pe_fo c__law_cycle hr (by decide) (pa_cons (pe_tup (pa_cons (pe_wp p_top hr (by decide) (pv 6)) (pa_cons (pe_wp p_bottom hr (by decide) (pv 6)) pa_nil))) pa_nil)) (pg_tup rfl (pgs_cons (pg_name (i := 8) nd rfl (.inl rfl)) (pgs_cons (pg_name (i := 9) nd rfl (.inl rfl)) pgs_nil))))
      (C8.pss_cut (ps_if (pt_cmpR op_ne (pe_callB (call_reprD gd hr) rfl B.repr (by decide +kernel) (pa_cons (pv 7) pa_nil)) (pe_callB (call_reprD gd hr) rfl B.repr (by decide +kernel) (pa_cons (pe_lst (pa_cons (pv 8) (pa_cons (pv 9) (pa_cons (pe_op op_add (pv 8) (pv 9)) pa_nil)))) pa_nil)) (nomark _)) (pss_one (ps_ret pe_bl)) pss_nil)
      (pss_cons (ps_set (i := 10) nd rfl (Or.inl rfl) (pe_fo c__law_bits hr (by decide) (pa_cons (pe_tup (pa_cons (pe_wp p_top hr (by decide) (pv 6)) (pa_cons (pe_wp p_bottom hr (by decide) (pv 6)) pa_nil))) (pa_cons (pe_op op_add (pe_callB cb_lenSt rfl B.len (by decide +kernel) (pa_cons (pv 3) pa_nil)) (pe_op op_mulO pe_int (pe_callB cb_lenSt rfl B.len (by decide +kernel) (pa_cons (pv 4) pa_nil)))) pa_nil))))
      (C8.pss_cut (ps_if (pt_cmpR op_ne (pe_callB (call_reprD gd hr) rfl B.repr (by decide +kernel) (pa_cons (pv 10) pa_nil)) (pe_callB (call_reprD gd hr) rfl B.repr (by decide +kernel) (pa_cons (pe_lc (own := [("_law_char", 11)]) (g := gName 11) (tt := tYes) (by rfl) nd (pi_str (pe_op op_addSt (pe_op op_addSt (pv 3) (pv 4)) (pv 4))) (blkOk_by (own := [("_law_char", 11)]) (N := ["_law_well_here", "_law_sizes", "_law_turn", "_law_head", "_law_loop", "_law_way", "_law_word", "_law_row", "_law_begin", "_law_again", "_law_told", "_law_char", "_law_signs", "_law_odd", "_law_place", "_law_spot", "_law_tries", "_law_left", "_law_right"]) (sc := defScope s__law_fits) (by decide +kernel)) (fun _ _ _ _ _ => pg_name (i := 11) nd rfl (Or.inl rfl)) (fun _ _ _ _ _ => pts_nil) (fun _ _ _ _ _ => (pe_callTy cb_intS rfl B.int (by decide +kernel) (pa_cons (pv 11) pa_nil)))) pa_nil)) (nomark _)) (pss_one (ps_ret pe_bl)) pss_nil)
      (C8.pss_cut (ps_set (i := 12) nd rfl (Or.inl rfl) pe_str)
      (pss_cons (ps_par3 (i := 13) (j := 3) (l := 4) rfl nd rfl rfl rfl (by decide) (by decide) (by decide) rfl rfl rfl (pa_cons (pe_ix ix_str (pv 12) (pe_fo c__law_take hr (by decide) (pa_cons (pv 0) (pa_cons (pe_callB cb_lenSt rfl B.len (by decide +kernel) (pa_cons (pv 12) pa_nil)) pa_nil))) (fun _ _ => rfl)) (pa_cons (pe_slice sl_str (pv 3) po_none (po_some pe_int)) (pa_cons (pe_slice sl_str (pv 4) po_none (po_some pe_int)) pa_nil))) rfl)
      (C8.pss_cut (ps_par (i := 14) (j := 15) rfl nd rfl rfl (by decide) rfl rfl (pa_cons (pe_fo c__law_take hr (by decide) (pa_cons (pv 0) (pa_cons (pe_op op_add (pe_callB cb_lenSt rfl B.len (by decide +kernel) (pa_cons (pv 4) pa_nil)) pe_int) pa_nil))) (pa_cons (pe_fo c__law_take hr (by decide) (pa_cons (pv 0) (pa_cons (pe_op op_add (pe_callB cb_lenSt rfl B.len (by decide +kernel) (pa_cons (pv 3) pa_nil)) pe_int) pa_nil))) pa_nil)) rfl)
      (pss_cons (ps_set (i := 16) nd rfl (Or.inl rfl) (pe_lst (pa_cons (pe_tup (pa_cons (pe_op op_addSt (pe_op op_addSt (pe_slice sl_str (pv 3) po_none (po_some (pv 15))) (pv 13)) (pe_slice sl_str (pv 3) (po_some (pv 15)) po_none)) (pa_cons (pv 4) pa_nil))) (pa_cons (pe_tup (pa_cons (pv 3) (pa_cons (pe_op op_addSt (pe_op op_addSt (pe_slice sl_str (pv 4) po_none (po_some (pv 14))) (pv 13)) (pe_slice sl_str (pv 4) (po_some (pv 14)) po_none)) pa_nil))) (pa_cons (pe_tup (pa_cons (pv 3) (pa_cons pe_str pa_nil))) pa_nil)))))
      (pss_cons (ps_for PassesOwn.never rfl (pi_list (pe_op op_cat (pv 16) (pe_lst (pa_cons (pe_tup (pa_cons (pe_op op_addSt (pe_op op_addSt (pe_slice sl_str (pv 3) po_none (po_some (pv 15))) (pv 13)) (pe_slice sl_str (pv 3) (po_some (pe_op op_add (pv 15) pe_int)) po_none)) (pa_cons (pv 13) pa_nil))) (pa_cons (pe_tup (pa_cons (pv 13) (pa_cons (pv 4) pa_nil))) pa_nil))))) (pg_tup rfl (pgs_cons (pg_name (i := 17) nd rfl (.inl rfl)) (pgs_cons (pg_name (i := 18) nd rfl (.inl rfl)) pgs_nil)))
      (pss_one (ps_if (pt_cmpR op_ne (pe_callB (call_reprD gd hr) rfl B.repr (by decide +kernel) (pa_cons (pe_fo c__law_caught hr (by decide) (pa_cons (pv 17) (pa_cons (pv 18) (pa_cons (pv 5) pa_nil)))) pa_nil)) (pe_callB (call_reprD gd hr) rfl B.repr (by decide +kernel) (pa_cons (pe_lst (pa_cons pe_bl (pa_cons (pe_tup (pa_cons (pv 17) (pa_cons (pv 18) pa_nil))) pa_nil))) pa_nil)) (nomark _)) (pss_one (ps_ret pe_bl)) pss_nil)))
      (pss_one (ps_ret (pe_cmpR op_eq (pe_callB (call_reprD gd hr) rfl B.repr (by decide +kernel) (pa_cons (pe_fo c__law_caught hr (by decide) (pa_cons pe_str (pa_cons (pv 4) (pa_cons (pv 5) pa_nil)))) pa_nil)) (pe_callB (call_reprD gd hr) rfl B.repr (by decide +kernel) (pa_cons (pe_fo c__law_due hr (by decide) (pa_cons pe_str (pa_cons (pv 4) pa_nil))) pa_nil)) (nomark _)))))))))))))))))), ?_⟩
  walk_at "s0"
  have ow := Own.take1 ha
  walk_at "go"
  refine r_lc ?_
  walk_at "go"
  refine c_lcJ 2 (by decide) (fun _ => rfl) (fun D i acc H' => ∃ (x' z' : Int) (l : List Int), acc = l.map V.int ∧ l.length = i ∧ (∀ s ∈ l, 0 ≤ s ∧ s ≤ 60) ∧ WOk y z' ∧ z ≤ z' ∧ z' ≤ z + 3 * i ∧ Own (fun b => if b = a then none else H b) H' [(D, .lst acc), (a, wl x' y z')]) ?_ ?_ ?_ ?_ ?_
  · intro D nD
    exact ⟨_, _, [], rfl, rfl, fun b hb => (List.not_mem_nil hb).elim, wk, by omega, by omega, ow.new nD⟩
  · rintro D i acc H1 ⟨x', z', l, rfl, hl, hb, wk', h1, h2, ow⟩ hi
    exact hi
  · rintro D acc H1 ⟨x', z', l, rfl, hl, hb, wk', h1, h2, ow⟩
    exact Nat.le_refl _
  · rintro D i acc H1 x1 H2 R hi la ⟨x', z', l, rfl, hl, hb, wk', h1, h2, ow⟩ ⟨rfl, hy⟩ hR
    subst hy
    walk_at "go"
    refine o_ix2 (m := 60) ow g0 v0 v1 ⟨by omega, by omega⟩ ⟨by omega, by omega⟩ (fun N N0 N1 => ?_)
    refine hR _ _ (ow.get 1 rfl) ⟨_, _, l ++ [N], by simp, by simp; omega, fun s h => ?_, by assumption, by omega, by omega, (ow.put 1 rfl).drop⟩
    rcases List.mem_append.mp h with h | h
    · exact hb s h
    · obtain rfl := List.mem_singleton.mp h
      exact ⟨N0, N1⟩
  rintro D acc H1 nD ⟨x', z', l, rfl, hl, hb, wk', h1, h2, ow⟩ la
  obtain ⟨s0, s1, rfl⟩ : ∃ s0 s1, l = [s0, s1] := by
    match l, hl with
    | [s0, s1], _ => exact ⟨s0, s1, rfl⟩
  have hs0 := hb s0 (by simp)
  have hs1 := hb s1 (by simp)
  dsimp only [List.map] at ow
  clear la wk
  have wk := wk'
  walk_at "go"
  refine r_cut (fun σ' H' => ∃ (F' : Hp) (D : Addr) (l1 l2 : List Int) (way x' z' : Int), σ' = [some (.ref a), some (.ref D), none, some (.str (txtB l1)), some (.str (txtB l2)), some (.int way), none, none, none, none, none, none, none, none, none, none, none, none, none] ∧ l1.length ≤ 60 ∧ 1 ≤ l2.length ∧ l2.length ≤ 60 ∧ (∀ b ∈ l1, b = 0 ∨ b = 1) ∧ (∀ b ∈ l2, b = 0 ∨ b = 1) ∧
    WOk y z' ∧ z ≤ z' ∧ z' ≤ z + 150 ∧ Own F' H' [(a, wl x' y z')] ∧ Same (fun b => if b = a then none else H b) F') ?_ ?_
  · walk_at "go"
    obtain ⟨F', o2, s2, hg⟩ := Own.frzs [_] ow
    exact ⟨F', D, _, _, _, _, _, rfl, by omega, by omega, by omega, by assumption, by assumption, by assumption, by omega, by omega, o2, s2⟩
  clear ow wk
  rintro σ' H2 ⟨F1, D, l1, l2, way, x', z', rfl, n1, n2, n3, bt1, bt2, wk, z0, z1, ow, sF⟩
  have ok : FbOk (txtB l1) (txtB l2) := ⟨fun c hc => by
    rw [txtB_list, txtB_list] at hc
    rcases List.mem_append.mp hc with h | h
    · obtain ⟨x, _, rfl⟩ := List.mem_map.mp h
      exact bt_bC x
    · obtain ⟨x, _, rfl⟩ := List.mem_map.mp h
      exact bt_bC x, by rw [txtB_len]; exact n2⟩
  have tz : T9 (txtB l1) := t9_bits (by omega)
  have ty : T9 (txtB l2) := t9_bits (by omega)
  have lz := txtB_len l1
  have ly := txtB_len l2
  generalize txtB l1 = Z at *
  generalize txtB l2 = Y at *
  have rd := rp_d9 tz ty
  refine r_cut (fun σ' H' => σ' = [some (.ref a), some (.ref D), none, some (.str Z), some (.str Y), some (.int way), none, none, none, none, none, none, none, none, none, none, none, none, none] ∧ Own F1 H' [(a, wl x' y z')]) ?_ ?_
  · walk_at "go"
    exact ⟨rfl, ow⟩
  clear ow
  rintro σ' H3 ⟨rfl, ow⟩
  refine r_cut (fun σ' H' => ∃ (F' : Hp) (W dW : Addr), σ' = [some (.ref a), some (.ref D), none, some (.str Z), some (.str Y), some (.int way), some (.ref W), none, none, none, none, none, none, none, none, none, none, none, none] ∧ Own F' H' [(a, wl x' y z')] ∧ Same F1 F' ∧ F' W = some (cw C dW (fbT Z Y) (1 - 2 ^ Y.length))) ?_ ?_
  · walk_at "go"
    obtain ⟨F', o2, s2, hg⟩ := Own.frzs [_] ow
    exact ⟨F', _, _, rfl, o2, s2, hg 0 _ _ rfl⟩
  clear ow
  rintro σ' H4 ⟨F2, W, dW, rfl, ow, s2, eW⟩
  have bd := fb_bd tz ty ok
  have pb := nm_pos (t := fbT Z Y) bd.ne
  have ob := odd_nm bd.ok
  have gc := nm_co (t := fbT Z Y) bd.ne
  have te := told_eq ok
  unfold cw at eW
  obtain ⟨N, hL⟩ := isLead_ex ob pb (wT (fbT Z Y) (1 - 2 ^ Y.length))
  obtain ⟨S, hS⟩ := isSpan_ex ob pb
  have hN : N ≤ 402 := lead_log ob pb (Nat.lt_of_le_of_lt (wT_le bd.ne) bd.p1) hL
  have hS1 : S ≤ 60 := by
    by_cases c : Y.length < S
    · exact absurd (Int.dvd_trans (show wB (fbT Z Y) (1 - 2 ^ Y.length) ∣ 1 - 2 ^ Y.length from ⟨wSh (fbT Z Y) (1 - 2 ^ Y.length), wB_mul.symm⟩) (show (1 : Int) - 2 ^ Y.length ∣ 2 ^ Y.length - 1 from ⟨-1, by omega⟩)) (hS.no Y.length ok.2 c)
    · omega
  have fw : Few (wT (fbT Z Y) (1 - 2 ^ Y.length)) (wB (fbT Z Y) (1 - 2 ^ Y.length)) := ⟨pb, ob, gc, fun L p h1 h2 => by
    rw [isLead_uniq h1 hL, isSpan_uniq h2 hS]
    omega⟩
  generalize wT (fbT Z Y) (1 - 2 ^ Y.length) = t at *
  generalize wB (fbT Z Y) (1 - 2 ^ Y.length) = b at *
  walk_at "go"
  have hN1 := isLead_uniq hL ‹IsLead b t N›
  have hS2 := isSpan_uniq hS ‹IsSpan b S›
  subst hN1 hS2
  refine r_cut (fun σ' H' => σ' = [some (.ref a), some (.ref D), none, some (.str Z), some (.str Y), some (.int way), some (.ref W), some (.ref pL), some (.int nL), some (.int nS), none, none, none, none, none, none, none, none, none] ∧ Own F2 H' [(a, wl x' y z')]) ?_ ?_
  · walk_at "go"
    obtain ⟨F', o2, s2, hg⟩ := Own.frzs [_, _, _, _, _] ow
    exact ⟨rfl, o2.weak s2⟩
  clear ow
  rintro σ' H5 ⟨rfl, ow⟩
  have hb3 : ∀ c ∈ ((Z ++ Y) ++ Y).cps.toList, Bt c := fun c hc => by
    rcases mem_app.mp hc with h | h
    · rcases mem_app.mp h with h | h
      · exact ok.1 c (List.mem_append_left _ h)
      · exact ok.1 c (List.mem_append_right _ h)
    · exact ok.1 c (List.mem_append_right _ h)
  have la1 := len_app Z Y
  have la2 := len_app (Z ++ Y) Y
  have rb := rp_bits (bitsZ_bit ((Z ++ Y) ++ Y)) (by rw [bitsZ_len]; omega)
  walk_at "go"
  rw [show ((Z.length : Int) + 2 * (Y.length : Int)).toNat = Z.length + 2 * Y.length by omega, te] at ow
  refine r_cut (fun σ' H' => ∃ u7 u10 : Option V, σ' = [some (.ref a), some (.ref D), none, some (.str Z), some (.str Y), some (.int way), some (.ref W), u7, some (.int nL), some (.int nS), u10, none, none, none, none, none, none, none, none] ∧ Own F2 H' [(a, wl x' y z')]) ?_ ?_
  · walk_at "go"
    refine r_lc ?_
    walk_at "go"
    obtain ⟨F', o2, s2, hg⟩ := Own.frzs [_, _, _] ow
    exact o2.weak s2
  clear ow
  rintro σ' H6 ⟨u7, u10, rfl, ow⟩
  refine r_cut (fun σ' H' => ∃ s : Str, σ' = [some (.ref a), some (.ref D), none, some (.str Z), some (.str Y), some (.int way), some (.ref W), u7, some (.int nL), some (.int nS), u10, none, some (.str s), none, none, none, none, none, none] ∧ SgOk s ∧ Own F2 H' [(a, wl x' y z')]) ?_ ?_
  · walk_at "go"
    exact ⟨by decide +kernel, ow⟩
  clear ow
  rintro σ' H7 ⟨sg, rfl, ⟨sg1, sg2, sg3⟩, ow⟩
  walk_at "go"
  obtain ⟨c, hc, cn0, cn1, cl⟩ : ∃ c, atI sg.cps.toList vw = some c ∧ (c ≠ 48 ∧ c ≠ 49 ∧ c < 1000) := by
    have l := str_len (z := sg)
    have z : vw.toNat < sg.cps.toList.length := by omega
    refine ⟨sg.cps.toList[vw.toNat], ?_, sg3 _ (List.getElem_mem z)⟩
    unfold atI ixN
    rw [if_pos v0, if_pos (by omega)]
    exact List.getElem?_eq_getElem z
  refine r_ixStr (by omega) hc ?_
  walk_at "go"
  have tz2 : Tx 59 (tkS Z (Int.toNat 59)) := ⟨(tkS_len Z (Int.toNat 59)).2, fun c h => tz.a c (mem_tk h)⟩
  have ty2 : Tx 59 (tkS Y (Int.toNat 59)) := ⟨(tkS_len Y (Int.toNat 59)).2, fun c h => ty.a c (mem_tk h)⟩
  have hy2 : ∀ c ∈ (tkS Y (Int.toNat 59)).cps.toList, Bt c := fun c h => ok.1 c (List.mem_append_right _ (mem_tk h))
  have hn2 : 1 ≤ (tkS Y (Int.toNat 59)).length := by
    have l := str_len (z := Y)
    have o2 := ok.2
    rw [← str_len, tkS_list, List.length_take]
    show 1 ≤ min 59 _
    omega
  generalize tkS Z (Int.toNat 59) = Z2 at *
  generalize tkS Y (Int.toNat 59) = Y2 at *
  have lz2 := tz2.l
  have ly2 := ty2.l
  refine r_cut (fun σ' H' => ∃ (pl sp x2 z2 : Int), σ' = [some (.ref a), some (.ref D), none, some (.str Z2), some (.str Y2), some (.int way), some (.ref W), u7, some (.int nL), some (.int nS), u10, none, some (.str sg), some (.str ⟨#[c]⟩), some (.int pl), some (.int sp), none, none, none] ∧ 0 ≤ pl ∧ pl ≤ Y2.length ∧ 0 ≤ sp ∧ sp ≤ Z2.length ∧
    WOk y z2 ∧ z ≤ z2 ∧ z2 ≤ z + 170 ∧ Own F2 H' [(a, wl x2 y z2)]) ?_ ?_
  · walk_at "go"
    exact ⟨_, _, _, _, rfl, by omega, by omega, by omega, by omega, by assumption, by omega, by omega, ow⟩
  clear ow wk
  rintro σ' H8 ⟨pl, sp, x2, z2, rfl, p0, p1, q0, q1, wk, z0, z1, ow⟩
  have lo : (⟨#[c]⟩ : Str).length = 1 := rfl
  have tc := tx_one cl
  have nc : ¬ Bt c := fun h => by rcases h with h | h <;> omega
  have a1 := (tkS_len Z2 sp.toNat).1
  have a2 := drS_len Z2 sp.toNat
  have a3 := len_app (tkS Z2 sp.toNat) ⟨#[c]⟩
  have a4 := (tkS_len Y2 pl.toNat).1
  have a5 := drS_len Y2 pl.toNat
  have a6 := len_app (tkS Y2 pl.toNat) ⟨#[c]⟩
  have a7 := drS_len Z2 (sp + 1).toNat
  walk_at "go"
  have ow0 := ow
  have e00 : (Str.ofString "") = ⟨#[]⟩ := by decide +kernel
  have t0 : T9 (Str.ofString "") := by rw [e00]; exact ⟨Nat.zero_le _, fun c h => by simp at h⟩
  refine for_list (fun _ σ' H'' => ∃ u16 u17 u18 : Option V, σ' = [some (.ref a), some (.ref D), none, some (.str Z2), some (.str Y2), some (.int way), some (.ref W), u7, some (.int nL), some (.int nS), u10, none, some (.str sg), some (.str ⟨#[c]⟩), some (.int pl), some (.int sp), u16, u17, u18] ∧ Same H' H'') ⟨_, _, _, rfl, Same.refl H'⟩ (fun i σ' H'' hi ⟨u, v, w, e, s⟩ => s.seq (SqL.of (ow0.get 0 rfl))) ?_ ?_
  · rintro i w1 σ' H'' hx ⟨u16, u17, u18, rfl, s⟩
    have ow1 := ow0.same s
    have xw : ∃ (p : Addr) (l r : Str), w1 = .ref p ∧ H'' p = some (.tup [.str l, .str r]) ∧ T9 l ∧ T9 r ∧ ¬ FbOk l r := by
      match i, hx with
      | 0, h => cases h; exact ⟨_, _, _, rfl, ow1.get _ (by walk_at "oi"), (((tz2.tk _).app tc).app (tz2.dr _)).t9 (by decide), ty2.t9 (by decide), fun k => nc (k.1 c (List.mem_append_left _ (mem_app.mpr (.inl (mem_app.mpr (.inr (mem_one c)))))))⟩
      | 1, h => cases h; exact ⟨_, _, _, rfl, ow1.get _ (by walk_at "oi"), tz2.t9 (by decide), (((ty2.tk _).app tc).app (ty2.dr _)).t9 (by decide), fun k => nc (k.1 c (List.mem_append_right _ (mem_app.mpr (.inl (mem_app.mpr (.inr (mem_one c)))))))⟩
      | 2, h => cases h; exact ⟨_, _, _, rfl, ow1.get _ (by walk_at "oi"), tz2.t9 (by decide), t0, fun k => by have k2 := k.2; rw [e00] at k2; exact absurd k2 (by decide)⟩
      | 3, h => cases h; exact ⟨_, _, _, rfl, ow1.get _ (by walk_at "oi"), (((tz2.tk _).app tc).app (tz2.dr _)).t9 (by decide), tc.t9 (by decide), fun k => nc (k.1 c (List.mem_append_right _ (mem_one c)))⟩
      | 4, h => cases h; exact ⟨_, _, _, rfl, ow1.get _ (by walk_at "oi"), tc.t9 (by decide), ty2.t9 (by decide), fun k => nc (k.1 c (List.mem_append_left _ (mem_one c)))⟩
    obtain ⟨p, l, r, rfl, ep, tl, tr, no⟩ := xw
    have sqp : SqT K H'' p [.str l, .str r] := SqT.of ep
    clear ow
    have ow := Own.start H''
    walk_at "go"
    exact ⟨_, _, _, rfl, s.trans ow.toSame_of⟩
  · rintro σ' H'' ⟨u16, u17, u18, rfl, s⟩
    have ow1 := ow0.same s
    clear ow
    obtain ⟨F', o2, s3, hg⟩ := Own.frzs [_, _, _, _, _, _, _, _] ow1
    have ow := o2.weak (s2.trans s3)
    have ty9 := ty2.t9 (show 59 ≤ 200 by decide)
    have rd3 := rp_d9 t0 ty9
    clear o2 ow1 ow0
    walk_at "go"
    rw [decide_eq_true rfl]
    exact q _ _ _ (by omega) (by omega) ((ow.weak sF).mut_of g0)
end

/-! the class Word by the head -/
theorem gFlip_rel : ∀ {vs zs : List V} {us ws : List Value}, Vals vs us → Vals zs ws → Vals (gFlip vs zs) (gFlip us ws)
  | _, _, _, _, .nil, _ => .nil
  | _, _, _, _, .cons _ _, .nil => .nil
  | _, _, _, _, .cons _ _, .cons _ .nil => .nil
  | _, _, _, _, .cons a _, .cons b (.cons c _) => .cons a (.cons c (.cons b .nil))
theorem wordC_of {P : Program} {w : World} {K : PySem.W.Frag} {h base : Heap} {mg : Str → Option Value} {fd : FuncData} {I : Addr} (X : K.In h) (G : h.Ns mainGlobals mg) (g : qGlo "Word" K = true) (c : qCls "Word" K = true) (n1 : qNoat "Word" "kept_top" K = true) (n2 : qNoat "Word" "kept_bottom" K = true) (m : qMkr "Word" K = true)
    (F : FunD K "__init__" "Word.__init__" (defArgs s_Word___init__) (defBody s_Word___init__) (defScope s_Word___init__) [.int 1] [] (He.ma K (He.ga K "Word") "__init__") fd)
    (ok : FnOk P w K mg base (L2.CX P w) 4 (He.ma K (He.ga K "Word") "__init__") fd ["self", "top", "bottom"] (sp_Word_init (He.ga K "Word") I)) : WordC P w K mg base (He.ga K "Word") I := by
  refine ⟨He.cls_ok c, He.noat_ok n1, He.noat_ok n2, He.glo_ok X G g, _, fd, He.mkr_ok m, ok, ?_, ?_, ?_, ?_⟩
  · exact cb_dfl F 3 [] (fun vs _ _ => vs) (by simp) (fun r _ _ => r) fun T kV doc pm an cdv ct us its ws l1 l2 l3 => match us, its, ws, l1, l2, l3 with | [_, _, _], [_], [], _, _, _ => ⟨_, rfl, rfl⟩
  · exact cb_dfl F 2 [] gPo1 (by simp) (fun r d _ => vals_app r d) fun T kV doc pm an cdv ct us its ws l1 l2 l3 => match us, its, ws, l1, l2, l3 with | [_, _], [_], [], _, _, _ => ⟨_, rfl, rfl⟩
  · exact cb_dfl F 1 ["bottom", "top"] (fun vs _ zs => gFlip vs zs) (by simp) (fun r _ z => gFlip_rel r z) fun T kV doc pm an cdv ct us its ws l1 l2 l3 => match us, its, ws, l1, l2, l3 with | [_], [_], [_, _], _, _, _ => ⟨_, rfl, rfl⟩
  · exact cb_dfl F 1 ["top"] gKw1 (by simp) (fun r d z => vals_app (vals_app r z) d) fun T kV doc pm an cdv ct us its ws l1 l2 l3 => match us, its, ws, l1, l2, l3 with | [_], [_], [_], _, _, _ => ⟨_, rfl, rfl⟩

/-! the signs by the head -/
theorem ty_of {K : PySem.W.Frag} {x : Str} (cl : Cls K (He.ga K x)) (h : qTy x K = true) : WTy K (He.ga K x) := by
  obtain ⟨h1, h⟩ := ban h
  obtain ⟨h2, h⟩ := ban h
  obtain ⟨h3, h⟩ := ban h
  obtain ⟨h4, h⟩ := ban h
  obtain ⟨h5, h⟩ := ban h
  obtain ⟨h6, h7⟩ := ban h
  exact ⟨cl, of_decide_eq_true h1, of_decide_eq_true h2, of_decide_eq_true h3, of_decide_eq_true h4, of_decide_eq_true h5, of_decide_eq_true h6, of_decide_eq_true h7⟩
theorem cb_non {K : PySem.W.Frag} {x qual : Str} {params : Arguments} {body : List Stmt} {scope : Scope} {f : Addr} {fd : FuncData} {ps : List Str} (F : FunD K x qual params body scope [] [] f fd) (n : Nat) (ks : List Str) (g : {α : Type} → List α → List α → List α) (hrel : ∀ {vs zs : List V} {us ws : List Value}, Vals vs us → Vals zs ws → Vals (g vs zs) (g us ws))
    (h : ∀ (kV doc pm : Value) (an : Option Addr) (cdv ct : Value) (us ws : List Value), us.length = n → ws.length = ks.length → PySem.bindArgs (PySem.W.fnOf x qual params body scope .none kV doc pm an cdv ct) ⟨us, ks.zip ws⟩ = pure (ps.zip (g us ws))) : Cb K fd ps n ks g := by
  obtain ⟨oc, od, dV, kV, doc, pm, an, cdv, ct, osl, rfl, lk, hcd, hD, hK⟩ := F.ex
  rcases hD with ⟨_, rfl⟩ | ⟨e, _⟩
  · exact ⟨g, ⟨fun s us ws X l1 l2 => .of_eq (h kV doc pm an cdv ct us ws l1 l2), fun r1 r2 => hrel r1 r2⟩⟩
  · exact absurd rfl e
theorem rn_of {K : PySem.W.Frag} {x : Str} {nm : String} (h : qRn x nm K = true) : PySem.W.findIn K (.ref (He.ga K x)) (dunderR nm) = some none := of_decide_eq_true h

theorem facts {P : Program} {w : World} {K : PySem.W.Frag} {h : Heap} {mg : Str → Option Value} {f : Addr} (X : K.In h) (G : h.Ns mainGlobals mg) (hf : mg ("law" : Str) = some (.ref f)) (c : SaysM fa fn K) :
    ∃ fd : FuncData, (∀ (s : Shared) (v : Value), BindsTo s fd ⟨[v], []⟩ [("_law_script", v)]) ∧ ∀ base : Heap, K.In base → base.Ns mainGlobals mg → FnG P w K mg base CX0 21 f fd ["_law_script"] (sp_law K) := by
  obtain ⟨f__law_well, F__law_well⟩ := c.d 0 (d := d__law_well) rfl
  obtain ⟨f__law_take, F__law_take⟩ := c.d 1 (d := d__law_take) rfl
  obtain ⟨f__law_text, F__law_text⟩ := c.d 2 (d := d__law_text) rfl
  obtain ⟨f_BitError___init__, F_BitError___init__⟩ := c.d 3 (d := d_BitError___init__) rfl
  obtain ⟨f_repeated, F_repeated⟩ := c.d 4 (d := d_repeated) rfl
  obtain ⟨f_number_of, F_number_of⟩ := c.d 5 (d := d_number_of) rfl
  obtain ⟨f_common_part, F_common_part⟩ := c.d 6 (d := d_common_part) rfl
  obtain ⟨f_Word___init__, F_Word___init__⟩ := c.d 7 (d := d_Word___init__) rfl
  obtain ⟨f_from_bits, F_from_bits⟩ := c.d 8 (d := d_from_bits) rfl
  obtain ⟨f_Word_top, F_Word_top⟩ := c.d 9 (d := d_Word_top) rfl
  obtain ⟨f_Word_bottom, F_Word_bottom⟩ := c.d 10 (d := d_Word_bottom) rfl
  obtain ⟨f__law_caught, F__law_caught⟩ := c.d 11 (d := d__law_caught) rfl
  obtain ⟨f__law_worth, F__law_worth⟩ := c.d 12 (d := d__law_worth) rfl
  obtain ⟨f__law_shared, F__law_shared⟩ := c.d 13 (d := d__law_shared) rfl
  obtain ⟨f__law_lowest, F__law_lowest⟩ := c.d 14 (d := d__law_lowest) rfl
  obtain ⟨f__law_due, F__law_due⟩ := c.d 15 (d := d__law_due) rfl
  obtain ⟨f_lead_of, F_lead_of⟩ := c.d 16 (d := d_lead_of) rfl
  obtain ⟨f_Word_lead, F_Word_lead⟩ := c.d 17 (d := d_Word_lead) rfl
  obtain ⟨f_span_of, F_span_of⟩ := c.d 18 (d := d_span_of) rfl
  obtain ⟨f_Word_span, F_Word_span⟩ := c.d 19 (d := d_Word_span) rfl
  obtain ⟨f_parts_of, F_parts_of⟩ := c.d 20 (d := d_parts_of) rfl
  obtain ⟨f_weight_of, F_weight_of⟩ := c.d 21 (d := d_weight_of) rfl
  obtain ⟨f_Term_weight, F_Term_weight⟩ := c.d 22 (d := d_Term_weight) rfl
  obtain ⟨f_Term___init__, F_Term___init__⟩ := c.d 23 (d := d_Term___init__) rfl
  obtain ⟨f_fixed, F_fixed⟩ := c.d 24 (d := d_fixed) rfl
  obtain ⟨f__law_cycle, F__law_cycle⟩ := c.d 25 (d := d__law_cycle) rfl
  obtain ⟨f__law_bits, F__law_bits⟩ := c.d 26 (d := d__law_bits) rfl
  obtain ⟨f__law_fits, F__law_fits⟩ := c.d 27 (d := d__law_fits) rfl
  obtain ⟨f_law, F_law⟩ := c.d 28 (d := d_law) rfl
  have e := hf.symm.trans (He.glo_ok X G (c.q 1 (f := qGlo "law") rfl))
  cases e
  have B := bi_of X G (c.q 0 (f := qBi) rfl)
  have b := FunD.bindsA (ps := ["_law_script"]) F_law (fun _ _ _ _ _ _ us hl => match us, hl with | [_], _ => rfl)
  refine ⟨f_law, fun s v => b s [v] rfl, fun base Xb Gb => ?_⟩
  have c__law_well : Fo P w K mg base CX0 1 "_law_well" _ _ := fo_of X G (c.q 2 (f := qGlo "_law_well") rfl) (ok_well F__law_well B) F__law_well.kp (F__law_well.bindsN (fun _ _ _ _ _ _ us hl => match us, hl with | [_, _], _ => rfl))
  have c__law_take : Fo P w K mg base CX0 1 "_law_take" _ _ := fo_of X G (c.q 3 (f := qGlo "_law_take") rfl) (ok_take F__law_take B) F__law_take.kp (F__law_take.bindsN (fun _ _ _ _ _ _ us hl => match us, hl with | [_, _], _ => rfl))
  have c__law_text : Fo P w K mg base CX0 2 "_law_text" _ _ := fo_of X G (c.q 4 (f := qGlo "_law_text") rfl) (ok__law_text F__law_text B c__law_take) F__law_text.kp (F__law_text.bindsN (fun _ _ _ _ _ _ us hl => match us, hl with | [_, _], _ => rfl))
  have xi := ok_excInit (P := P) (w := w) (mg := mg) (base := base) F_BitError___init__
  have bi := F_BitError___init__.bindsN (ps := ["self", "value"]) (fun _ _ _ _ _ _ us hl => match us, hl with | [_, _], _ => rfl)
  have x_BitError : Xc P w K mg base "BitError" _ := xc_of X G (c.q 5 (f := qGlo "BitError") rfl) (c.q 6 (f := qXc "BitError") rfl) xi bi
  have x_InvalidWord : Xc P w K mg base "InvalidWord" _ := xc_of X G (c.q 7 (f := qGlo "InvalidWord") rfl) (c.q 8 (f := qXc "InvalidWord") rfl) xi bi
  have c_repeated : Fo P w K mg base CX0 1 "repeated" _ _ := fo_of X G (c.q 9 (f := qGlo "repeated") rfl) (ok_repeated F_repeated B) F_repeated.kp (F_repeated.bindsN (fun _ _ _ _ _ _ us hl => match us, hl with | [_, _, _, _], _ => rfl))
  have c_number_of : Fo P w K mg base CX0 1 "number_of" _ _ := fo_of X G (c.q 10 (f := qGlo "number_of") rfl) (ok_number_of F_number_of B) F_number_of.kp (F_number_of.bindsN (fun _ _ _ _ _ _ us hl => match us, hl with | [_], _ => rfl))
  have cl := He.cls_ok (c.q 11 (f := qCls "Word") rfl)
  have nT := He.noat_ok (c.q 12 (f := qNoat "Word" "kept_top") rfl)
  have nB := He.noat_ok (c.q 13 (f := qNoat "Word" "kept_bottom") rfl)
  have c_common_part : Fo P w K mg base CX0 1 "common_part" _ _ := fo_of X G (c.q 14 (f := qGlo "common_part") rfl) (ok_common_part F_common_part B) F_common_part.kp (F_common_part.bindsN (fun _ _ _ _ _ _ us hl => match us, hl with | [_, _], _ => rfl))
  have c_Word := wordC_of (P := P) (w := w) (base := base) X G (c.q 15 (f := qGlo "Word") rfl) (c.q 11 (f := qCls "Word") rfl) (c.q 12 (f := qNoat "Word" "kept_top") rfl) (c.q 13 (f := qNoat "Word" "kept_bottom") rfl) (c.q 16 (f := qMkr "Word") rfl) F_Word___init__ (ok_Word_init F_Word___init__ B cl nT nB c_common_part x_InvalidWord)
  have c_from_bits : Fo P w K mg base (L2.CX P w) 6 "from_bits" _ _ := fo_of X G (c.q 17 (f := qGlo "from_bits") rfl) (ok_from_bits F_from_bits B x_InvalidWord c_repeated c_number_of c_Word) F_from_bits.kp (F_from_bits.bindsN (fun _ _ _ _ _ _ us hl => match us, hl with | [_, _], _ => rfl))
  have k_from_bits : FoK P w K mg base (L2.CX P w) 6 "from_bits" ["lead", "span"] _ ["span", "lead"] gKB := foK_of (h := h) (He.glo_ok X G (c.q 17 (f := qGlo "from_bits") rfl)) (ok_from_bits F_from_bits B x_InvalidWord c_repeated c_number_of c_Word) F_from_bits.kp (cb_non F_from_bits 0 ["span", "lead"] gKB (fun a b => gKB_rel a b) (fun kV doc pm an cdv ct us ws l1 l2 => match us, ws, l1, l2 with | [], [_, _], _, _ => rfl))
  have p_top : PrC P w K mg base CX0 _ "top" 1 _ := prc_of (c.q 11 (f := qCls "Word") rfl) (c.q 18 (f := qProp "Word" "top") rfl) (ok_Word_top F_Word_top cl nT) (F_Word_top.bindsN (fun _ _ _ _ _ _ us hl => match us, hl with | [_], _ => rfl))
  have p_bottom : PrC P w K mg base CX0 _ "bottom" 1 _ := prc_of (c.q 11 (f := qCls "Word") rfl) (c.q 19 (f := qProp "Word" "bottom") rfl) (ok_Word_bottom F_Word_bottom cl nB) (F_Word_bottom.bindsN (fun _ _ _ _ _ _ us hl => match us, hl with | [_], _ => rfl))
  have xs_InvalidWord := xs_of (c.q 20 (f := qXs "BitError" "InvalidWord") rfl)
  have c__law_caught : Fo P w K mg base CX0 9 "_law_caught" _ _ := fo_of X G (c.q 21 (f := qGlo "_law_caught") rfl) (ok__law_caught F__law_caught B x_BitError c_from_bits k_from_bits x_InvalidWord p_top p_bottom xs_InvalidWord) F__law_caught.kp (F__law_caught.bindsN (fun _ _ _ _ _ _ us hl => match us, hl with | [_, _, _], _ => rfl))
  have c__law_worth : Fo P w K mg base CX0 1 "_law_worth" _ _ := fo_of X G (c.q 22 (f := qGlo "_law_worth") rfl) (ok__law_worth F__law_worth B) F__law_worth.kp (F__law_worth.bindsN (fun _ _ _ _ _ _ us hl => match us, hl with | [_], _ => rfl))
  have c__law_shared : Fo P w K mg base CX0 1 "_law_shared" _ _ := fo_of X G (c.q 23 (f := qGlo "_law_shared") rfl) (ok_shared F__law_shared B) F__law_shared.kp (F__law_shared.bindsN (fun _ _ _ _ _ _ us hl => match us, hl with | [_, _], _ => rfl))
  have c__law_lowest : Fo P w K mg base CX0 2 "_law_lowest" _ _ := fo_of X G (c.q 24 (f := qGlo "_law_lowest") rfl) (ok_lowest F__law_lowest B c__law_shared) F__law_lowest.kp (F__law_lowest.bindsN (fun _ _ _ _ _ _ us hl => match us, hl with | [_], _ => rfl))
  have c__law_due : Fo P w K mg base CX0 4 "_law_due" _ _ := fo_of X G (c.q 25 (f := qGlo "_law_due") rfl) (ok__law_due F__law_due B c__law_worth c__law_lowest) F__law_due.kp (F__law_due.bindsN (fun _ _ _ _ _ _ us hl => match us, hl with | [_, _], _ => rfl))
  have c_lead_of : Fo P w K mg base CX0 1 "lead_of" _ _ := fo_of X G (c.q 26 (f := qGlo "lead_of") rfl) (ok_lead_of F_lead_of B) F_lead_of.kp (F_lead_of.bindsN (fun _ _ _ _ _ _ us hl => match us, hl with | [_, _], _ => rfl))
  have p_lead : PrC P w K mg base CX0 _ "lead" 2 _ := prc_of (c.q 11 (f := qCls "Word") rfl) (c.q 27 (f := qProp "Word" "lead") rfl) (ok_Word_lead F_Word_lead B c_lead_of cl nT nB) (F_Word_lead.bindsN (fun _ _ _ _ _ _ us hl => match us, hl with | [_], _ => rfl))
  have c_span_of : Fo P w K mg base CX0 1 "span_of" _ _ := fo_of X G (c.q 28 (f := qGlo "span_of") rfl) (ok_span_of F_span_of B) F_span_of.kp (F_span_of.bindsN (fun _ _ _ _ _ _ us hl => match us, hl with | [_], _ => rfl))
  have p_span : PrC P w K mg base CX0 _ "span" 2 _ := prc_of (c.q 11 (f := qCls "Word") rfl) (c.q 29 (f := qProp "Word" "span") rfl) (ok_Word_span F_Word_span B c_span_of cl nB) (F_Word_span.bindsN (fun _ _ _ _ _ _ us hl => match us, hl with | [_], _ => rfl))
  have c_parts_of : Fo P w K mg base CX0 1 "parts_of" _ _ := fo_of X G (c.q 30 (f := qGlo "parts_of") rfl) (ok_parts_of F_parts_of B) F_parts_of.kp (F_parts_of.bindsN (fun _ _ _ _ _ _ us hl => match us, hl with | [_], _ => rfl))
  have c_weight_rec : Fo P w K mg base CX0 1 "weight_of" _ spF := fo_of X G (c.q 31 (f := qGlo "weight_of") rfl) (ok_weight_rec F_weight_of) F_weight_of.kp (F_weight_of.bindsN (fun _ _ _ _ _ _ us hl => match us, hl with | [_], _ => rfl))
  have clT := He.cls_ok (c.q 32 (f := qCls "Term") rfl)
  have nTs := He.noat_ok (c.q 33 (f := qNoat "Term" "sign") rfl)
  have nTf := He.noat_ok (c.q 34 (f := qNoat "Term" "first") rfl)
  have nTd := He.noat_ok (c.q 35 (f := qNoat "Term" "second") rfl)
  have c_weight_of : Fo P w K mg base CX0 4 "weight_of" _ _ := fo_of X G (c.q 31 (f := qGlo "weight_of") rfl) (ok_weight_of F_weight_of B p_lead p_span c_parts_of c_weight_rec clT nTs nTf nTd) F_weight_of.kp (F_weight_of.bindsN (fun _ _ _ _ _ _ us hl => match us, hl with | [_], _ => rfl))
  have p_weight : PrC P w K mg base CX0 _ "weight" 5 _ := prc_of (c.q 32 (f := qCls "Term") rfl) (c.q 36 (f := qProp "Term" "weight") rfl) (ok_Term_weight F_Term_weight B c_weight_of) (F_Term_weight.bindsN (fun _ _ _ _ _ _ us hl => match us, hl with | [_], _ => rfl))
  have c_Term : ClC P w K mg base "Term" _ 1 _ _ := clC_of X G (c.q 37 (f := qGlo "Term") rfl) (c.q 38 (f := qMkr "Term") rfl) (ok_Term___init__ F_Term___init__ B clT nTs nTf nTd) (F_Term___init__.bindsN (fun _ _ _ _ _ _ us hl => match us, hl with | [_, _, _, _], _ => rfl))
  have c_fixed : Fo P w K mg base CX0 3 "fixed" _ _ := fo_of X G (c.q 39 (f := qGlo "fixed") rfl) (ok_fixed F_fixed B c_Term) F_fixed.kp (F_fixed.bindsN (fun _ _ _ _ _ _ us hl => match us, hl with | [_], _ => rfl))
  have c__law_cycle : Fo P w K mg base CX0 1 "_law_cycle" _ _ := fo_of X G (c.q 40 (f := qGlo "_law_cycle") rfl) (ok_cycle F__law_cycle B) F__law_cycle.kp (F__law_cycle.bindsN (fun _ _ _ _ _ _ us hl => match us, hl with | [_], _ => rfl))
  have c__law_bits : Fo P w K mg base CX0 1 "_law_bits" _ _ := fo_of X G (c.q 41 (f := qGlo "_law_bits") rfl) (ok_bits F__law_bits B) F__law_bits.kp (F__law_bits.bindsN (fun _ _ _ _ _ _ us hl => match us, hl with | [_, _], _ => rfl))
  have c__law_fits : FoG P w K mg base CX0 20 "_law_fits" _ _ := foG_of X G (c.q 42 (f := qGlo "_law_fits") rfl) (ok__law_fits F__law_fits B c__law_take c__law_text c__law_caught c__law_due c_from_bits p_lead p_span p_weight c_fixed c__law_cycle p_top p_bottom c__law_bits) F__law_fits.kp (F__law_fits.bindsN (fun _ _ _ _ _ _ us hl => match us, hl with | [_], _ => rfl))
  exact ok_law F_law B c__law_well c__law_fits
end Bs
open PySem PySem.W PySem.Calls PyProof.Rows
theorem PySem.Challenge.cw_bitsolve_k09_words_of_texts_holds : PySem.Challenge.rw_bitsolve_k09_words_of_texts.Holds := by
  w_on; o_law
  refine HandSHeadRun.head_any (r := Bs.Rw) (q := view Bs.Rw.prog [42]) (H := Bs.hkM) (ob := Bs.ob) (M := 6000) (loose := ("_wall" :: "BitError" :: "InvalidWord" :: "NotOdd" :: "InvalidPlace" :: "UnknownName" :: "InvalidShift" :: "common_part" :: "inverse_low" :: "low_of" :: "lead_of" :: "span_of" :: "fraction_of" :: "repeated" :: "bits_mixed" :: "Word" :: "number_of" :: "from_bits" :: "PAIR_SIGNS" :: "fixed" :: "term_of" :: "parts_of" :: "names_in" :: "weight_of" :: "value_of" :: "check_known" :: "Term" :: "_law_well" :: "_law_take" :: "_law_shared" :: "_law_lowest" :: "_law_bits" :: "_law_worth" :: "_law_cycle" :: "_law_text" :: "_law_caught" :: "_law_due" :: "_law_fits" :: [])) (d := HandSHeadRun.topDef Bs.Rw.prog 42) (kwd := []) Bs.ob_eq
    (by kernel_rfl) (fun s => by kernel_rfl) Bs.headRun (by kernel_rfl) (by kernel_rfl) (by kernel_rfl) (by rfl) (by first | assumption | decide +kernel) (by decide +kernel) ⟨rfl, rfl, rfl, rfl, rfl, by decide +kernel⟩ ?hw ?hc
  case hw => w_witness2
  case hc =>
    refine Bs.walk_G (l := PySem.Challenge.rw_bitsolve_k09_words_of_texts) (n := 63) (k := 21) (x := "_law_script") rfl (by decide) (by kernel_rfl) (Bs.room30.mono (by decide)) ?_
    intro w mg fa h Y G hmg0
    obtain ⟨K, KX, c⟩ := Y
    have hmg : mg ("law" : PySem.Str) = some (.ref fa) := by
      have e : (HandSHeadRun.topDef Bs.Rw.prog 42).name = ("law" : PySem.Str) := by kernel_rfl
      rw [← e]
      exact hmg0
    obtain ⟨fd, hb, hF⟩ := Bs.facts (P := (PySem.Challenge.rw_bitsolve_k09_words_of_texts).prog) (w := w) KX G hmg c
    exact ⟨K, fd, Bs.sp_law K, KX, hb, fun H a ns hl hbits hS => ⟨a, ns, rfl, hS, hl, fun _ _ => rfl⟩, hF⟩
